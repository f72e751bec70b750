import PyProof.Rows.All
import Wide.All
import OpenK.AllK
import Wide.FinOn
import KE.KStateDown
import HandS.ForMost
import HandS.ForExc
import HandS.Defaults
import HandS.Head0
import HandS.Head1
import HandS.Head2
import HandS.HeadEnd
import HandS.HeadHook1
import HandS.HeadHook2
import HandS.HeadHook3
import HandS.HeadHook4
import HandS.HeadWalk
import HandS.Flow
import HandS.Star
import HandS.Style
import HandS.Deep
import HandS.TupLe
import HandS.TupAny
import HandS.TupMul
import HandS.ExcInit
import HandS.WideBits
import HandS.Wide
import HandS.Zip
import HandS.RaiseMore
import HandS.IsInst
import HandS.ExcIs
import HandS.Lambda
import KE.SortData
import KE.DataMinMax
import KE.DataCmp
import KE.GoesMore
import HandS.ExcField
import HandS.SetFor
import HandS.Conv
import HandS.EndTab
import PySem.Challenge.RW_drybytheirhour_k31_whole_washed_then_wru
set_option Elab.async false
set_option linter.all false
set_option maxRecDepth 100000
set_option maxHeartbeats 0
set_option autoImplicit false
set_option exponentiation.threshold 5000
/-! The evaluator: values, terms, what they come to. -/
namespace Ev
open L2 PyProof.Rows PySem PySem.Spec

/-- a value: data; rows that hold other things; a def by its number; a caught error; a cell of the memory; a lambda; the script -/
inductive D where
  | py (p : PyData)
  | mt (xs : List D)
  | ml (xs : List D)
  | fn (k : Nat)
  | exc (c : Nat) (p : PyData)
  | cel (n : Nat)
  | clo (k : Nat)
  | scr (ns : List Int)

abbrev Mem := List (List PyData)
abbrev Slot := Option (D × Bool)
abbrev Nv := List Slot

def allPy : List D → Option (List PyData)
  | [] => some []
  | .py p :: r => (match allPy r with
    | some ps => some (p :: ps)
    | none => none)
  | _ :: _ => none
def mkT (ds : List D) : D := match allPy ds with
  | some ps => .py (.tuple ps)
  | none => .mt ds
def mkL (ds : List D) : D := match allPy ds with
  | some ps => .py (.list ps)
  | none => .ml ds
def items : D → Option (List D)
  | .py (.tuple ps) => some (ps.map .py)
  | .py (.list ps) => some (ps.map .py)
  | .mt ds => some ds
  | .ml ds => some ds
  | _ => none
/-- the items of a tuple -/
def itemsT : D → Option (List D)
  | .py (.tuple ps) => some (ps.map .py)
  | .mt ds => some ds
  | _ => none

inductive Op2 where
  | add | sub | mul | fdiv | mod | pow | shl | shr | band | bxor | bor
  deriving DecidableEq
inductive Cm where
  | eq | ne | lt | le | gt | ge | is | isnot | inn | notin
  deriving DecidableEq
inductive Ty where
  | tup | int | bool | str | lst | exc (c : Nat) | verr
  deriving DecidableEq
inductive Bi where
  | len | repr | str | int | tuple | list | all | any | sum | min | max | sorted | abs
  deriving DecidableEq
inductive Me where
  | index | count | join | split | upper | get
  deriving DecidableEq

/-- a target of a store: a slot, or several -/
inductive T where
  | nm (i : Nat)
  | tp (ts : List T)

mutual
inductive E where
  | no
  | lit (p : PyData)
  | gli (x : Str) (i : Int)
  | gls (x : Str) (s : Str)
  | glf (k : Nat)
  | var (i : Nat)
  | tup (es : Es)
  | lst (es : Es)
  | cell (es : Es)
  | bin (o : Op2) (a b : E)
  | neg (a : E)
  | not (a : E)
  | bop (isAnd : Bool) (es : Es)
  | cmp (a : E) (ops : List Cm) (es : Es)
  | ite (c a b : E)
  | ix (a b : E)
  | slc (a lo hi : E)
  | rev (a : E)
  | call (k : Nat) (es : Es)
  | bi (b : Bi) (es : Es)
  | isi (t : Ty) (e : E)
  | me (m : Me) (a : E) (es : Es)
  | comp (own : List (Str × Nat)) (t : T) (src : Src) (cond elt : E)
  | lsrc (src : Src)
  | attr (a : E)
  | hear (a : E)
  | hearL (a : E)
  | cv (ks : List Nat) (f : E) (es : Es)
  | lam (k : Nat)
  | lset (a : E)
  | stuck
inductive Es where
  | nil
  | cons (star : Bool) (e : E) (es : Es)
inductive Src where
  | it (e : E)
  | rng1 (b : E)
  | rng2 (a b : E)
  | rng3 (a b c : E)
  | enu (e : E)
  | zip (a b : E)
end

mutual
inductive S where
  | asg (t : T) (e : E)
  | par (ts : List Nat) (es : Es)
  | set (i : Nat) (ix v : E)
  | app (i : Nat) (e : E)
  | ext (i : Nat) (e : E)
  | pop (t : T) (i : Nat) (e : E)
  | appPop (j i : Nat) (e : E)
  | ex (e : E)
  | ret (e : E)
  | retn
  | ifs (c : E) (a b : Ss)
  | for_ (t : T) (src : Src) (body : Ss)
  | whl (c : E) (body : Ss)
  | rai (c : Nat) (e : E)
  | pas
  | brk
  | cnt
  | stuck
inductive Ss where
  | nil
  | cons (s : S) (ss : Ss)
end

/-! ### plain operations -/
def bits (n : Nat) (i : Int) : Bool := decide (i.natAbs < 2 ^ n)
def ob {α β : Type} (r : Option α) (k : α → Option β) : Option β := match r with
  | some a => k a
  | none => none
def orO {α β γ : Type} (f g : α → β → Option γ) (x : α) (y : β) : Option γ := match f x y with
  | some z => some z
  | none => g x y
def oInt (C : Int → Int → Bool) (g : Int → Int → Int) : D → D → Option (D × Bool)
  | .py (.int i), .py (.int j) => if C i j = true then some (.py (.int (g i j)), false) else none
  | _, _ => none
def oStr : D → D → Option (D × Bool)
  | .py (.str x), .py (.str y) => if x.length + y.length ≤ sizeLine then some (.py (.str (x ++ y)), false) else none
  | _, _ => none
def oTup : D → D → Option (D × Bool)
  | .py (.tuple xs), .py (.tuple ys) => if xs.length + ys.length ≤ sizeLine then some (.py (.tuple (xs ++ ys)), false) else none
  | _, _ => none
def oLst : D → D → Option (D × Bool)
  | .py (.list xs), .py (.list ys) => if xs.length + ys.length ≤ sizeLine then some (.py (.list (xs ++ ys)), true) else none
  | _, _ => none
def oRepT : D → D → Option (D × Bool)
  | .py (.tuple xs), .py (.int k) => if decide (2 ≤ k) && decide (k ≤ 1000) && decide (xs.length ≤ 1000) && !xs.isEmpty then some (.py (.tuple (List.replicate k.toNat xs).flatten), false) else none
  | _, _ => none
def oRepT1 : D → D → Option (D × Bool)
  | .py (.tuple xs), .py (.int k) => if k = 1 then some (.py (.tuple xs), false) else none
  | _, _ => none
def oRepL : D → D → Option (D × Bool)
  | .py (.list xs), .py (.int k) => if decide (k < 2 ^ 30) && decide (-(2 ^ 30) < k) && decide (xs.length * k.toNat ≤ sizeLine) then some (.py (.list (List.replicate k.toNat xs).flatten), true) else none
  | _, _ => none
def o2 : Op2 → D → D → Option (D × Bool)
  | .add, x, y => orO (oInt (fun _ _ => true) fun i j => i + j) (orO oStr (orO oTup oLst)) x y
  | .sub, x, y => oInt (fun _ _ => true) (fun i j => i - j) x y
  | .mul, x, y => orO (oInt (fun i j => bits 4000 i && bits 4000 j) fun i j => i * j) (orO oRepT (orO oRepT1 oRepL)) x y
  | .fdiv, x, y => oInt (fun _ j => decide (0 < j) && decide (j < 1073741824)) (fun i j => i / j) x y
  | .mod, x, y => oInt (fun _ j => decide (0 < j)) (fun i j => i % j) x y
  | .pow, x, y => oInt (fun i j => decide (0 ≤ j) && decide (j ≤ 1000) && bits 1000 i) (fun i j => i ^ j.toNat) x y
  | .shl, x, y => oInt (fun i j => decide (0 ≤ j) && decide (j ≤ 1000) && bits 60 i) (fun i j => i * 2 ^ j.toNat) x y
  | .shr, x, y => oInt (fun _ j => decide (0 ≤ j)) (fun i j => i / 2 ^ j.toNat) x y
  | .band, x, y => oInt (fun _ _ => true) Builtin.bitAnd x y
  | .bxor, x, y => oInt (fun _ _ => true) Builtin.bitXor x y
  | .bor, x, y => oInt (fun _ _ => true) Builtin.bitOr x y
def cInt (g : Int → Int → Bool) : D → D → Option Bool
  | .py (.int i), .py (.int j) => some (g i j)
  | _, _ => none
def eqS : D → D → Option Bool
  | .py (.str x), .py (.str y) => some (decide (x = y))
  | _, _ => none
def eqP : D → D → Option Bool
  | .py p, .py q => if SeqAt.shaped p && SeqAt.shaped q then some (PyData.eqv p q) else none
  | _, _ => none
def eqD : D → D → Option Bool := orO (cInt fun i j => i == j) (orO eqS eqP)
def notNone : PyData → Bool
  | .none => false
  | _ => true
/-- data that can be compared -/
def cData (g : PyData → PyData → Bool) : D → D → Option Bool
  | .py p, .py q => if PySem.W.alike p q && notNone p && decide (p.depth ≤ 64) then some (g p q) else none
  | _, _ => none
def inT : D → D → Option Bool
  | .py x, .py (.tuple ys) => if SeqAt.shaped x && SeqAt.shaped (.tuple ys) then some (ys.any fun y => PyData.eqv y x) else none
  | _, _ => none
def inL : D → D → Option Bool
  | .py x, .py (.list ys) => if SeqAt.shaped x && SeqAt.shaped (.list ys) then some (ys.any fun y => PyData.eqv y x) else none
  | _, _ => none
def inS : D → D → Option Bool
  | .py (.str y), .py (.str z) => some (!(Builtin.Str.occurrences z y 0 z.length 1).isEmpty)
  | _, _ => none
def isN : D → D → Option Bool
  | .py .none, .py .none => some true
  | .py _, .py .none => some false
  | .mt _, .py .none => some false
  | .ml _, .py .none => some false
  | .exc _ _, .py .none => some false
  | _, _ => none
def isB : D → D → Option Bool
  | .py (.bool a), .py (.bool b) => some (decide (a = b))
  | _, _ => none
def notO (r : Option Bool) : Option Bool := match r with
  | some b => some (!b)
  | none => none
def cm : Cm → D → D → Option Bool
  | .eq, a, b => eqD a b
  | .ne, a, b => notO (eqD a b)
  | .lt, a, b => orO (cInt fun i j => decide (i < j)) (cData fun p q => PySem.W.dataLt p q) a b
  | .gt, a, b => orO (cInt fun i j => decide (j < i)) (cData fun p q => PySem.W.dataLt q p) a b
  | .le, a, b => orO (cInt fun i j => decide (i ≤ j)) (cData fun p q => !PySem.W.dataLt q p) a b
  | .ge, a, b => orO (cInt fun i j => decide (j ≤ i)) (cData fun p q => !PySem.W.dataLt p q) a b
  | .is, a, b => orO isN isB a b
  | .isnot, a, b => notO (orO isN isB a b)
  | .inn, a, b => orO inT (orO inL inS) a b
  | .notin, a, b => notO (orO inT (orO inL inS) a b)
def tru : D → Option Bool
  | .py .none => some false
  | .py (.bool b) => some b
  | .py (.int i) => some (i != 0)
  | .py (.str x) => if x.length ≤ sizeLine then some (x.length != 0) else none
  | .py (.tuple xs) => some (!xs.isEmpty)
  | .py (.list xs) => some (!xs.isEmpty)
  | _ => none
def isi : Ty → D → Option Bool
  | .tup, .py (.tuple _) => some true
  | .tup, .mt _ => some true
  | .tup, .py _ => some false
  | .int, .py (.int _) => some true
  | .int, .py (.bool _) => some true
  | .int, .py _ => some false
  | .bool, .py (.bool _) => some true
  | .bool, .py _ => some false
  | .str, .py (.str _) => some true
  | .str, .py _ => some false
  | .lst, .py (.list _) => some true
  | .lst, .py _ => some false
  | .exc c, .exc e _ => some (e == c || c == 0)
  | .exc _, .py .none => some false
  | .verr, .exc _ _ => some true
  | _, _ => none
def allI : List PyData → Option (List Int)
  | [] => some []
  | .int i :: r => (match allI r with
    | some is => some (i :: is)
    | none => none)
  | _ :: _ => none
def allB : List PyData → Option (List Bool)
  | [] => some []
  | .bool i :: r => (match allB r with
    | some is => some (i :: is)
    | none => none)
  | _ :: _ => none
def alikeL (xs : List PyData) : Bool := xs.all fun a => notNone a && xs.all fun b => PySem.W.alike a b
def isTupP : PyData → Bool
  | .tuple _ => true
  | _ => false
def noTupP : PyData → Bool
  | .tuple _ => false
  | .none => false
  | _ => true
/-- a sorted row, with one more -/
def insD (a : PyData) : List PyData → List PyData
  | [] => [a]
  | b :: bs => if PySem.W.dataLe false id a b = true then a :: b :: bs else b :: insD a bs
def sortD : List PyData → List PyData
  | [] => []
  | x :: xs => insD x (sortD xs)
def okL (xs : List PyData) : Bool := decide (PyData.depthAll xs ≤ 60)
abbrev Bo := List D → Option (D × Bool)
def rv (d : D) : Option (D × Bool) := some (d, false)
def orB (f g : Bo) : Bo := fun xs => match f xs with
  | some z => some z
  | none => g xs
def biLen : Bo
  | [.py (.tuple xs)] => rv (.py (.int xs.length))
  | [.py (.list xs)] => rv (.py (.int xs.length))
  | [.mt xs] => rv (.py (.int xs.length))
  | [.ml xs] => rv (.py (.int xs.length))
  | [.py (.str x)] => if x.length ≤ sizeLine then rv (.py (.int x.length)) else none
  | [.scr ns] => rv (.py (.int ns.length))
  | _ => none
def biRepr : Bo
  | [.py p] => if p.showable && !p.hasDict && decide (p.depth ≤ 60) && decide (p.shown.length ≤ sizeLine) then rv (.py (.str p.shown)) else none
  | _ => none
def biStrI : Bo
  | [.py (.int i)] => if i.natAbs.log2 < 1920 then rv (.py (.str (toString i))) else none
  | _ => none
def biStrS : Bo
  | [.py (.str x)] => rv (.py (.str x))
  | _ => none
def biInt : Bo
  | [.py (.int i)] => rv (.py (.int i))
  | [.py (.bool b)] => rv (.py (.int (if b then 1 else 0)))
  | _ => none
def biTuple : Bo
  | [.py (.tuple xs)] => rv (.py (.tuple xs))
  | [.py (.list xs)] => rv (.py (.tuple xs))
  | [.ml xs] => rv (.mt xs)
  | [.mt xs] => rv (.mt xs)
  | _ => none
def biList : Bo
  | [.py (.tuple xs)] => some (.py (.list xs), true)
  | [.py (.list xs)] => some (.py (.list xs), true)
  | [.mt xs] => some (.ml xs, true)
  | [.ml xs] => some (.ml xs, true)
  | _ => none
def biBools (g : List Bool → Bool) : Bo
  | [.py (.list xs)] => ob (allB xs) fun bs => rv (.py (.bool (g bs)))
  | _ => none
def biSum : Bo
  | [.py (.list xs)] => ob (allI xs) fun is => rv (.py (.int is.sum))
  | _ => none
def biMM (g : PyData → List PyData → PyData) : Bo
  | [.py (.list (x :: xs))] => if alikeL (x :: xs) && okL (x :: xs) then rv (.py (g x xs)) else none
  | [.py (.tuple (x :: xs))] => if alikeL (x :: xs) && okL (x :: xs) then rv (.py (g x xs)) else none
  | _ => none
def biTwo (g : Int → Int → Int) : Bo
  | [.py (.int i), .py (.int j)] => rv (.py (.int (g i j)))
  | _ => none
def biSorted : Bo
  | [.py (.list xs)] => if alikeL xs && (xs.all isTupP || xs.all noTupP) && okL xs then some (.py (.list (sortD xs)), true) else none
  | [.py (.tuple xs)] => if alikeL xs && (xs.all isTupP || xs.all noTupP) && okL xs then some (.py (.list (sortD xs)), true) else none
  | _ => none
def biAbs : Bo
  | [.py (.int i)] => rv (.py (.int (if i < 0 then -i else i)))
  | _ => none
def bi : Bi → Bo
  | .len => biLen
  | .repr => biRepr
  | .str => orB biStrI biStrS
  | .int => biInt
  | .tuple => biTuple
  | .list => biList
  | .all => biBools fun bs => bs.all id
  | .any => biBools fun bs => bs.any id
  | .sum => biSum
  | .min => orB (biTwo fun i j => if j < i then j else i) (biMM PySem.W.minD)
  | .max => orB (biTwo fun i j => if j > i then j else i) (biMM PySem.W.maxD)
  | .sorted => biSorted
  | .abs => biAbs
def me : Me → D → List D → Option (D × Bool)
  | _, _, _ => none
def ixD (M : Mem) : D → D → Option D
  | .py (.tuple xs), .py (.int i) => (atI xs i).map .py
  | .py (.list xs), .py (.int i) => (atI xs i).map .py
  | .mt xs, .py (.int i) => atI xs i
  | .ml xs, .py (.int i) => atI xs i
  | .py (.str z), .py (.int i) => if z.length ≤ sizeLine then (atI z.cps.toList i).map fun c => .py (.str ⟨#[c]⟩) else none
  | .scr ns, .py (.int i) => (atI ns i).map fun n => .py (.int n)
  | .cel n, .py (.int i) => (match M[n]? with
    | some xs => (atI xs i).map .py
    | none => none)
  | _, _ => none
def cutL {α : Type} (xs : List α) (lo hi : Option Int) : List α := (xs.drop (HT.sIx xs.length 0 lo)).take (HT.sIx xs.length xs.length hi - HT.sIx xs.length 0 lo)
def part (no : Bool) : D → Option (Option Int)
  | .py .none => if no = true then some none else none
  | .py (.int i) => some (some i)
  | _ => none
def slD : D → Option Int → Option Int → Option (D × Bool)
  | .py (.tuple xs), lo, hi => some (.py (.tuple (cutL xs lo hi)), false)
  | .py (.list xs), lo, hi => some (.py (.list (cutL xs lo hi)), true)
  | .mt xs, lo, hi => some (.mt (cutL xs lo hi), false)
  | .ml xs, lo, hi => some (.ml (cutL xs lo hi), true)
  | .scr ns, lo, hi => some (.py (.list ((cutL ns lo hi).map .int)), true)
  | _, _, _ => none
def revD : D → Option (D × Bool)
  | .py (.list xs) => some (.py (.list xs.reverse), true)
  | .py (.tuple xs) => some (.py (.tuple xs.reverse), false)
  | _ => none
def attrD : D → Option D
  | .exc _ p => some (.py p)
  | _ => none
def appD : D → D → Option D
  | .py (.list ps), .py p => if ps.length < sizeLine then some (.py (.list (ps ++ [p]))) else none
  | .py (.list ps), d => if ps.length < sizeLine then some (.ml (ps.map .py ++ [d])) else none
  | .ml ds, d => if ds.length < sizeLine then some (.ml (ds ++ [d])) else none
  | _, _ => none
def extD : D → D → Option D
  | .py (.list ps), .py (.list qs) => if ps.length + qs.length ≤ sizeLine then some (.py (.list (ps ++ qs))) else none
  | .py (.list ps), .ml es => if ps.length + es.length ≤ sizeLine then some (.ml (ps.map .py ++ es)) else none
  | .ml ds, .py (.list qs) => if ds.length + qs.length ≤ sizeLine then some (.ml (ds ++ qs.map .py)) else none
  | .ml ds, .ml es => if ds.length + es.length ≤ sizeLine then some (.ml (ds ++ es)) else none
  | _, _ => none
def setD : D → Int → D → Option D
  | .py (.list ps), i, .py p => (ixN ps.length i).map fun j => .py (.list (ps.set j p))
  | _, _, _ => none
/-- a list without its last item, the item -/
def popD : D → Option (D × D)
  | .py (.list ps) => (match ps[ps.length - 1]? with
    | some p => some (.py p, .py (.list ps.dropLast))
    | none => none)
  | _ => none
def popAtD : D → Int → Option (D × D)
  | .py (.list ps), i => (match ixN ps.length i with
    | some j => (match ps[j]? with
      | some p => some (.py p, .py (.list (ps.eraseIdx j)))
      | none => none)
    | none => none)
  | _, _ => none

/-! ### what a term comes to -/
inductive Md where
  | sh | fr | bo (i : Nat)
/-- an end, or an error of the class c with the value p -/
inductive Rz (α : Type) where
  | ok (a : α)
  | er (c : Nat) (p : PyData) (M : Mem)
structure Vl where
  d : D
  m : Md
  ρ : Nv
  M : Mem
structure Ls where
  ds : List (D × Md)
  ρ : Nv
  M : Mem
structure Ov where
  d : D
  fr : Bool
  M : Mem
inductive Fl where
  | nx (ρ : Nv) (M : Mem)
  | rt (o : Ov)
  | br (ρ : Nv) (M : Mem)
  | ct (ρ : Nv) (M : Mem)
abbrev RE := Option (Rz Vl)
abbrev RL := Option (Rz Ls)
abbrev RS := Option (Rz Fl)
abbrev Out := Option (Rz Ov)
/-- each int once -/
def ddup : List Int → List Int
  | [] => []
  | x :: xs => if x ∈ xs then ddup xs else x :: ddup xs
def intsOf : List PyData → Option (List Int)
  | [] => some []
  | .int i :: ps => (intsOf ps).map (i :: ·)
  | _ => none
/-- len(set(x)) of a tuple of ints -/
def lsetD : D → Option Nat
  | .py (.tuple ps) => (match intsOf ps with
    | some ns => if ns.length ≤ 1000 then some (ddup ns).length else none
    | none => none)
  | _ => none
abbrev Clo := Nat → Mem → RE
abbrev Fn := Clo → List D → Mem → Out
def noClo : Clo := fun _ _ => none
mutual
/-- no lambda in it -/
def clean : D → Bool
  | .mt xs => cleanL xs
  | .ml xs => cleanL xs
  | .clo _ => false
  | _ => true
def cleanL : List D → Bool
  | [] => true
  | x :: xs => clean x && cleanL xs
end
def bz {α β : Type} (r : Option (Rz α)) (k : α → Option (Rz β)) : Option (Rz β) := match r with
  | some (.ok a) => k a
  | some (.er c p M) => some (.er c p M)
  | none => none
def vl (d : D) (m : Md) (ρ : Nv) (M : Mem) : RE := some (.ok ⟨d, m, ρ, M⟩)
def gi {β : Type} (d : D) (k : Int → Option β) : Option β := match d with
  | .py (.int i) => k i
  | _ => none
def gb {β : Type} (d : D) (k : Bool → Option β) : Option β := match d with
  | .py (.bool i) => k i
  | _ => none

def unown (ρ : Nv) (i : Nat) : Nv := match ρ[i]? with
  | some (some (d, true)) => ρ.set i (some (d, false))
  | _ => ρ
def fz (m : Md) (ρ : Nv) : Nv := match m with
  | .bo i => unown ρ i
  | _ => ρ
def fzs : List (D × Md) → Nv → Nv
  | [], ρ => ρ
  | p :: ps, ρ => fzs ps (fz p.2 ρ)
def frzAll (ρ : Nv) : Nv := ρ.map fun s => s.map fun p => (p.1, false)
def mdOf (fr : Bool) : Md := if fr then .fr else .sh
def frOf (ρ : Nv) : Md → Bool
  | .sh => false
  | .fr => true
  | .bo i => (match ρ[i]? with
    | some (some (_, true)) => true
    | _ => false)

mutual
def bindT : T → D → Nv → Option Nv
  | .nm i, d, ρ => some (ρ.set i (some (d, false)))
  | .tp ts, d, ρ => ob (itemsT d) fun ds => bindTs ts ds ρ
def bindTs : List T → List D → Nv → Option Nv
  | [], [], ρ => some ρ
  | t :: ts, d :: ds, ρ => ob (bindT t d ρ) fun ρ1 => bindTs ts ds ρ1
  | _, _, _ => none
end
/-- a value is stored: a new list stands in one slot alone -/
def store (t : T) (d : D) (m : Md) (ρ : Nv) : Option Nv := match t, m with
  | .nm i, .fr => some (ρ.set i (some (d, true)))
  | t, m => bindT t d (fz m ρ)

def wipeN (ρ : Nv) : List Nat → Nv
  | [] => ρ
  | v :: vs => (wipeN ρ vs).set v none
/-- behind a comprehension its own names stand as they stood -/
def backN (ρ0 ρ : Nv) : List Nat → Nv
  | [] => ρ
  | v :: vs => (backN ρ0 ρ vs).set v (ρ0.getD v none)

def liftO (r : Option (D × Bool)) (ρ : Nv) (M : Mem) : RE := ob r fun p => vl p.1 (mdOf p.2) ρ M
def rngN (lo hi st : Int) : Nat := if st > 0 then ((hi - lo + st - 1) / st).toNat else ((lo - hi + -st - 1) / -st).toNat
def rngL (lo hi st : Int) : Option (List D) :=
  if decide (-(2 ^ 40) ≤ lo) && decide (lo < 2 ^ 40) && decide (-(2 ^ 40) ≤ hi) && decide (hi < 2 ^ 40) && decide (st ≠ 0) && decide (st.natAbs < 2 ^ 20) && decide (rngN lo hi st ≤ sizeLine) then
    some ((List.range (rngN lo hi st)).map fun (i : Nat) => .py (.int (lo + (i : Int) * st)))
  else none
def enuFrom : Nat → List D → List D
  | _, [] => []
  | n, d :: ds => mkT [.py (.int n), d] :: enuFrom (n + 1) ds
def zipL : List D → List D → List D
  | a :: as, b :: bs => mkT [a, b] :: zipL as bs
  | _, _ => []

/-- a list, or a tuple -/
def isLst : D → Bool
  | .py (.list _) => true
  | .ml _ => true
  | .scr _ => true
  | _ => false
structure Cv where
  xs : List D
  ρ : Nv
  M : Mem
/-- a comprehension's turns -/
def compL (bind : D → Nv → Option Nv) (cond : Nv → Mem → RE) (elt : Nv → Mem → RE) (own : List Nat) : List D → Nv → Mem → Option Cv
  | [], ρ, M => some ⟨[], ρ, M⟩
  | d :: ds, ρ, M => ob (bind d ρ) fun ρ1 => (match cond ρ1 M with
    | some (.ok c) => ob (tru c.d) fun b => if b = true then (match elt c.ρ c.M with
        | some (.ok x) => ob (compL bind cond elt own ds (wipeN (fz x.m x.ρ) own) x.M) fun r => some ⟨x.d :: r.xs, r.ρ, r.M⟩
        | _ => none)
      else compL bind cond elt own ds (wipeN c.ρ own) c.M
    | _ => none)

/-- what was heard: the error and nothing, or nothing and what came back -/
def heard (ρ : Nv) : RE → RE
  | some (.ok x) => vl (mkT [.py .none, x.d]) .sh (fz x.m x.ρ) x.M
  | some (.er c p M) => vl (mkT [.exc c p, .py .none]) .sh ρ M
  | none => none
def isNo : E → Bool
  | .no => true
  | _ => false
/-- a slice's part: none where it is left out -/
def prt (b : Bool) (r : RE) (ρ : Nv) (M : Mem) : RE := if b = true then vl (.py .none) .sh ρ M else r
def callV (Fs : List Fn) (k : Nat) (a : Ls) : RE := ob Fs[k]? fun f => if cleanL (a.ds.map (·.1)) = true then bz (f noClo (a.ds.map (·.1)) a.M) fun o => vl o.d (mdOf o.fr) (fzs a.ds a.ρ) o.M else none

mutual
def evE (Fs : List Fn) (C : Nv → Clo) : E → Nv → Mem → RE
  | .no, ρ, M => vl (.py (.bool true)) .sh ρ M
  | .lit p, ρ, M => vl (.py p) .sh ρ M
  | .gli _ i, ρ, M => vl (.py (.int i)) .sh ρ M
  | .gls _ s, ρ, M => vl (.py (.str s)) .sh ρ M
  | .glf k, ρ, M => vl (.fn k) .sh ρ M
  | .var i, ρ, M => (match ρ[i]? with
    | some (some (d, true)) => vl d (.bo i) ρ M
    | some (some (d, false)) => vl d .sh ρ M
    | _ => none)
  | .tup es, ρ, M => bz (evL Fs C es ρ M) fun a => if a.ds.length ≤ sizeLine then vl (mkT (a.ds.map (·.1))) .sh (fzs a.ds a.ρ) a.M else none
  | .lst es, ρ, M => bz (evL Fs C es ρ M) fun a => if a.ds.length ≤ sizeLine then vl (mkL (a.ds.map (·.1))) .fr (fzs a.ds a.ρ) a.M else none
  | .cell es, ρ, M => bz (evL Fs C es ρ M) fun a => ob (allPy (a.ds.map (·.1))) fun ps => if ps.length ≤ sizeLine then vl (.cel a.M.length) .sh (fzs a.ds a.ρ) (a.M ++ [ps]) else none
  | .bin o a b, ρ, M => bz (evE Fs C a ρ M) fun x => bz (evE Fs C b x.ρ x.M) fun y => liftO (o2 o x.d y.d) y.ρ y.M
  | .neg a, ρ, M => bz (evE Fs C a ρ M) fun x => gi x.d fun i => vl (.py (.int (-i))) .sh x.ρ x.M
  | .not a, ρ, M => bz (evE Fs C a ρ M) fun x => ob (tru x.d) fun b => vl (.py (.bool (!b))) .sh x.ρ x.M
  | .bop k es, ρ, M => evB Fs C k es ρ M
  | .cmp a ops es, ρ, M => bz (evE Fs C a ρ M) fun x => evC Fs C ops es x.d x.ρ x.M
  | .ite c a b, ρ, M => bz (evE Fs C c ρ M) fun x => ob (tru x.d) fun t => if t = true then evE Fs C a x.ρ x.M else evE Fs C b x.ρ x.M
  | .ix a b, ρ, M => bz (evE Fs C a ρ M) fun x => bz (evE Fs C b x.ρ x.M) fun y => ob (ixD y.M x.d y.d) fun d => vl d .sh y.ρ y.M
  | .slc a lo hi, ρ, M => bz (evE Fs C a ρ M) fun x => bz (prt (isNo lo) (evE Fs C lo x.ρ x.M) x.ρ x.M) fun l => ob (part (isNo lo) l.d) fun l' => bz (prt (isNo hi) (evE Fs C hi l.ρ l.M) l.ρ l.M) fun h => ob (part (isNo hi) h.d) fun h' => liftO (slD x.d l' h') h.ρ h.M
  | .rev a, ρ, M => bz (evE Fs C a ρ M) fun x => liftO (revD x.d) x.ρ x.M
  | .call k es, ρ, M => bz (evL Fs C es ρ M) fun a => callV Fs k a
  | .bi b es, ρ, M => bz (evL Fs C es ρ M) fun a => liftO (bi b (a.ds.map (·.1))) a.ρ a.M
  | .isi t e, ρ, M => bz (evE Fs C e ρ M) fun x => ob (isi t x.d) fun b => vl (.py (.bool b)) .sh x.ρ x.M
  | .me m a es, ρ, M => bz (evE Fs C a ρ M) fun x => bz (evL Fs C es x.ρ x.M) fun a => liftO (me m x.d (a.ds.map (·.1))) a.ρ a.M
  | .comp own t src cond elt, ρ, M => bz (evSrc Fs C src ρ M) fun s => ob (items s.d) fun xs => if xs.length ≤ sizeLine then
      ob (compL (bindT t) (fun ρ M => evE Fs C cond ρ M) (fun ρ M => evE Fs C elt ρ M) (own.map (·.2)) xs (wipeN s.ρ (own.map (·.2))) s.M) fun r => vl (mkL r.xs) .fr (backN s.ρ r.ρ (own.map (·.2))) r.M
      else none
  | .lsrc src, ρ, M => bz (evSrc Fs C src ρ M) fun s => ob (items s.d) fun xs => vl (mkL xs) .fr s.ρ s.M
  | .attr a, ρ, M => bz (evE Fs C a ρ M) fun x => ob (attrD x.d) fun d => vl d .sh x.ρ x.M
  | .hear a, ρ, M => bz (evE Fs C a ρ M) fun x => (match x.d with
    | .clo k => heard (frzAll x.ρ) (C (frzAll x.ρ) k x.M)
    | _ => none)
  | .hearL a, ρ, M => (match evE Fs C a (frzAll ρ) M with
    | some (.ok x) => vl (mkT [.py .none, x.d]) .sh (fz x.m x.ρ) x.M
    | some (.er c p M1) => vl (mkT [.exc c p, .py .none]) .sh (frzAll ρ) M1
    | none => none)
  | .cv ks f es, ρ, M => bz (evE Fs C f ρ M) fun x => (match x.d with
    | .fn k => if ks.contains k = true then ob Fs[k]? fun _ => bz (evL Fs C es x.ρ x.M) fun a => callV Fs k a else none
    | _ => none)
  | .lam k, ρ, M => vl (.clo k) .sh ρ M
  | .lset a, ρ, M => bz (evE Fs C a ρ M) fun x => ob (lsetD x.d) fun n => vl (.py (.int n)) .sh x.ρ x.M
  | .stuck, _, _ => none
def evL (Fs : List Fn) (C : Nv → Clo) : Es → Nv → Mem → RL
  | .nil, ρ, M => some (.ok ⟨[], ρ, M⟩)
  | .cons false e es, ρ, M => bz (evE Fs C e ρ M) fun x => bz (evL Fs C es x.ρ x.M) fun a => some (.ok ⟨(x.d, x.m) :: a.ds, a.ρ, a.M⟩)
  | .cons true e es, ρ, M => bz (evE Fs C e ρ M) fun x => ob (items x.d) fun xs => bz (evL Fs C es x.ρ x.M) fun a => some (.ok ⟨xs.map (fun x => (x, Md.sh)) ++ a.ds, a.ρ, a.M⟩)
/-- and, or -/
def evB (Fs : List Fn) (C : Nv → Clo) (k : Bool) : Es → Nv → Mem → RE
  | .nil, _, _ => none
  | .cons _ e es, ρ, M => (match es with
    | .nil => evE Fs C e ρ M
    | .cons s e2 es2 => bz (evE Fs C e ρ M) fun x => ob (tru x.d) fun b => if b = k then evB Fs C k (.cons s e2 es2) x.ρ x.M else vl x.d x.m x.ρ x.M)
/-- a row of comparisons behind the value x -/
def evC (Fs : List Fn) (C : Nv → Clo) : List Cm → Es → D → Nv → Mem → RE
  | os, .cons _ e es, x, ρ, M => (match os, es with
    | [o], .nil => bz (evE Fs C e ρ M) fun y => ob (cm o x y.d) fun b => vl (.py (.bool b)) .sh y.ρ y.M
    | o :: os, .cons s e2 es2 => bz (evE Fs C e ρ M) fun y => ob (cm o x y.d) fun b => if b = true then evC Fs C os (.cons s e2 es2) y.d y.ρ y.M else vl (.py (.bool false)) .sh y.ρ y.M
    | _, _ => none)
  | _, .nil, _, _, _ => none
/-- what is walked: a row of its items -/
def evSrc (Fs : List Fn) (C : Nv → Clo) : Src → Nv → Mem → RE
  | .it e, ρ, M => bz (evE Fs C e ρ M) fun x => ob (items x.d) fun _ => some (.ok x)
  | .rng1 b, ρ, M => bz (evE Fs C b ρ M) fun y => gi y.d fun j => ob (rngL 0 j 1) fun xs => vl (.ml xs) .sh y.ρ y.M
  | .rng2 a b, ρ, M => bz (evE Fs C a ρ M) fun x => gi x.d fun i => bz (evE Fs C b x.ρ x.M) fun y => gi y.d fun j => ob (rngL i j 1) fun xs => vl (.ml xs) .sh y.ρ y.M
  | .rng3 a b c, ρ, M => bz (evE Fs C a ρ M) fun x => gi x.d fun i => bz (evE Fs C b x.ρ x.M) fun y => gi y.d fun j => bz (evE Fs C c y.ρ y.M) fun z => gi z.d fun k => ob (rngL i j k) fun xs => vl (.ml xs) .sh z.ρ z.M
  | .enu e, ρ, M => bz (evE Fs C e ρ M) fun x => ob (items x.d) fun xs => vl (.ml (enuFrom 0 xs)) x.m x.ρ x.M
  | .zip a b, ρ, M => bz (evE Fs C a ρ M) fun x => bz (evE Fs C b x.ρ x.M) fun y => ob (items x.d) fun xs => ob (items y.d) fun ys => if isLst x.d != isLst y.d then none else vl (.ml (zipL xs ys)) .sh (fz y.m (fz x.m y.ρ)) y.M
end

/-- the turns of a for -/
def forL (bind : D → Nv → Option Nv) (body : Nv → Mem → RS) : List D → Nv → Mem → RS
  | [], ρ, M => some (.ok (.nx ρ M))
  | d :: ds, ρ, M => ob (bind d ρ) fun ρ1 => bz (body ρ1 M) fun f => (match f with
      | .nx ρ2 M2 => forL bind body ds ρ2 M2
      | .ct ρ2 M2 => forL bind body ds ρ2 M2
      | .br ρ2 M2 => some (.ok (.nx ρ2 M2))
      | .rt o => some (.ok (.rt o)))
/-- the turns of a while -/
def whlL (cond : Nv → Mem → RE) (body : Nv → Mem → RS) : Nat → Nv → Mem → RS
  | 0, _, _ => none
  | n + 1, ρ, M => bz (cond ρ M) fun c => ob (tru c.d) fun b => if b = true then bz (body c.ρ c.M) fun f => (match f with
        | .nx ρ2 M2 => whlL cond body n ρ2 M2
        | .ct ρ2 M2 => whlL cond body n ρ2 M2
        | .br ρ2 M2 => some (.ok (.nx ρ2 M2))
        | .rt o => some (.ok (.rt o)))
      else some (.ok (.nx c.ρ c.M))
def FUEL : Nat := 1000000
/-- the list that stands in slot i alone -/
def owned (ρ : Nv) (i : Nat) : Option D := match ρ[i]? with
  | some (some (d, true)) => some d
  | _ => none
/-- a cell, or a list that stands alone -/
def hasX (ρ : Nv) (i : Nat) : Option Unit := match ρ[i]? with
  | some (some (.cel _, false)) => some ()
  | some (some (_, true)) => some ()
  | _ => none
def nx (ρ : Nv) (M : Mem) : RS := some (.ok (.nx ρ M))
/-- x[ix] = v, x a cell or a list that stands alone -/
def putX (i : Nat) (k : Int) (d : D) (ρ : Nv) (M : Mem) : RS := match ρ[i]? with
  | some (some (.cel n, false)) => (match d with
    | .py p => ob M[n]? fun ps => ob (ixN ps.length k) fun j => nx ρ (M.set n (ps.set j p))
    | _ => none)
  | some (some (l, true)) => ob (setD l k d) fun l' => nx (ρ.set i (some (l', true))) M
  | _ => none
/-- several slots at once: all that is shared is so before -/
def setAll : List Nat → List (D × Md) → Nv → Option Nv
  | [], [], ρ => some ρ
  | i :: is, p :: ps, ρ => setAll is ps (ρ.set i (some (p.1, match p.2 with
    | .fr => true
    | _ => false)))
  | _, _, _ => none
def storeAll (is : List Nat) (ps : List (D × Md)) (ρ : Nv) : Option Nv := setAll is ps (fzs ps ρ)

mutual
def evS (Fs : List Fn) (C : Nv → Clo) : S → Nv → Mem → RS
  | .asg t e, ρ, M => bz (evE Fs C e ρ M) fun x => ob (store t x.d x.m x.ρ) fun ρ2 => nx ρ2 x.M
  | .par is es, ρ, M => bz (evL Fs C es ρ M) fun a => ob (storeAll is a.ds a.ρ) fun ρ2 => nx ρ2 a.M
  | .set i ix v, ρ, M => ob (hasX ρ i) fun _ => bz (evE Fs C v ρ M) fun x => bz (evE Fs C ix (fz x.m x.ρ) x.M) fun y => gi y.d fun k => putX i k x.d y.ρ y.M
  | .app i e, ρ, M => ob (owned ρ i) fun _ => bz (evE Fs C e ρ M) fun x => ob (owned (fz x.m x.ρ) i) fun l => ob (appD l x.d) fun l' => nx ((fz x.m x.ρ).set i (some (l', true))) x.M
  | .ext i e, ρ, M => ob (owned ρ i) fun _ => bz (evE Fs C e ρ M) fun x => ob (owned (fz x.m x.ρ) i) fun l => ob (extD l x.d) fun l' => nx ((fz x.m x.ρ).set i (some (l', true))) x.M
  | .pop t i e, ρ, M => if isNo e = true then ob (owned ρ i) fun l => ob (popD l) fun q => ob (store t q.1 .sh (ρ.set i (some (q.2, true)))) fun ρ2 => nx ρ2 M
    else ob (owned ρ i) fun _ => bz (evE Fs C e ρ M) fun y => gi y.d fun k => ob (owned y.ρ i) fun l => ob (popAtD l k) fun q => ob (store t q.1 .sh (y.ρ.set i (some (q.2, true)))) fun ρ2 => nx ρ2 y.M
  | .appPop j i e, ρ, M => bz (evE Fs C e ρ M) fun y => gi y.d fun k => ob (owned y.ρ i) fun l => ob (popAtD l k) fun q => if i = j then none else
      ob (owned y.ρ j) fun f => ob (appD f q.1) fun f' => nx ((y.ρ.set i (some (q.2, true))).set j (some (f', true))) y.M
  | .ex e, ρ, M => bz (evE Fs C e ρ M) fun x => nx x.ρ x.M
  | .ret e, ρ, M => bz (evE Fs C e ρ M) fun x => some (.ok (.rt ⟨x.d, frOf x.ρ x.m, x.M⟩))
  | .retn, _, M => some (.ok (.rt ⟨.py .none, false, M⟩))
  | .ifs c a b, ρ, M => bz (evE Fs C c ρ M) fun x => ob (tru x.d) fun t => if t = true then evSs Fs C a x.ρ x.M else evSs Fs C b x.ρ x.M
  | .for_ t src body, ρ, M => bz (evSrc Fs C src ρ M) fun s => ob (items s.d) fun xs => forL (bindT t) (fun ρ M => evSs Fs C body ρ M) xs (fz s.m s.ρ) s.M
  | .whl c body, ρ, M => whlL (fun ρ M => evE Fs C c ρ M) (fun ρ M => evSs Fs C body ρ M) FUEL ρ M
  | .rai c e, ρ, M => bz (evE Fs C e ρ M) fun x => (match x.d with
    | .py p => some (.er c p x.M)
    | _ => none)
  | .pas, ρ, M => nx ρ M
  | .brk, ρ, M => some (.ok (.br ρ M))
  | .cnt, ρ, M => some (.ok (.ct ρ M))
  | .stuck, _, _ => none
def evSs (Fs : List Fn) (C : Nv → Clo) : Ss → Nv → Mem → RS
  | .nil, ρ, M => nx ρ M
  | .cons s ss, ρ, M => bz (evS Fs C s ρ M) fun f => (match f with
    | .nx ρ1 M1 => evSs Fs C ss ρ1 M1
    | f => some (.ok f))
end

/-- a def: how many names, how many of them parameters, its body -/
structure Def where
  n : Nat
  ps : Nat
  body : Ss
  lams : List E
/-- what a frame's own lambdas come to -/
def lamC (Fs : List Fn) (lams : List E) : Nv → Clo := fun ρ k M => match lams[k]? with
  | some b => evE Fs (fun _ => noClo) b ρ M
  | none => none
/-- no lambda goes out -/
def outC : Out → Out
  | some (.ok o) => if clean o.d = true then some (.ok o) else none
  | r => r
def startN (n : Nat) (ds : List D) : Nv := ds.map (fun d => some (d, false)) ++ List.replicate (n - ds.length) none
def outOf (r : RS) : Out := bz r fun f => (match f with
  | .rt o => some (.ok o)
  | .nx _ M => some (.ok ⟨.py .none, false, M⟩)
  | _ => none)
def runF (Fs : List Fn) (d : Def) : Fn := fun C ds M => if ds.length = d.ps then outC (outOf (evSs Fs (lamC Fs d.lams) d.body (startN d.n ds) M)) else none
def tabF : List Def → List Fn → List Fn
  | [], Fs => Fs
  | d :: ds, Fs => tabF ds (Fs ++ [runF Fs d])
end Ev

/-! How values stand in the abstract heap; states that agree; what is left behind. -/
namespace Ev
open L2 PyProof.Rows PySem PySem.Spec

structure Zt where
  K : PySem.W.Frag
  fa : Nat → Addr
  ca : Nat → Addr
  T : List (Addr × Str) := []
  H0 : Hp := fun _ => none
  /-- the frame's own lambdas: how they are named, their cells, which they are -/
  lq : Str := ""
  lcl : List (Str × Addr) := []
  lg : Nat → Arguments → Expr → Scope → Prop := fun _ _ _ _ => False

/-- a lambda's object -/
def LamP (q : Str) (cl : List (Str × Addr)) (ps : Arguments) (b : Expr) (sc : Scope) (a c' : Addr) : HO := .ext fun h => ∃ pm ctv, h.get? a = some (PySem.W.kla_obj "<lambda>" q ps b sc (cloFrom cl sc.names []) pm c' ctv)
/-- a caught error's object -/
def ExV (cls : Value) (d a : Addr) : HO := .ext fun h => ∃ oe vs, h.get? a = some oe ∧ Zc cls (some d) oe ∧ oe.data = .fields vs
abbrev valK : Str := "value"

section
variable (F : Addr → Prop) (H : Hp)
mutual
inductive RepP : V → PyData → Prop where
  | non : RepP .non .none
  | bl (b : Bool) : RepP (.bl b) (.bool b)
  | int (i : Int) : RepP (.int i) (.int i)
  | str (x : Str) : RepP (.str x) (.str x)
  | lst {a : Addr} {vs : List V} {ps : List PyData} : F a → H a = some (.lst vs) → RepPs vs ps → RepP (.ref a) (.list ps)
  | tup {a : Addr} {vs : List V} {ps : List PyData} : H a = some (.tup vs) → RepPs vs ps → RepP (.ref a) (.tuple ps)
inductive RepPs : List V → List PyData → Prop where
  | nil : RepPs [] []
  | cons {v : V} {vs : List V} {p : PyData} {ps : List PyData} : RepP v p → RepPs vs ps → RepPs (v :: vs) (p :: ps)
end
end
section
variable (Z : Zt) (F : Addr → Prop) (φ : List Addr) (H : Hp)
mutual
inductive Rep : V → D → Prop where
  | py {v : V} {p : PyData} : RepP F H v p → Rep v (.py p)
  | mt {a : Addr} {vs : List V} {ds : List D} : H a = some (.tup vs) → Reps vs ds → Rep (.ref a) (.mt ds)
  | ml {a : Addr} {vs : List V} {ds : List D} : F a → H a = some (.lst vs) → Reps vs ds → Rep (.ref a) (.ml ds)
  | fn (k : Nat) : Rep (.ref (Z.fa k)) (.fn k)
  | exc {a d : Addr} {c : Nat} {v : V} {p : PyData} : F a → F d → H a = some (ExV (.ref (Z.ca c)) d a) → H d = some (.xd [(valK, v)]) → RepP F H v p → Rep (.ref a) (.exc c p)
  | cel {n : Nat} {a : Addr} : φ[n]? = some a → Rep (.ref a) (.cel n)
  | clo {a c' : Addr} {k : Nat} {ps : Arguments} {b : Expr} {sc : Scope} : Z.lg k ps b sc → H a = some (LamP Z.lq Z.lcl ps b sc a c') → H c' = some (LamX.CodeO c' Z.lq) → Rep (.ref a) (.clo k)
  | scr {a : Addr} {ns : List Int} : ((∃ o, H a = some (.frz o (.lst (ns.map V.int)))) ∨ (F a ∧ H a = some (.lst (ns.map V.int))) ∨ SqL Z.K (fun _ => none) a (ns.map V.int)) → Rep (.ref a) (.scr ns)
inductive Reps : List V → List D → Prop where
  | nil : Reps [] []
  | cons {v : V} {vs : List V} {d : D} {ds : List D} : Rep v d → Reps vs ds → Reps (v :: vs) (d :: ds)
end
end

abbrev Sx := L2.St
/-- what values lean on stays -/
structure Stay (F : Addr → Prop) (φ : List Addr) (H : Hp) (F' : Addr → Prop) (φ' : List Addr) (H' : Hp) : Prop where
  mono : ∀ b, F b → F' b
  frz : ∀ b o, F b → H b = some o → (∀ ps, o ≠ .tbl ps) → H' b = some o
  tup : ∀ b xs, H b = some (.tup xs) → H' b = some (.tup xs)
  fro : ∀ b o u, H b = some (.frz o u) → H' b = some (.frz o u)
  ext : ∀ b f, H b = some (.ext f) → H' b = some (.ext f)
  cel : ∃ ψ, φ' = φ ++ ψ

section
variable {K : PySem.W.Frag} {Z : Zt} {F F' : Addr → Prop} {φ φ' : List Addr} {H H' : Hp}
mutual
theorem RepP.stay (s : Stay F φ H F' φ' H') : ∀ {v : V} {p : PyData}, RepP F H v p → RepP F' H' v p
  | _, _, .non => .non
  | _, _, .bl b => .bl b
  | _, _, .int i => .int i
  | _, _, .str x => .str x
  | _, _, .lst h1 h2 h3 => .lst (s.mono _ h1) (s.frz _ _ h1 h2 fun _ z => nomatch z) (RepPs.stay s h3)
  | _, _, .tup h1 h2 => .tup (s.tup _ _ h1) (RepPs.stay s h2)
theorem RepPs.stay (s : Stay F φ H F' φ' H') : ∀ {vs : List V} {ps : List PyData}, RepPs F H vs ps → RepPs F' H' vs ps
  | _, _, .nil => .nil
  | _, _, .cons h1 h2 => .cons (RepP.stay s h1) (RepPs.stay s h2)
end
mutual
theorem Rep.stay (s : Stay F φ H F' φ' H') : ∀ {v : V} {d : D}, Rep Z F φ H v d → Rep Z F' φ' H' v d
  | _, _, .py h => .py (h.stay s)
  | _, _, .mt h1 h2 => .mt (s.tup _ _ h1) (Reps.stay s h2)
  | _, _, .ml h1 h2 h3 => .ml (s.mono _ h1) (s.frz _ _ h1 h2 fun _ z => nomatch z) (Reps.stay s h3)
  | _, _, .fn k => .fn k
  | _, _, .exc h1 h2 h3 h4 h5 => .exc (s.mono _ h1) (s.mono _ h2) (s.frz _ _ h1 h3 fun _ z => by unfold ExV at z; cases z) (s.frz _ _ h2 h4 fun _ z => nomatch z) (h5.stay s)
  | _, _, .clo h1 h2 h3 => .clo h1 (s.ext _ _ h2) (s.ext _ _ h3)
  | _, _, .cel (n := n) (a := a) h => .cel (by
      obtain ⟨ψ, e⟩ := s.cel
      rw [e]
      exact (List.getElem?_append_left (List.getElem?_eq_some_iff.mp h).1).trans h)
  | _, _, .scr h => .scr (by
      rcases h with ⟨o, h⟩ | ⟨h1, h⟩ | h
      · exact .inl ⟨o, s.fro _ _ _ h⟩
      · exact .inr (.inl ⟨s.mono _ h1, s.frz _ _ h1 h fun _ z => nomatch z⟩)
      · exact .inr (.inr h))
theorem Reps.stay (s : Stay F φ H F' φ' H') : ∀ {vs : List V} {ds : List D}, Reps Z F φ H vs ds → Reps Z F' φ' H' vs ds
  | _, _, .nil => .nil
  | _, _, .cons h1 h2 => .cons (Rep.stay s h1) (Reps.stay s h2)
end
end

section
variable (Z : Zt) (F : Addr → Prop) (φ : List Addr) (H : Hp)
/-- a list that stands alone at a -/
def OwnR (a : Addr) : D → Prop
  | .py (.list ps) => ∃ vs, H a = some (.lst vs) ∧ RepPs F H vs ps
  | .ml ds => ∃ vs, H a = some (.lst vs) ∧ Reps Z F φ H vs ds
  | _ => False
end
/-- the addresses of the lists that slots own -/
def Own (ρ : Nv) (σ : Sx) (b : Addr) : Prop := ∃ (i : Nat) (d : D), ρ[i]? = some (some (d, true)) ∧ σ[i]? = some (some (.ref b))

/-- the memory's cells -/
structure GSim (Z : Zt) (M : Mem) (F : Addr → Prop) (φ : List Addr) (H : Hp) : Prop where
  dom : ∀ b, F b → H b ≠ none ∧ b ∉ φ
  len : φ.length = M.length
  cell : ∀ (n : Nat) (ps : List PyData), M[n]? = some ps → ∃ a vs, φ[n]? = some a ∧ H a = some (.lst vs) ∧ RepPs F H vs ps
  nd : φ.Nodup
  tab : LamX.Tabs Z.T H
/-- the slots -/
structure LSim (Z : Zt) (ρ : Nv) (F : Addr → Prop) (φ : List Addr) (σ : Sx) (H : Hp) : Prop where
  len : ρ.length = σ.length
  sh : ∀ (i : Nat) (d : D), ρ[i]? = some (some (d, false)) → ∃ v, σ[i]? = some (some v) ∧ Rep Z F φ H v d
  ow : ∀ (i : Nat) (d : D), ρ[i]? = some (some (d, true)) → ∃ a, σ[i]? = some (some (.ref a)) ∧ OwnR Z F φ H a d ∧ ¬ F a ∧ a ∉ φ ∧ Z.H0 a = none
  ent : ∀ b, H b = none → Z.H0 b = none
  inj : ∀ (i j : Nat) (d e : D) (a : Addr), ρ[i]? = some (some (d, true)) → ρ[j]? = some (some (e, true)) → σ[i]? = some (some (.ref a)) → σ[j]? = some (some (.ref a)) → i = j
structure Sim (Z : Zt) (ρ : Nv) (M : Mem) (F : Addr → Prop) (φ : List Addr) (σ : Sx) (H : Hp) : Prop where
  g : GSim Z M F φ H
  l : LSim Z ρ F φ σ H

/-- what a stretch of code leaves: W may be changed, O may be given away -/
structure Post (O W : Addr → Prop) (F : Addr → Prop) (φ : List Addr) (H : Hp) (F' : Addr → Prop) (φ' : List Addr) (H' : Hp) : Prop where
  ext : ∃ ψ, φ' = φ ++ ψ ∧ ∀ b ∈ ψ, H b = none
  keep : ∀ b o, H b = some o → b ∉ φ → ¬ W b → (∀ ps, o ≠ .tbl ps) → H' b = some o
  mono : ∀ b, F b → F' b
  new : ∀ b, F' b → F b ∨ H b = none ∨ O b
  dom : ∀ b, H' b = none → H b = none
/-- a slot's list may have been given away -/
def Fz (ρ ρ' : Nv) : Prop := ρ'.length = ρ.length ∧ ∀ i : Nat, (ρ[i]? = some none → ρ'[i]? = some none) ∧ ∀ (d : D) (fl : Bool), ρ[i]? = some (some (d, fl)) → ∃ fl' : Bool, ρ'[i]? = some (some (d, fl')) ∧ (fl' = true → fl = true)
theorem Fz.refl (ρ : Nv) : Fz ρ ρ := ⟨rfl, fun i => ⟨fun h => h, fun d fl h => ⟨fl, h, fun h => h⟩⟩⟩
theorem Fz.trans {a b c : Nv} (x : Fz a b) (y : Fz b c) : Fz a c := ⟨y.1.trans x.1, fun i => ⟨fun h => (y.2 i).1 ((x.2 i).1 h), fun d fl h => by
  obtain ⟨f1, h1, g1⟩ := (x.2 i).2 d fl h
  obtain ⟨f2, h2, g2⟩ := (y.2 i).2 d f1 h1
  exact ⟨f2, h2, fun z => g1 (g2 z)⟩⟩⟩
theorem Fz.own {ρ ρ' : Nv} {σ : Sx} (x : Fz ρ ρ') (hl : ρ.length = σ.length) {b : Addr} (h : Own ρ' σ b) : Own ρ σ b := by
  obtain ⟨i, d, h1, h2⟩ := h
  have hi : i < ρ.length := by rw [← x.1]; exact (List.getElem?_eq_some_iff.mp h1).1
  cases e : ρ[i]? with
  | none => rw [List.getElem?_eq_none_iff] at e; omega
  | some s =>
    cases s with
    | none => rw [(x.2 i).1 e] at h1; cases h1
    | some p =>
      obtain ⟨d', fl⟩ := p
      obtain ⟨fl', h3, g⟩ := (x.2 i).2 d' fl e
      rw [h3] at h1
      cases h1
      have z := g rfl
      subst z
      exact ⟨i, d, e, h2⟩

section
variable {Z : Zt} {ρ ρ' ρ1 : Nv} {M M' M1 : Mem} {F F' F1 F2 : Addr → Prop} {φ φ' φ1 φ2 : List Addr} {σ : Sx} {H H' H1 H2 : Hp} {O W : Addr → Prop}
theorem Post.refl : Post O W F φ H F φ H := ⟨⟨[], by simp, by simp⟩, fun _ _ h _ _ _ => h, fun _ h => h, fun _ h => .inl h, fun _ h => h⟩
theorem Post.trans {O' W' : Addr → Prop} (x : Post O W F φ H F1 φ1 H1) (y : Post O' W' F1 φ1 H1 F2 φ2 H2) (ho : ∀ b, O' b → O b ∨ H b = none) (hw : ∀ b, W' b → W b ∨ H b = none) : Post O W F φ H F2 φ2 H2 where
  ext := by
    obtain ⟨ψ, e, h⟩ := x.ext
    obtain ⟨ψ', e', h'⟩ := y.ext
    refine ⟨ψ ++ ψ', by rw [e', e, List.append_assoc], fun b hb => ?_⟩
    rcases List.mem_append.mp hb with hb | hb
    · exact h b hb
    · exact x.dom b (h' b hb)
  keep := fun b o h hn hw' nt => by
    refine y.keep b o (x.keep b o h hn hw' nt) (fun z => ?_) (fun z => ?_) nt
    · obtain ⟨ψ, e, h'⟩ := x.ext
      rw [e] at z
      rcases List.mem_append.mp z with z | z
      · exact hn z
      · rw [h' b z] at h; cases h
    · rcases hw b z with q | q
      · exact hw' q
      · rw [q] at h; cases h
  mono := fun b h => y.mono b (x.mono b h)
  new := fun b h => by
    rcases y.new b h with h | h | h
    · exact x.new b h
    · exact .inr (.inl (x.dom b h))
    · rcases ho b h with q | q
      · exact .inr (.inr q)
      · exact .inr (.inl q)
  dom := fun b h => x.dom b (y.dom b h)
theorem Post.mono' {O' W' : Addr → Prop} (x : Post O W F φ H F1 φ1 H1) (ho : ∀ b, O b → O' b) (hw : ∀ b, W b → W' b) : Post O' W' F φ H F1 φ1 H1 :=
  ⟨x.ext, fun b o h h1 h2 h3 => x.keep b o h h1 (fun z => h2 (hw b z)) h3, x.mono, fun b h => (x.new b h).imp id (Or.imp id (ho b)), x.dom⟩

/-- the tracked things that never change -/
theorem GSim.notcell (g : GSim Z M F φ H) {b : Addr} {o : HO} (h : H b = some o) (n : ∀ xs, o ≠ .lst xs) : b ∉ φ := fun hb => by
  obtain ⟨n', hn, e⟩ := List.mem_iff_getElem.mp hb
  obtain ⟨a, vs, h1, h2, _⟩ := g.cell n' (M[n']'(by rw [← g.len]; exact hn)) (by simp)
  have : a = b := by
    rw [List.getElem?_eq_getElem hn] at h1
    rw [← e]
    exact (Option.some.inj h1).symm
  subst this
  rw [h] at h2
  exact n vs (Option.some.inj h2)
theorem OwnR.lst {a : Addr} : ∀ {d : D}, OwnR Z F φ H a d → ∃ vs, H a = some (.lst vs)
  | .py (.list _), h => let ⟨vs, e, _⟩ := h; ⟨vs, e⟩
  | .ml _, h => let ⟨vs, e, _⟩ := h; ⟨vs, e⟩
  | .py .none, h => h.elim
  | .py (.bool _), h => h.elim
  | .py (.int _), h => h.elim
  | .py (.str _), h => h.elim
  | .py (.tuple _), h => h.elim
  | .py (.dict _), h => h.elim
  | .mt _, h => h.elim
  | .fn _, h => h.elim
  | .exc _ _, h => h.elim
  | .cel _, h => h.elim
  | .clo _, h => h.elim
  | .scr _, h => h.elim
theorem LSim.own_lst (l : LSim Z ρ F φ σ H) {b : Addr} (h : Own ρ σ b) : (∃ vs, H b = some (.lst vs)) ∧ ¬ F b ∧ b ∉ φ := by
  obtain ⟨i, d, h1, h2⟩ := h
  obtain ⟨a, e, r, n1, n2, _⟩ := l.ow i d h1
  rw [h2] at e
  cases e
  exact ⟨r.lst, n1, n2⟩
/-- what a stretch leaves stays for values, where it changes lists alone that are not given away -/
theorem Post.stay (x : Post O W F φ H F' φ' H') (g : GSim Z M F φ H) (hw : ∀ b, W b → (∃ vs, H b = some (.lst vs)) ∧ ¬ F b) : Stay F φ H F' φ' H' where
  mono := x.mono
  frz := fun b o hf h nt => x.keep b o h (g.dom b hf).2 (fun z => (hw b z).2 hf) nt
  tup := fun b xs h => x.keep b _ h (g.notcell h fun _ z => nomatch z) (fun z => by
    obtain ⟨⟨vs, e⟩, _⟩ := hw b z
    rw [h] at e; cases e) fun _ z => nomatch z
  fro := fun b o u h => x.keep b _ h (g.notcell h fun _ z => nomatch z) (fun z => by
    obtain ⟨⟨vs, e⟩, _⟩ := hw b z
    rw [h] at e; cases e) fun _ z => nomatch z
  ext := fun b f h => x.keep b _ h (g.notcell h fun _ z => nomatch z) (fun z => by
    obtain ⟨⟨vs, e⟩, _⟩ := hw b z
    rw [h] at e; cases e) fun _ z => nomatch z
  cel := let ⟨ψ, e, _⟩ := x.ext; ⟨ψ, e⟩
theorem Post.stayE {O : Addr → Prop} (x : Post O (fun _ => False) F φ H F' φ' H') (g : GSim Z M F φ H) : Stay F φ H F' φ' H' := x.stay g fun _ z => z.elim
theorem OwnR.stay (s : Stay F φ H F' φ' H') {a : Addr} : ∀ {d : D}, OwnR Z F φ H a d → (∀ vs, H a = some (.lst vs) → H' a = some (.lst vs)) → OwnR Z F' φ' H' a d
  | .py (.list _), h, k => let ⟨vs, e, r⟩ := h; ⟨vs, k vs e, r.stay s⟩
  | .ml _, h, k => let ⟨vs, e, r⟩ := h; ⟨vs, k vs e, r.stay s⟩
  | .py .none, h, _ => h.elim
  | .py (.bool _), h, _ => h.elim
  | .py (.int _), h, _ => h.elim
  | .py (.str _), h, _ => h.elim
  | .py (.tuple _), h, _ => h.elim
  | .py (.dict _), h, _ => h.elim
  | .mt _, h, _ => h.elim
  | .fn _, h, _ => h.elim
  | .exc _ _, h, _ => h.elim
  | .cel _, h, _ => h.elim
  | .clo _, h, _ => h.elim
  | .scr _, h, _ => h.elim
/-- a list that stood alone is given away -/
theorem OwnR.give {a : Addr} (hf : F a) : ∀ {d : D}, OwnR Z F φ H a d → Rep Z F φ H (.ref a) d
  | .py (.list _), h => let ⟨vs, e, r⟩ := h; .py (.lst hf e r)
  | .ml _, h => let ⟨vs, e, r⟩ := h; .ml hf e r
  | .py .none, h => h.elim
  | .py (.bool _), h => h.elim
  | .py (.int _), h => h.elim
  | .py (.str _), h => h.elim
  | .py (.tuple _), h => h.elim
  | .py (.dict _), h => h.elim
  | .mt _, h => h.elim
  | .fn _, h => h.elim
  | .exc _ _, h => h.elim
  | .cel _, h => h.elim
  | .clo _, h => h.elim
  | .scr _, h => h.elim
end

/-! ### values on their way -/
/-- a value as it stands behind its term -/
def RepT (Z : Zt) (H0 : Hp) (ρ : Nv) (σ : Sx) (F : Addr → Prop) (φ : List Addr) (H : Hp) (m : Md) (v : V) (d : D) : Prop := match m with
  | .sh => Rep Z F φ H v d
  | .bo i => σ[i]? = some (some v) ∧ ∃ fl : Bool, ρ[i]? = some (some (d, fl))
  | .fr => ∃ a, v = .ref a ∧ OwnR Z F φ H a d ∧ ¬ F a ∧ a ∉ φ ∧ ¬ Own ρ σ a ∧ H0 a = none
/-- a value that is read -/
def RepR (Z : Zt) (F : Addr → Prop) (φ : List Addr) (H : Hp) (v : V) (d : D) : Prop := Rep Z F φ H v d ∨ ∃ a, v = .ref a ∧ OwnR Z F φ H a d
section
variable {Z : Zt} {ρ ρ' ρ1 : Nv} {M M' M1 : Mem} {F F' F1 F2 : Addr → Prop} {φ φ' φ1 φ2 : List Addr} {σ : Sx} {H H' H1 H2 : Hp}
theorem RepT.r {H0 : Hp} {m : Md} {v : V} {d : D} (l : LSim Z ρ F φ σ H) (h : RepT Z H0 ρ σ F φ H m v d) : RepR Z F φ H v d := by
  cases m with
  | sh => exact .inl h
  | fr => obtain ⟨a, e, r, _⟩ := h; exact .inr ⟨a, e, r⟩
  | bo i =>
    obtain ⟨h1, fl, h2⟩ := h
    cases fl with
    | true =>
      obtain ⟨a, e, r, _⟩ := l.ow i d h2
      rw [h1] at e
      cases e
      exact .inr ⟨a, rfl, r⟩
    | false =>
      obtain ⟨v', e, r⟩ := l.sh i d h2
      rw [h1] at e
      cases e
      exact .inl r
/-- a value on its way stays while another term is walked -/
theorem RepT.next {O : Addr → Prop} {H0 : Hp} {m : Md} {v : V} {d : D} (h : RepT Z H0 ρ σ F φ H m v d) (x : Post O (fun _ => False) F φ H F' φ' H') (ho : ∀ b, O b → Own ρ σ b) (fz : Fz ρ ρ') (g : GSim Z M F φ H) (hl : ρ.length = σ.length) : RepT Z H0 ρ' σ F' φ' H' m v d := by
  cases m with
  | sh => exact Rep.stay (x.stayE g) h
  | bo i =>
    obtain ⟨h1, fl, h2⟩ := h
    obtain ⟨fl', h3, _⟩ := (fz.2 i).2 d fl h2
    exact ⟨h1, fl', h3⟩
  | fr =>
    obtain ⟨a, e, r, n1, n2, n3, n4⟩ := h
    obtain ⟨vs, hv⟩ := r.lst
    refine ⟨a, e, r.stay (x.stayE g) fun vs h => x.keep a _ h n2 (fun z => z) (fun _ z => nomatch z), fun z => ?_, fun z => ?_, fun z => n3 (fz.own hl z), n4⟩
    · rcases x.new a z with q | q | q
      · exact n1 q
      · rw [q] at hv; cases hv
      · exact n3 (ho a q)
    · obtain ⟨ψ, e2, hψ⟩ := x.ext
      rw [e2] at z
      rcases List.mem_append.mp z with z | z
      · exact n2 z
      · rw [hψ a z] at hv; cases hv
theorem RepT.from {H0 H1 : Hp} {m : Md} {v : V} {d : D} (h : RepT Z H1 ρ σ F φ H m v d) (k : ∀ b, H1 b = none → H0 b = none) : RepT Z H0 ρ σ F φ H m v d := by
  cases m with
  | sh => exact h
  | bo i => exact h
  | fr =>
    obtain ⟨a, e, r, n1, n2, n3, n4⟩ := h
    exact ⟨a, e, r, n1, n2, n3, k a n4⟩
/-- slots stay while a stretch gives lists away -/
theorem LSim.post (l : LSim Z ρ F φ σ H) (x : Post (fun _ => False) (fun _ => False) F φ H F' φ' H') (g : GSim Z M F φ H) : LSim Z ρ F' φ' σ H' := by
  have s := x.stayE g
  refine ⟨l.len, fun i d h => ?_, fun i d h => ?_, fun b h => l.ent b (x.dom b h), l.inj⟩
  · obtain ⟨v, e, r⟩ := l.sh i d h
    exact ⟨v, e, r.stay s⟩
  · obtain ⟨a, e, r, n1, n2, n3⟩ := l.ow i d h
    obtain ⟨vs, hv⟩ := r.lst
    refine ⟨a, e, r.stay s fun vs h => x.keep a _ h n2 (fun z => z) (fun _ z => nomatch z), fun z => ?_, fun z => ?_, n3⟩
    · rcases x.new a z with q | q | q
      · exact n1 q
      · rw [q] at hv; cases hv
      · exact q
    · obtain ⟨ψ, e2, hψ⟩ := x.ext
      rw [e2] at z
      rcases List.mem_append.mp z with z | z
      · exact n2 z
      · rw [hψ a z] at hv; cases hv
end
end Ev

/-! Readings by the evaluator; terms one behind another. -/
namespace Ev
open L2 PyProof.Rows PySem PySem.Spec

abbrev no1 : Addr → Prop := fun _ => False
theorem PE.imp {X : Cx} {e : Expr} {t t' : TE} (h : PE X e t) (i : ∀ σ H Q, t' σ H Q → t σ H Q) : PE X e t' := ⟨fun pins s σ H Q I q => h.run pins s σ H Q I (i _ _ _ q)⟩
theorem PT.imp {X : Cx} {e : Expr} {t t' : TT} (h : PT X e t) (i : ∀ σ H Q, t' σ H Q → t σ H Q) : PT X e t' := ⟨fun pins s σ H Q I q => h.run pins s σ H Q I (i _ _ _ q)⟩
theorem PW.imp {X : Cx} {e : Expr} {t t' : TT} (h : PW X e t) (i : ∀ σ H Q, t' σ H Q → t σ H Q) : PW X e t' := ⟨fun wh pins s σ H Q I q => h.run wh pins s σ H Q I (i _ _ _ q)⟩
theorem PA.imp {X : Cx} {es : List Expr} {t t' : TA} (h : PA X es t) (i : ∀ σ H Q, t' σ H Q → t σ H Q) : PA X es t' := ⟨fun pos pins s σ H Q I q => h.run pos pins s σ H Q I (i _ _ _ q)⟩
theorem PS.imp {X : Cx} {e : Stmt} {t t' : TS} (h : PS X e t) (i : ∀ D σ H, t' D σ H → t D σ H) : PS X e t' := ⟨fun pins s σ H D I q => h.run pins s σ H D I (i _ _ _ q)⟩
theorem PSs.imp {X : Cx} {e : List Stmt} {t t' : TS} (h : PSs X e t) (i : ∀ D σ H, t' D σ H → t D σ H) : PSs X e t' := ⟨fun pins s σ H D I q => h.run pins s σ H D I (i _ _ _ q)⟩

/-- where the walk stands -/
structure Pt where
  ρ : Nv
  M : Mem
  F : Addr → Prop
  φ : List Addr
  H : Hp
abbrev Pt.Sim (Z : Zt) (σ : Sx) (p : Pt) : Prop := Ev.Sim Z p.ρ p.M p.F p.φ σ p.H
/-- from p to q by a term: lists of slots may be given away, none is changed -/
structure Via (σ : Sx) (p q : Pt) : Prop where
  post : Post (Own p.ρ σ) no1 p.F p.φ p.H q.F q.φ q.H
  fz : Fz p.ρ q.ρ
/-- how an error stands -/
structure Err (Z : Zt) (c : Nat) (v : PyData) (M : Mem) (q : Pt) (da : Addr) : Prop where
  g : GSim Z M q.F q.φ q.H
  fd : q.F da
  at_ : ∃ x, q.H da = some (.xd [(valK, x)]) ∧ RepP q.F q.H x v
/-- what is wanted behind a term -/
def Done (Z : Zt) (Eo : XK) (σ : Sx) (p : Pt) (Q : VK) : Rz Vl → Prop
  | .ok r => ∀ q v, q.ρ = r.ρ → q.M = r.M → Via σ p q → q.Sim Z σ → RepT Z p.H r.ρ σ q.F q.φ q.H r.m v r.d → Q v q.H
  | .er c v M => ∀ q da, Post (Own p.ρ σ) no1 p.F p.φ p.H q.F q.φ q.H → Err Z c v M q da → Eo (.ref (Z.ca c)) (some da) q.H
def tE (Z : Zt) (Eo : XK) (f : Nv → Mem → RE) : TE := fun σ H Q => ∃ p : Pt, p.H = H ∧ p.Sim Z σ ∧ ∃ r, f p.ρ p.M = some r ∧ Done Z Eo σ p Q r
/-- .. of a test: what is known of the value's truth -/
def DoneT (Z : Zt) (Eo : XK) (σ : Sx) (p : Pt) (Q : Bool → Hp → Prop) : Rz Vl → Prop
  | .ok r => ∃ b, tru r.d = some b ∧ ∀ q, q.ρ = r.ρ → q.M = r.M → Via σ p q → q.Sim Z σ → Q b q.H
  | .er c v M => ∀ q da, Post (Own p.ρ σ) no1 p.F p.φ p.H q.F q.φ q.H → Err Z c v M q da → Eo (.ref (Z.ca c)) (some da) q.H
def tT (Z : Zt) (Eo : XK) (f : Nv → Mem → RE) : TT := fun σ H Q => ∃ p : Pt, p.H = H ∧ p.Sim Z σ ∧ ∃ r, f p.ρ p.M = some r ∧ DoneT Z Eo σ p Q r
/-- values on their way, one behind another -/
def RepTs (Z : Zt) (H0 : Hp) (ρ : Nv) (σ : Sx) (F : Addr → Prop) (φ : List Addr) (H : Hp) : List V → List (D × Md) → Prop
  | [], [] => True
  | v :: vs, d :: ds => RepT Z H0 ρ σ F φ H d.2 v d.1 ∧ (∀ a, d.2 = .fr → v = .ref a → ∀ (j : Nat) (d' : D × Md), ds[j]? = some d' → d'.2 = .fr → vs[j]? ≠ some (V.ref a)) ∧ RepTs Z H0 ρ σ F φ H vs ds
  | _, _ => False
theorem RepTs.from {Z : Zt} {H0 H1 : Hp} {ρ : Nv} {σ : Sx} {F : Addr → Prop} {φ : List Addr} {H : Hp} (k : ∀ b, H1 b = none → H0 b = none) : ∀ {vs : List V} {ds : List (D × Md)}, RepTs Z H1 ρ σ F φ H vs ds → RepTs Z H0 ρ σ F φ H vs ds
  | [], [], _ => trivial
  | _ :: _, _ :: _, h => ⟨h.1.from k, h.2.1, RepTs.from k h.2.2⟩
  | [], _ :: _, h => h.elim
  | _ :: _, [], h => h.elim
def DoneL (Z : Zt) (Eo : XK) (σ : Sx) (p : Pt) (Q : List V → Hp → Prop) : Rz Ls → Prop
  | .ok r => ∀ q vs, q.ρ = r.ρ → q.M = r.M → Via σ p q → q.Sim Z σ → RepTs Z p.H r.ρ σ q.F q.φ q.H vs r.ds → Q vs q.H
  | .er c v M => ∀ q da, Post (Own p.ρ σ) no1 p.F p.φ p.H q.F q.φ q.H → Err Z c v M q da → Eo (.ref (Z.ca c)) (some da) q.H
def tL (Z : Zt) (Eo : XK) (f : Nv → Mem → RL) : TA := fun σ H Q => ∃ p : Pt, p.H = H ∧ p.Sim Z σ ∧ ∃ r, f p.ρ p.M = some r ∧ DoneL Z Eo σ p Q r

section
variable {Z : Zt} {Eo : XK} {σ : Sx} {p q r : Pt} {Q : VK}
theorem Via.refl : Via σ p p := ⟨Post.refl, Fz.refl _⟩
theorem Via.trans (sp : p.Sim Z σ) (x : Via σ p q) (y : Via σ q r) : Via σ p r :=
  ⟨x.post.trans y.post (fun b h => .inl (x.fz.own sp.l.len h)) (fun _ h => h.elim), x.fz.trans y.fz⟩
theorem Via.posts {F : Addr → Prop} {φ : List Addr} {H : Hp} (sp : p.Sim Z σ) (x : Via σ p q) (y : Post (Own q.ρ σ) no1 q.F q.φ q.H F φ H) : Post (Own p.ρ σ) no1 p.F p.φ p.H F φ H :=
  x.post.trans y (fun b h => .inl (x.fz.own sp.l.len h)) (fun _ h => h.elim)
theorem Done.rebase {z : Rz Vl} (sp : p.Sim Z σ) (x : Via σ p q) (d : Done Z Eo σ p Q z) : Done Z Eo σ q Q z := by
  cases z with
  | ok r => exact fun s v e1 e2 y sy rep => d s v e1 e2 (x.trans sp y) sy (rep.from x.post.dom)
  | er c v M => exact fun s da y e => d s da (x.posts sp y) e
theorem DoneT.rebase {z : Rz Vl} {Q : Bool → Hp → Prop} (sp : p.Sim Z σ) (x : Via σ p q) (d : DoneT Z Eo σ p Q z) : DoneT Z Eo σ q Q z := by
  cases z with
  | ok r =>
    obtain ⟨b, e, d⟩ := d
    exact ⟨b, e, fun s e1 e2 y sy => d s e1 e2 (x.trans sp y) sy⟩
  | er c v M => exact fun s da y e => d s da (x.posts sp y) e
theorem DoneL.rebase {z : Rz Ls} {Q : List V → Hp → Prop} (sp : p.Sim Z σ) (x : Via σ p q) (d : DoneL Z Eo σ p Q z) : DoneL Z Eo σ q Q z := by
  cases z with
  | ok r => exact fun s v e1 e2 y sy rep => d s v e1 e2 (x.trans sp y) sy (RepTs.from x.post.dom rep)
  | er c v M => exact fun s da y e => d s da (x.posts sp y) e
/-- one term, then the rest -/
theorem seqE {f : Nv → Mem → RE} {k : Vl → RE} {z : Rz Vl} {Q1 : VK} (sp : p.Sim Z σ) (h : bz (f p.ρ p.M) k = some z) (d : Done Z Eo σ p Q z)
    (hk : ∀ (d : D) (m : Md) (q : Pt) (v : V), k ⟨d, m, q.ρ, q.M⟩ = some z → Via σ p q → q.Sim Z σ → RepT Z p.H q.ρ σ q.F q.φ q.H m v d → Done Z Eo σ q Q z → Q1 v q.H) : tE Z Eo f σ p.H Q1 := by
  cases e : f p.ρ p.M with
  | none => rw [e] at h; cases h
  | some y =>
    rw [e] at h
    refine ⟨p, rfl, sp, y, e, ?_⟩
    cases y with
    | ok x =>
      obtain ⟨x1, x2, x3, x4⟩ := x
      exact fun q v e1 e2 y sy rep => by
        cases e1
        cases e2
        exact hk _ _ q v h y sy rep (d.rebase sp y)
    | er c v M =>
      have hz : z = .er c v M := (Option.some.inj h).symm
      subst hz
      exact d
theorem seqET {f : Nv → Mem → RE} {k : Vl → RE} {z : Rz Vl} {Q1 : VK} {Q : Bool → Hp → Prop} (sp : p.Sim Z σ) (h : bz (f p.ρ p.M) k = some z) (d : DoneT Z Eo σ p Q z)
    (hk : ∀ (d : D) (m : Md) (q : Pt) (v : V), k ⟨d, m, q.ρ, q.M⟩ = some z → Via σ p q → q.Sim Z σ → RepT Z p.H q.ρ σ q.F q.φ q.H m v d → DoneT Z Eo σ q Q z → Q1 v q.H) : tE Z Eo f σ p.H Q1 := by
  cases e : f p.ρ p.M with
  | none => rw [e] at h; cases h
  | some y =>
    rw [e] at h
    refine ⟨p, rfl, sp, y, e, ?_⟩
    cases y with
    | ok x =>
      obtain ⟨x1, x2, x3, x4⟩ := x
      exact fun q v e1 e2 y sy rep => by
        cases e1
        cases e2
        exact hk _ _ q v h y sy rep (d.rebase sp y)
    | er c v M =>
      have hz : z = .er c v M := (Option.some.inj h).symm
      subst hz
      exact d
theorem seqL {f : Nv → Mem → RL} {k : Ls → RE} {z : Rz Vl} {Q1 : List V → Hp → Prop} (sp : p.Sim Z σ) (h : bz (f p.ρ p.M) k = some z) (d : Done Z Eo σ p Q z)
    (hk : ∀ (ds : List (D × Md)) (q : Pt) (vs : List V), k ⟨ds, q.ρ, q.M⟩ = some z → Via σ p q → q.Sim Z σ → RepTs Z p.H q.ρ σ q.F q.φ q.H vs ds → Done Z Eo σ q Q z → Q1 vs q.H) : tL Z Eo f σ p.H Q1 := by
  cases e : f p.ρ p.M with
  | none => rw [e] at h; cases h
  | some y =>
    rw [e] at h
    refine ⟨p, rfl, sp, y, e, ?_⟩
    cases y with
    | ok x =>
      obtain ⟨x1, x2, x3⟩ := x
      exact fun q v e1 e2 y sy rep => by
        cases e1
        cases e2
        exact hk _ q v h y sy rep (d.rebase sp y)
    | er c v M =>
      have hz : z = .er c v M := (Option.some.inj h).symm
      subst hz
      exact d
theorem RepT.via {H0 : Hp} {m : Md} {v : V} {d : D} (sp : p.Sim Z σ) (h : RepT Z H0 p.ρ σ p.F p.φ p.H m v d) (x : Via σ p q) : RepT Z H0 q.ρ σ q.F q.φ q.H m v d :=
  h.next x.post (fun _ h => h) x.fz sp.g sp.l.len
theorem RepTs.rd {H0 : Hp} : ∀ {vs : List V} {ds : List (D × Md)}, p.Sim Z σ → RepTs Z H0 p.ρ σ p.F p.φ p.H vs ds → Paired (RepR Z p.F p.φ p.H) vs (ds.map (·.1))
  | [], [], _, _ => .nil
  | v :: vs, d :: ds, sp, h => .cons (h.1.r sp.l) (RepTs.rd sp h.2.2)
  | [], _ :: _, _, h => h.elim
  | _ :: _, [], _, h => h.elim
end
theorem bz_some {α β : Type} {r : Option (Rz α)} {k : α → Option (Rz β)} {z : Rz β} (h : bz r k = some z) : (∃ a, r = some (.ok a) ∧ k a = some z) ∨ ∃ c v M, r = some (.er c v M) ∧ z = .er c v M := by
  cases r with
  | none => cases h
  | some y =>
    cases y with
    | ok a => exact .inl ⟨a, rfl, h⟩
    | er c v M => exact .inr ⟨c, v, M, rfl, (Option.some.inj h).symm⟩
theorem ob_some {α β : Type} {r : Option α} {k : α → Option β} {z : β} (h : ob r k = some z) : ∃ a, r = some a ∧ k a = some z := by
  cases r with
  | none => cases h
  | some a => exact ⟨a, rfl, h⟩

/-! ### new objects -/
section
variable {Z : Zt} {ρ : Nv} {M : Mem} {F : Addr → Prop} {φ : List Addr} {σ : Sx} {H : Hp} {a : Addr} {o : HO}
theorem GSim.free (g : GSim Z M F φ H) (h : H a = none) : ¬ F a ∧ a ∉ φ := ⟨fun z => (g.dom a z).1 h, fun z => by
  obtain ⟨n, hn, e⟩ := List.mem_iff_getElem.mp z
  obtain ⟨b, vs, h1, h2, _⟩ := g.cell n (M[n]'(by rw [← g.len]; exact hn)) (by simp)
  rw [List.getElem?_eq_getElem hn, e] at h1
  cases h1
  rw [h] at h2
  cases h2⟩
theorem LSim.free (l : LSim Z ρ F φ σ H) (h : H a = none) : ¬ Own ρ σ a := fun z => by
  obtain ⟨⟨vs, e⟩, _⟩ := l.own_lst z
  rw [h] at e
  cases e
theorem post_new (O : Addr → Prop) (h : H a = none) : Post O no1 F φ H F φ (upd H a o) :=
  ⟨⟨[], by simp, by simp⟩, fun b x e _ _ _ => by rw [upd_ne (ne_of_none e h)]; exact e, fun _ h => h, fun _ h => .inl h, fun b e => by
    by_cases hb : b = a
    · rw [hb, upd_same] at e; cases e
    · rw [upd_ne hb] at e; exact e⟩
theorem GSim.next {F' : Addr → Prop} {φ' : List Addr} {H' : Hp} (g : GSim Z M F φ H) (s : Stay F φ H F' φ' H') (e : φ' = φ) (hc : ∀ b ∈ φ, H' b = H b) (hd : ∀ b, F' b → H' b ≠ none ∧ b ∉ φ) (ht : LamX.Tabs Z.T H') : GSim Z M F' φ' H' := by
  subst e
  refine ⟨hd, g.len, fun n ps h => ?_, g.nd, ht⟩
  obtain ⟨a, vs, h1, h2, h3⟩ := g.cell n ps h
  exact ⟨a, vs, h1, by rw [hc a (List.mem_of_getElem? h1)]; exact h2, h3.stay s⟩
theorem Sim.new (s : Sim Z ρ M F φ σ H) (h : H a = none) : Sim Z ρ M F φ σ (upd H a o) := by
  have x : Post no1 no1 F φ H F φ (upd H a o) := post_new no1 h
  have f := s.g.free h
  refine ⟨s.g.next (x.stayE s.g) rfl (fun b hb => upd_ne fun z => f.2 (z ▸ hb)) (fun b hb => ?_) (s.g.tab.ext fun b o e => by rw [upd_ne (ne_of_none e h)]; exact e), s.l.post x s.g⟩
  obtain ⟨h1, h2⟩ := s.g.dom b hb
  refine ⟨fun z => h1 (x.dom b z), h2⟩
/-- a term's value: it stood, or it is a new object -/
inductive New (Z : Zt) (F : Addr → Prop) (φ : List Addr) (H : Hp) : D → Bool → V → Hp → Prop where
  | same {v : V} {d : D} : Rep Z F φ H v d → New Z F φ H d false v H
  | tup {a : Addr} {vs : List V} {d : D} : H a = none → Rep Z F φ (upd H a (.tup vs)) (.ref a) d → New Z F φ H d false (.ref a) (upd H a (.tup vs))
  | lst {a : Addr} {vs : List V} {d : D} : H a = none → OwnR Z F φ (upd H a (.lst vs)) a d → New Z F φ H d true (.ref a) (upd H a (.lst vs))
end
theorem New.done {Z : Zt} {Eo : XK} {σ : Sx} {p : Pt} {Q : VK} {d : D} {fr : Bool} {v : V} {H' : Hp} (n : New Z p.F p.φ p.H d fr v H') (sp : p.Sim Z σ) (h : Done Z Eo σ p Q (.ok ⟨d, mdOf fr, p.ρ, p.M⟩)) : Q v H' := by
  cases n with
  | same r => exact h p v rfl rfl Via.refl sp r
  | tup e r =>
    exact h ⟨p.ρ, p.M, p.F, p.φ, _⟩ _ rfl rfl ⟨post_new _ e, Fz.refl _⟩ (Sim.new sp e) r
  | lst e r =>
    obtain ⟨f1, f2⟩ := GSim.free sp.g e
    exact h ⟨p.ρ, p.M, p.F, p.φ, _⟩ _ rfl rfl ⟨post_new _ e, Fz.refl _⟩ (Sim.new sp e) ⟨_, rfl, r, f1, f2, LSim.free sp.l e, e⟩
/-- an operation of two values keeps its word -/
def OpS (Z : Zt) (r : R2) (g : D → D → Option (D × Bool)) : Prop := ∀ (F : Addr → Prop) (φ : List Addr) (H : Hp) (v w : V) (x y : D) (z : D × Bool) (Q : VK),
  RepR Z F φ H v x → RepR Z F φ H w y → g x y = some z → (∀ u H', New Z F φ H z.1 z.2 u H' → Q u H') → r v w H Q
theorem liftO_some {r : Option (D × Bool)} {ρ : Nv} {M : Mem} {z : Rz Vl} (h : liftO r ρ M = some z) : ∃ t, r = some t ∧ z = .ok ⟨t.1, mdOf t.2, ρ, M⟩ := by
  obtain ⟨t, e, h2⟩ := ob_some h
  exact ⟨t, e, (Option.some.inj h2).symm⟩
theorem s_bin {X : Cx} {Z : Zt} {Eo : XK} {a b : Expr} {op : Operator} {pos : Pos} {fa fb : Nv → Mem → RE} {r : R2} {g : D → D → Option (D × Bool)} (ho : OpR X (binaryOp op) r) (hs : OpS Z r g) (ha : PE X a (tE Z Eo fa)) (hb : PE X b (tE Z Eo fb)) :
    PE X (.BinOp a op b pos) (tE Z Eo fun ρ M => bz (fa ρ M) fun x => bz (fb x.ρ x.M) fun y => liftO (g x.d y.d) y.ρ y.M) := by
  refine PE.imp (pe_op ho ha hb) fun σ H Q h => ?_
  obtain ⟨p, rfl, sp, z, hz, d⟩ := h
  refine seqE sp hz d fun x m q v h1 via sq rx d1 => ?_
  refine seqE sq h1 d1 fun y m2 t w h2 via2 st ry d2 => ?_
  obtain ⟨n, hn, rfl⟩ := liftO_some h2
  exact hs t.F t.φ t.H v w x y n Q ((RepT.via sq rx via2).r st.l) (ry.r st.l) hn fun u H' nw => New.done nw st d2
end Ev

/-! tuple * 1: the tuple itself. -/
namespace Ev
open L2 PyProof.Rows PySem PySem.Spec
theorem tuple_mulS (l : Addr) (its : Array Value) (n : Nat) (dd : Option Addr) (sl : Array (Option Value)) (u : Tok) :
    Meets (Builtin.«tuple.__mul__» ⟨[.ref l, .int 1 u], []⟩) (fun _ R s => s.heap.get? l = some { cls := .type "tuple", dict := dd, data := .seq its n, slots := sl } ∧ R (.ok (.ret (Value.ref l))) s) :=
  .of_wp fun prog w A R s h => by
    obtain ⟨hp, g, d, tk, os⟩ := s
    obtain ⟨hl, h⟩ := h
    have f1 := AutoSeq1.idx_int
    wp_walk using wpAny_loadPart' hl
    exact ⟨_, rfl, h⟩
def rRepT1 (K : PySem.W.Frag) : R2 := fun x y H Q => ∃ l xs, x = .ref l ∧ y = .int 1 ∧ SqT K H l xs ∧ Q (.ref l) H
theorem op_repT1 {X : Cx} : OpR X (binaryOp .Mult) (rRepT1 X.K) := by
  intro pins s σ H x y v u Q I rx ry h
  obtain ⟨l, xs, rfl, rfl, hT, q⟩ := h
  cases rx
  obtain ⟨t, rfl⟩ := ry
  obtain ⟨its, r, ⟨⟨cls, dd, data, sl⟩, ho, hc, n, hd⟩, hs⟩ := I.tuple hT
  simp only at hc hd
  subst hc hd
  refine wpAny_binaryOp_repeat_ref (T := "tuple") (U := "int") (by decide) ⟨_, ho, rfl⟩ (fun s' => typeIs_int s' 1 t) noFill_tuple_mul F.fills_int_mul F.slot_int_rmul repeat_tuple F.slot_int_index.lookup
    (call_meets F.slot_int_rmul (typeIs_int s 1 t) F.entry_int_rmul (F.args_int_rmul_2 _ _) (int_rmul_tuple 1 t l its.toArray n dd sl)
      ⟨ho, rfl, ⟨_, ho, rfl⟩, call_meets F.slot_tuple_mul ⟨_, ho, rfl⟩ F.entry_tuple_mul (F.args_tuple_mul_2 _ _) (tuple_mulS l its.toArray n dd sl t) ⟨ho, ?_⟩⟩)
  exact ⟨.ref l, _, I, rfl, q⟩
end Ev

/-! What a value's form tells; operations keep their word. -/
namespace Ev
open L2 PyProof.Rows PySem PySem.Spec

section
variable {Z : Zt} {F : Addr → Prop} {φ : List Addr} {H : Hp} {v : V}
theorem RepPs.len : ∀ {vs : List V} {ps : List PyData}, RepPs F H vs ps → vs.length = ps.length
  | _, _, .nil => rfl
  | _, _, .cons _ t => congrArg (· + 1) t.len
theorem Reps.len : ∀ {vs : List V} {ds : List D}, Reps Z F φ H vs ds → vs.length = ds.length
  | _, _, .nil => rfl
  | _, _, .cons _ t => congrArg (· + 1) t.len
theorem RepPs.reps : ∀ {vs : List V} {ps : List PyData}, RepPs F H vs ps → Reps Z F φ H vs (ps.map .py)
  | _, _, .nil => .nil
  | _, _, .cons h t => .cons (.py h) t.reps
theorem RepPs.get : ∀ {vs : List V} {ps : List PyData} {i : Nat} {p : PyData}, RepPs F H vs ps → ps[i]? = some p → ∃ v, vs[i]? = some v ∧ RepP F H v p
  | _, _, _, _, .nil, e => by simp at e
  | _, _, 0, _, .cons h _, e => by
    simp at e
    subst e
    exact ⟨_, rfl, h⟩
  | _, _, i + 1, _, .cons _ t, e => by
    obtain ⟨v, e1, r⟩ := RepPs.get (i := i) t (by simpa using e)
    exact ⟨v, by simpa using e1, r⟩
theorem Reps.get : ∀ {vs : List V} {ds : List D} {i : Nat} {d : D}, Reps Z F φ H vs ds → ds[i]? = some d → ∃ v, vs[i]? = some v ∧ Rep Z F φ H v d
  | _, _, _, _, .nil, e => by simp at e
  | _, _, 0, _, .cons h _, e => by
    simp at e
    subst e
    exact ⟨_, rfl, h⟩
  | _, _, i + 1, _, .cons _ t, e => by
    obtain ⟨v, e1, r⟩ := Reps.get (i := i) t (by simpa using e)
    exact ⟨v, by simpa using e1, r⟩
theorem RepPs.app : ∀ {vs ws : List V} {ps qs : List PyData}, RepPs F H vs ps → RepPs F H ws qs → RepPs F H (vs ++ ws) (ps ++ qs)
  | _, _, _, _, .nil, s => s
  | _, _, _, _, .cons h t, s => .cons h (t.app s)
theorem Reps.app : ∀ {vs ws : List V} {ps qs : List D}, Reps Z F φ H vs ps → Reps Z F φ H ws qs → Reps Z F φ H (vs ++ ws) (ps ++ qs)
  | _, _, _, _, .nil, s => s
  | _, _, _, _, .cons h t, s => .cons h (t.app s)
theorem RepPs.drop : ∀ {vs : List V} {ps : List PyData} (n : Nat), RepPs F H vs ps → RepPs F H (vs.drop n) (ps.drop n)
  | _, _, 0, h => h
  | _, _, _ + 1, .nil => .nil
  | _, _, n + 1, .cons _ t => RepPs.drop n t
theorem RepPs.take : ∀ {vs : List V} {ps : List PyData} (n : Nat), RepPs F H vs ps → RepPs F H (vs.take n) (ps.take n)
  | _, _, 0, _ => .nil
  | _, _, _ + 1, .nil => .nil
  | _, _, n + 1, .cons h t => .cons h (RepPs.take n t)
theorem Reps.drop : ∀ {vs : List V} {ps : List D} (n : Nat), Reps Z F φ H vs ps → Reps Z F φ H (vs.drop n) (ps.drop n)
  | _, _, 0, h => h
  | _, _, _ + 1, .nil => .nil
  | _, _, n + 1, .cons _ t => Reps.drop n t
theorem Reps.take : ∀ {vs : List V} {ps : List D} (n : Nat), Reps Z F φ H vs ps → Reps Z F φ H (vs.take n) (ps.take n)
  | _, _, 0, _ => .nil
  | _, _, _ + 1, .nil => .nil
  | _, _, n + 1, .cons h t => .cons h (Reps.take n t)
theorem RepPs.rev {vs : List V} {ps : List PyData} (h : RepPs F H vs ps) : RepPs F H vs.reverse ps.reverse := by
  induction h using RepPs.rec (motive_1 := fun _ _ _ => True) with
  | nil => exact .nil
  | cons h t _ ih =>
    rw [List.reverse_cons, List.reverse_cons]
    exact ih.app (.cons h .nil)
  | _ => trivial
theorem RepPs.set {v : V} {p : PyData} (r : RepP F H v p) : ∀ {vs : List V} {ps : List PyData} (i : Nat), RepPs F H vs ps → RepPs F H (vs.set i v) (ps.set i p)
  | _, _, _, .nil => .nil
  | _, _, 0, .cons _ t => .cons r t
  | _, _, i + 1, .cons h t => .cons h (RepPs.set r i t)
theorem RepPs.erase : ∀ {vs : List V} {ps : List PyData} (i : Nat), RepPs F H vs ps → RepPs F H (vs.eraseIdx i) (ps.eraseIdx i)
  | _, _, _, .nil => .nil
  | _, _, 0, .cons _ t => t
  | _, _, i + 1, .cons h t => .cons h (RepPs.erase i t)
theorem RepPs.dropLast {vs : List V} {ps : List PyData} (h : RepPs F H vs ps) : RepPs F H vs.dropLast ps.dropLast := by
  rw [List.dropLast_eq_take, List.dropLast_eq_take, h.len]
  exact h.take _
theorem RepPs.rep {vs : List V} {ps : List PyData} (h : RepPs F H vs ps) : ∀ k : Nat, RepPs F H (List.replicate k vs).flatten (List.replicate k ps).flatten
  | 0 => .nil
  | k + 1 => by
    rw [List.replicate_succ, List.replicate_succ, List.flatten_cons, List.flatten_cons]
    exact h.app (RepPs.rep h k)
theorem Reps.all : ∀ {vs : List V} {ds : List D} {ps : List PyData}, Reps Z F φ H vs ds → allPy ds = some ps → RepPs F H vs ps
  | _, _, ps, .nil, e => by
    cases e
    exact .nil
  | _, _, ps, .cons (ds := ds) (.py h) t, e => by
    unfold allPy at e
    cases q : allPy ds with
    | none => rw [q] at e; cases e
    | some qs =>
      rw [q] at e
      cases e
      exact .cons h (t.all q)
  | _, _, _, .cons (.mt _ _) _, e => by cases e
  | _, _, _, .cons (.ml _ _ _) _, e => by cases e
  | _, _, _, .cons (.fn _) _, e => by cases e
  | _, _, _, .cons (.exc _ _ _ _ _) _, e => by cases e
  | _, _, _, .cons (.cel _) _, e => by cases e
  | _, _, _, .cons (.scr _) _, e => by cases e
/-- a tuple of such values -/
theorem Reps.mkT {a : Addr} {vs : List V} {ds : List D} (h : Reps Z F φ H vs ds) (e : H a = some (.tup vs)) : Rep Z F φ H (.ref a) (mkT ds) := by
  unfold Ev.mkT
  split
  · rename_i ps q
    exact .py (.tup e (h.all q))
  · exact .mt e h
theorem Reps.mkL {a : Addr} {vs : List V} {ds : List D} (h : Reps Z F φ H vs ds) (e : H a = some (.lst vs)) : OwnR Z F φ H a (mkL ds) := by
  unfold Ev.mkL
  split
  · rename_i ps q
    exact ⟨vs, e, h.all q⟩
  · exact ⟨vs, e, h⟩
/-! forms -/
theorem RepR.int {i : Int} (h : RepR Z F φ H v (.py (.int i))) : v = .int i := by
  rcases h with h | ⟨_, _, h⟩
  · cases h with | py h => cases h with | int => rfl
  · exact h.elim
theorem RepR.bl {i : Bool} (h : RepR Z F φ H v (.py (.bool i))) : v = .bl i := by
  rcases h with h | ⟨_, _, h⟩
  · cases h with | py h => cases h with | bl => rfl
  · exact h.elim
theorem RepR.str {i : Str} (h : RepR Z F φ H v (.py (.str i))) : v = .str i := by
  rcases h with h | ⟨_, _, h⟩
  · cases h with | py h => cases h with | str => rfl
  · exact h.elim
theorem RepR.non (h : RepR Z F φ H v (.py .none)) : v = .non := by
  rcases h with h | ⟨_, _, h⟩
  · cases h with | py h => cases h with | non => rfl
  · exact h.elim
theorem RepR.tup {ps : List PyData} (h : RepR Z F φ H v (.py (.tuple ps))) : ∃ a vs, v = .ref a ∧ H a = some (.tup vs) ∧ RepPs F H vs ps := by
  rcases h with h | ⟨_, _, h⟩
  · cases h with | py h => cases h with | tup e r => exact ⟨_, _, rfl, e, r⟩
  · exact h.elim
theorem RepR.lst {ps : List PyData} (h : RepR Z F φ H v (.py (.list ps))) : ∃ a vs, v = .ref a ∧ H a = some (.lst vs) ∧ RepPs F H vs ps := by
  rcases h with h | ⟨a, e, vs, h1, h2⟩
  · cases h with | py h => cases h with | lst _ e r => exact ⟨_, _, rfl, e, r⟩
  · exact ⟨a, vs, e, h1, h2⟩
theorem RepR.mt {ds : List D} (h : RepR Z F φ H v (.mt ds)) : ∃ a vs, v = .ref a ∧ H a = some (.tup vs) ∧ Reps Z F φ H vs ds := by
  rcases h with h | ⟨_, _, h⟩
  · cases h with | mt e r => exact ⟨_, _, rfl, e, r⟩
  · exact h.elim
theorem RepR.ml {ds : List D} (h : RepR Z F φ H v (.ml ds)) : ∃ a vs, v = .ref a ∧ H a = some (.lst vs) ∧ Reps Z F φ H vs ds := by
  rcases h with h | ⟨a, e, vs, h1, h2⟩
  · cases h with | ml _ e r => exact ⟨_, _, rfl, e, r⟩
  · exact ⟨a, vs, e, h1, h2⟩
theorem RepR.exc {c : Nat} {p : PyData} (h : RepR Z F φ H v (.exc c p)) : ∃ a d w, v = .ref a ∧ H a = some (ExV (.ref (Z.ca c)) d a) ∧ H d = some (.xd [(valK, w)]) ∧ RepP F H w p := by
  rcases h with h | ⟨_, _, h⟩
  · cases h with | exc _ _ h1 h2 h3 => exact ⟨_, _, _, rfl, h1, h2, h3⟩
  · exact h.elim
theorem RepR.cel {n : Nat} (h : RepR Z F φ H v (.cel n)) : ∃ a, v = .ref a ∧ φ[n]? = some a := by
  rcases h with h | ⟨_, _, h⟩
  · cases h with | cel e => exact ⟨_, rfl, e⟩
  · exact h.elim
theorem RepR.scr {ns : List Int} (h : RepR Z F φ H v (.scr ns)) : ∃ a, v = .ref a ∧ SqL Z.K H a (ns.map V.int) := by
  rcases h with h | ⟨_, _, h⟩
  · cases h with
    | scr e =>
      refine ⟨_, rfl, ?_⟩
      rcases e with ⟨o, e⟩ | ⟨_, e⟩ | e
      · exact .inl (.inr ⟨o, e⟩)
      · exact .inl (.inl e)
      · rcases e with (e | ⟨_, e⟩) | e
        · cases e
        · cases e
        · exact .inr e
  · exact h.elim
theorem RepR.fn {k : Nat} (h : RepR Z F φ H v (.fn k)) : v = .ref (Z.fa k) := by
  rcases h with h | ⟨_, _, h⟩
  · cases h with | fn => rfl
  · exact h.elim
theorem RepR.clo {k : Nat} (h : RepR Z F φ H v (.clo k)) : ∃ a c' ps b sc, v = .ref a ∧ Z.lg k ps b sc ∧ H a = some (LamP Z.lq Z.lcl ps b sc a c') ∧ H c' = some (LamX.CodeO c' Z.lq) := by
  rcases h with h | ⟨_, _, h⟩
  · cases h with | clo h1 h2 h3 => exact ⟨_, _, _, _, _, rfl, h1, h2, h3⟩
  · exact h.elim
theorem rInt (i : Int) : Rep Z F φ H (.int i) (.py (.int i)) := .py (.int i)
theorem rStr (i : Str) : Rep Z F φ H (.str i) (.py (.str i)) := .py (.str i)
theorem rBl (i : Bool) : Rep Z F φ H (.bl i) (.py (.bool i)) := .py (.bl i)
/-! data as the hand layer reads it -/
mutual
theorem RepP.dp : ∀ {v : V} {p : PyData}, RepP F H v p → Dp Z.K H v p
  | _, _, .non => .non
  | _, _, .bl b => .bl b
  | _, _, .int i => .int i
  | _, _, .str i => .str i
  | _, _, .lst _ e r => .lst (SqL.of e) r.dp
  | _, _, .tup e r => .tup (SqT.of e) r.dp
theorem RepPs.dp : ∀ {vs : List V} {ps : List PyData}, RepPs F H vs ps → DpAll Z.K H vs ps
  | _, _, .nil => .nil
  | _, _, .cons h t => .cons h.dp t.dp
end
theorem RepR.dp {p : PyData} (h : RepR Z F φ H v (.py p)) : Dp Z.K H v p := by
  rcases h with h | ⟨a, e, h⟩
  · cases h with | py h => exact h.dp
  · cases p with
    | list ps =>
      obtain ⟨vs, h1, h2⟩ := h
      subst e
      exact .lst (SqL.of h1) h2.dp
    | _ => exact h.elim
end

/-! ### operations -/
section
variable {X : Cx} {Z : Zt}
theorem bits_ok {n : Nat} {i : Int} (h : bits n i = true) : i.natAbs < 2 ^ n := of_decide_eq_true h
def opE : Op2 → Operator
  | .add => .Add | .sub => .Sub | .mul => .Mult | .fdiv => .FloorDiv | .mod => .Mod | .pow => .Pow | .shl => .LShift | .shr => .RShift | .band => .BitAnd | .bxor => .BitXor | .bor => .BitOr
/-- two ints, an int -/
theorem opS_int {C : Int → Int → Prop} {g : Int → Int → Int} {h : D → D → Option (D × Bool)}
    (e : ∀ x y z, h x y = some z → ∃ i j, x = .py (.int i) ∧ y = .py (.int j) ∧ C i j ∧ z = (.py (.int (g i j)), false)) : OpS Z (rI C fun i j => .int (g i j)) h := by
  intro F φ H v w x y z Q rx ry q k
  obtain ⟨i, j, rfl, rfl, c, rfl⟩ := e x y z q
  exact ⟨i, j, rx.int, ry.int, c, k _ _ (.same (rInt _))⟩
theorem opS_or {r r' : R2} {h h' : D → D → Option (D × Bool)} (a : OpS Z r h) (b : OpS Z r' h') : OpS Z (fun x y H Q => r x y H Q ∨ r' x y H Q) (orO h h') := by
  intro F φ H v w x y z Q rx ry q kk
  unfold orO at q
  split at q
  · rename_i z' e
    cases q
    exact .inl (a F φ H v w x y z Q rx ry e kk)
  · exact .inr (b F φ H v w x y z Q rx ry q kk)
theorem oInt_some {C : Int → Int → Bool} {g : Int → Int → Int} {x y : D} {z : D × Bool} (h : oInt C g x y = some z) : ∃ i j, x = .py (.int i) ∧ y = .py (.int j) ∧ C i j = true ∧ z = (.py (.int (g i j)), false) := by
  unfold oInt at h
  split at h
  · split at h
    · rename_i i j c
      exact ⟨i, j, rfl, rfl, c, (Option.some.inj h).symm⟩
    · cases h
  · cases h
theorem s_oInt {C : Int → Int → Bool} {C' : Int → Int → Prop} {g : Int → Int → Int} (hc : ∀ i j, C i j = true → C' i j) : OpS Z (rI C' fun i j => .int (g i j)) (oInt C g) := opS_int fun _ _ _ h => by
  obtain ⟨i, j, h1, h2, h3, h4⟩ := oInt_some h
  exact ⟨i, j, h1, h2, hc i j h3, h4⟩
/-- texts glued -/
theorem s_oStr : OpS Z (fun x y H Q => ∃ i j, x = .str i ∧ y = .str j ∧ i.length + j.length ≤ sizeLine ∧ Q (.str (i ++ j)) H) oStr := by
  intro F φ H v w x y z Q rx ry q k
  unfold oStr at q
  split at q
  · split at q
    · rename_i hz
      cases q
      exact ⟨_, _, rx.str, ry.str, hz, k _ _ (.same (rStr _))⟩
    · cases q
  · cases q
/-- tuples, lists, one behind another -/
theorem s_oTup : OpS Z (rCatA X.K) oTup := by
  intro F φ H v w x y z Q rx ry q k
  unfold oTup at q
  split at q
  · split at q
    · rename_i xs ys hz
      cases q
      obtain ⟨a, vs, rfl, ha, r1⟩ := rx.tup
      obtain ⟨b, ws, rfl, hb, r2⟩ := ry.tup
      refine ⟨a, b, vs, ws, rfl, rfl, SqT.of ha, SqT.of hb, by rw [r1.len, r2.len]; exact hz, fun e => ?_, fun _ e => ?_, fun _ _ p hp => k _ _ (.tup hp (.py (.tup upd_same ?_)))⟩
      · subst e
        cases r1
        exact k _ _ (.same (.py (.tup hb r2)))
      · subst e
        cases r2
        rw [List.append_nil] at k
        exact k _ _ (.same (.py (.tup ha r1)))
      · have s : Stay F φ H F φ (upd H p (.tup (vs ++ ws))) := ⟨fun _ h => h, fun b o _ h _ => by rw [upd_ne (ne_of_none h hp)]; exact h, fun b o h => by rw [upd_ne (ne_of_none h hp)]; exact h, fun b o u h => by rw [upd_ne (ne_of_none h hp)]; exact h, fun b f h => by rw [upd_ne (ne_of_none h hp)]; exact h, ⟨[], by simp⟩⟩
        exact (r1.app r2).stay s
    · cases q
  · cases q
theorem stay_upd {F : Addr → Prop} {φ : List Addr} {H : Hp} {p : Addr} {o : HO} (hp : H p = none) : Stay F φ H F φ (upd H p o) :=
  ⟨fun _ h => h, fun b x _ h _ => by rw [upd_ne (ne_of_none h hp)]; exact h, fun b x h => by rw [upd_ne (ne_of_none h hp)]; exact h, fun b x u h => by rw [upd_ne (ne_of_none h hp)]; exact h, fun b f h => by rw [upd_ne (ne_of_none h hp)]; exact h, ⟨[], by simp⟩⟩
theorem s_oLst : OpS Z rCat oLst := by
  intro F φ H v w x y z Q rx ry q k
  unfold oLst at q
  split at q
  · split at q
    · rename_i xs ys hz
      cases q
      obtain ⟨a, vs, rfl, ha, r1⟩ := rx.lst
      obtain ⟨b, ws, rfl, hb, r2⟩ := ry.lst
      exact ⟨a, b, vs, ws, rfl, rfl, ha, hb, by rw [r1.len, r2.len]; exact hz, fun p hp => k _ _ (.lst hp ⟨_, upd_same, (r1.app r2).stay (stay_upd (φ := φ) hp)⟩)⟩
    · cases q
  · cases q
theorem s_oRepT : OpS Z (rRepT X.K) oRepT := by
  intro F φ H v w x y z Q rx ry q k
  unfold oRepT at q
  split at q
  · split at q
    · rename_i xs n hz
      cases q
      simp only [Bool.and_eq_true, decide_eq_true_eq, Bool.not_eq_true', List.isEmpty_eq_false_iff] at hz
      obtain ⟨⟨⟨h1, h2⟩, h3⟩, h4⟩ := hz
      obtain ⟨a, vs, rfl, ha, r1⟩ := rx.tup
      refine ⟨a, n, vs, rfl, ry.int, SqT.of ha, fun e => ?_, h1, h2, by rw [r1.len]; exact h3, fun p hp => k _ _ (.tup hp (.py (.tup upd_same ((r1.rep _).stay (stay_upd (φ := φ) hp)))))⟩
      subst e
      cases r1
      exact h4 rfl
    · cases q
  · cases q
theorem s_oRepT1 : OpS Z (rRepT1 X.K) oRepT1 := by
  intro F φ H v w x y z Q rx ry q k
  unfold oRepT1 at q
  split at q
  · split at q
    · rename_i xs n hz
      cases q
      subst hz
      have rx0 := rx
      obtain ⟨a, vs, rfl, ha, r1⟩ := rx.tup
      refine ⟨a, vs, rfl, ry.int, SqT.of ha, k _ _ (.same (.py (.tup ha r1)))⟩
    · cases q
  · cases q
theorem s_oRepL : OpS Z rRep oRepL := by
  intro F φ H v w x y z Q rx ry q k
  unfold oRepL at q
  split at q
  · split at q
    · rename_i xs n hz
      cases q
      simp only [Bool.and_eq_true, decide_eq_true_eq] at hz
      obtain ⟨⟨h1, h2⟩, h3⟩ := hz
      obtain ⟨a, vs, rfl, ha, r1⟩ := rx.lst
      exact ⟨a, n, vs, rfl, ry.int, ha, by omega, by omega, by rw [r1.len]; exact h3, fun p hp => k _ _ (.lst hp ⟨_, upd_same, (r1.rep _).stay (stay_upd (φ := φ) hp)⟩)⟩
    · cases q
  · cases q
theorem op_powX : OpR X (binaryOp .Pow) (rI (fun i j => 0 ≤ j ∧ (Builtin.Int.intBits i : Int) * j ≤ 2 ^ 27) fun i j => .int (i ^ j.toNat)) := opI fun _ _ _ _ _ _ _ hc q => pow_int hc.1 hc.2 q
theorem intBits_lt {i : Int} {n : Nat} (h : i.natAbs < 2 ^ n) : Builtin.Int.intBits i ≤ n := by
  unfold Builtin.Int.intBits
  split
  · exact Nat.zero_le _
  · rename_i hne
    have h0 : i.natAbs ≠ 0 := fun z => by
      have : i = 0 := Int.natAbs_eq_zero.mp z
      simp [this] at hne
    exact (Nat.log2_lt h0).mpr h
theorem s_oAny {C : Int → Int → Bool} {g : Int → Int → Int} : OpS Z (rI0 fun i j => .int (g i j)) (oInt C g) := by
  intro F φ H v w x y z Q rx ry q k
  obtain ⟨i, j, rfl, rfl, _, rfl⟩ := oInt_some q
  exact ⟨i, j, rx.int, ry.int, k _ _ (.same (rInt _))⟩
/-- each operator, its rule -/
theorem s_op2 (X : Cx) (Z : Zt) (o : Op2) : ∃ r, OpR X (binaryOp (opE o)) r ∧ OpS Z r (o2 o) := by
  cases o with
  | add => exact ⟨_, op_add.or (op_add_str.or (op_catA.or op_cat)), opS_or s_oAny (opS_or s_oStr (opS_or s_oTup s_oLst))⟩
  | sub => exact ⟨_, op_sub, s_oAny⟩
  | mul =>
    refine ⟨_, op_mulX.or (op_repT.or (op_repT1.or op_rep)), opS_or (s_oInt fun i j h => ?_) (opS_or s_oRepT (opS_or s_oRepT1 s_oRepL))⟩
    simp only [Bool.and_eq_true] at h
    exact mulx_ok (bits_ok h.1) (bits_ok h.2) (by decide)
  | fdiv =>
    refine ⟨_, op_fdiv, s_oInt fun i j h => ?_⟩
    simp only [Bool.and_eq_true, decide_eq_true_eq] at h
    exact h
  | mod => exact ⟨_, op_mod, s_oInt fun i j h => of_decide_eq_true h⟩
  | pow =>
    refine ⟨_, op_powX, s_oInt fun i j h => ?_⟩
    simp only [Bool.and_eq_true, decide_eq_true_eq] at h
    obtain ⟨⟨h1, h2⟩, h3⟩ := h
    have h4 := intBits_lt (bits_ok h3)
    refine ⟨h1, ?_⟩
    have h5 : (Builtin.Int.intBits i : Int) * j ≤ 1000 * 1000 := Int.mul_le_mul (by omega) h2 h1 (by decide)
    omega
  | shl =>
    refine ⟨_, op_shl, s_oInt fun i j h => ?_⟩
    simp only [Bool.and_eq_true, decide_eq_true_eq] at h
    obtain ⟨⟨h1, h2⟩, h3⟩ := h
    exact ⟨h1, by omega, Nat.lt_of_lt_of_le (bits_ok h3) (by decide)⟩
  | shr => exact ⟨_, op_shr, s_oInt fun i j h => of_decide_eq_true h⟩
  | band => exact ⟨_, op_and, s_oAny⟩
  | bxor => exact ⟨_, op_xor, s_oAny⟩
  | bor => exact ⟨_, op_or, s_oAny⟩
end
end Ev

/-! Comparisons, truth, built-in functions. -/
namespace Ev
open L2 PyProof.Rows PySem PySem.Spec

/-- a comparison keeps its word -/
def CmS (Z : Zt) (r : R2) (g : D → D → Option Bool) : Prop := ∀ (F : Addr → Prop) (φ : List Addr) (H : Hp) (v w : V) (x y : D) (b : Bool) (Q : VK),
  RepR Z F φ H v x → RepR Z F φ H w y → g x y = some b → Q (.bl b) H → r v w H Q
section
variable {X : Cx} {Z : Zt}
theorem cmS_or {r r' : R2} {h h' : D → D → Option Bool} (a : CmS Z r h) (b : CmS Z r' h') : CmS Z (fun x y H Q => r x y H Q ∨ r' x y H Q) (orO h h') := by
  intro F φ H v w x y z Q rx ry q kk
  unfold orO at q
  split at q
  · rename_i z' e
    cases q
    exact .inl (a F φ H v w x y z Q rx ry e kk)
  · exact .inr (b F φ H v w x y z Q rx ry q kk)
theorem cmS_not_or {r r' : R2} {h h' : D → D → Option Bool} (a : CmS Z r fun x y => notO (h x y)) (b : CmS Z r' fun x y => notO (h' x y)) : CmS Z (fun x y H Q => r x y H Q ∨ r' x y H Q) fun x y => notO (orO h h' x y) := by
  intro F φ H v w x y z Q rx ry q kk
  unfold orO at q
  dsimp only at q
  cases e : h x y with
  | some z' =>
    rw [e] at q
    exact .inl (a F φ H v w x y z Q rx ry (by show notO (h x y) = _; rw [e]; exact q) kk)
  | none =>
    rw [e] at q
    exact .inr (b F φ H v w x y z Q rx ry q kk)
theorem cInt_some {g : Int → Int → Bool} {x y : D} {b : Bool} (h : cInt g x y = some b) : ∃ i j, x = .py (.int i) ∧ y = .py (.int j) ∧ b = g i j := by
  unfold cInt at h
  split at h
  · cases h
    exact ⟨_, _, rfl, rfl, rfl⟩
  · cases h
theorem notO_some {r : Option Bool} {b : Bool} (h : notO r = some b) : ∃ c, r = some c ∧ b = !c := by
  cases r with
  | none => cases h
  | some c => exact ⟨c, rfl, (Option.some.inj h).symm⟩
theorem s_cInt {g : Int → Int → Bool} : CmS Z (rI0 fun i j => .bl (g i j)) (cInt g) := by
  intro F φ H v w x y b Q rx ry q k
  obtain ⟨i, j, rfl, rfl, rfl⟩ := cInt_some q
  exact ⟨i, j, rx.int, ry.int, k⟩
/-- data of a kind, compared by a rule of the library -/
def rData (K : PySem.W.Frag) (C : PyData → PyData → Prop) (g : PyData → PyData → Bool) : R2 := fun x y H Q => ∃ d e, Dp K H x d ∧ Dp K H y e ∧ C d e ∧ Q (.bl (g d e)) H
theorem op_data {op : CmpOp} {C : PyData → PyData → Prop} {g : PyData → PyData → Bool}
    (rule : ∀ (s : Shared) (a b : Value) (d e : PyData) (as bs : List Addr) (Q : Value → Shared → Prop), Reads s.heap a d as → Reads s.heap b e bs → C d e → Q (.bool (g d e)) s → wpAny (model X.prog X.w) X.A (compareOp op a b) Q X.xe s) :
    OpR X (compareOp op) (rData X.K C g) := by
  intro pins s σ H x y v u Q I rx ry h
  obtain ⟨d, e, hd, he, c, q⟩ := h
  obtain ⟨as, r1⟩ := Dp.reads I d x v hd rx
  obtain ⟨bs, r2⟩ := Dp.reads I e y u he ry
  exact rule s v u d e as bs _ r1 r2 c ⟨.bl _, H, I, rfl, q⟩
theorem s_data {C : PyData → PyData → Prop} {g : PyData → PyData → Bool} {h : D → D → Option Bool} (e : ∀ x y b, h x y = some b → ∃ p q, x = .py p ∧ y = .py q ∧ C p q ∧ b = g p q) : CmS Z (rData Z.K C g) h := by
  intro F φ H v w x y b Q rx ry q k
  obtain ⟨p, p', rfl, rfl, c, rfl⟩ := e x y b q
  exact ⟨p, p', rx.dp, ry.dp, c, k⟩
def Alk (p q : PyData) : Prop := PySem.W.alike p q = true ∧ p ≠ .none ∧ p.depth ≤ 64
theorem cData_some {g : PyData → PyData → Bool} {x y : D} {b : Bool} (h : cData g x y = some b) : ∃ p q, x = .py p ∧ y = .py q ∧ Alk p q ∧ b = g p q := by
  unfold cData at h
  split at h
  · rename_i p q
    split at h
    · rename_i hc
      cases h
      simp only [Bool.and_eq_true, decide_eq_true_eq] at hc
      refine ⟨p, q, rfl, rfl, ⟨hc.1.1, fun z => ?_, hc.2⟩, rfl⟩
      rw [z] at hc
      exact absurd hc.1.2 (by decide)
    · cases h
  · cases h
theorem min_room {A : Around} {p q : PyData} (h : p.depth ≤ 64) (hu : A.units + 64 < cLine) : A.units + min p.depth q.depth < cLine := by
  have := Nat.min_le_left p.depth q.depth
  omega
def Shp (p q : PyData) : Prop := SeqAt.shaped p = true ∧ SeqAt.shaped q = true
theorem eqP_some {x y : D} {b : Bool} (h : eqP x y = some b) : ∃ p q, x = .py p ∧ y = .py q ∧ Shp p q ∧ b = PyData.eqv p q := by
  unfold eqP at h
  split at h
  · rename_i p q
    split at h
    · rename_i hc
      cases h
      simp only [Bool.and_eq_true] at hc
      exact ⟨p, q, rfl, rfl, hc, rfl⟩
    · cases h
  · cases h
def ShL (p q : PyData) : Prop := Shp p q ∧ ∃ ys, q = .list ys
def ShT (p q : PyData) : Prop := Shp p q ∧ ∃ ys, q = .tuple ys
def anyP : PyData → PyData → Bool := fun x q => match q with
  | .list ys => ys.any fun y => PyData.eqv y x
  | .tuple ys => ys.any fun y => PyData.eqv y x
  | _ => false
theorem inL_some {x y : D} {b : Bool} (h : inL x y = some b) : ∃ p q, x = .py p ∧ y = .py q ∧ ShL p q ∧ b = anyP p q := by
  unfold inL at h
  split at h
  · rename_i p ys
    split at h
    · rename_i hc
      cases h
      simp only [Bool.and_eq_true] at hc
      exact ⟨p, _, rfl, rfl, ⟨hc, ys, rfl⟩, rfl⟩
    · cases h
  · cases h
theorem inT_some {x y : D} {b : Bool} (h : inT x y = some b) : ∃ p q, x = .py p ∧ y = .py q ∧ ShT p q ∧ b = anyP p q := by
  unfold inT at h
  split at h
  · rename_i p ys
    split at h
    · rename_i hc
      cases h
      simp only [Bool.and_eq_true] at hc
      exact ⟨p, _, rfl, rfl, ⟨hc, ys, rfl⟩, rfl⟩
    · cases h
  · cases h
theorem not_of {C : PyData → PyData → Prop} {g : PyData → PyData → Bool} {h : D → D → Option Bool} (e : ∀ x y b, h x y = some b → ∃ p q, x = .py p ∧ y = .py q ∧ C p q ∧ b = g p q) :
    ∀ x y b, notO (h x y) = some b → ∃ p q, x = .py p ∧ y = .py q ∧ C p q ∧ b = !g p q := by
  intro x y b q
  obtain ⟨c, e1, rfl⟩ := notO_some q
  obtain ⟨p, p', h1, h2, h3, h4⟩ := e x y c e1
  exact ⟨p, p', h1, h2, h3, by rw [h4]⟩
theorem s_inS : CmS Z (fun x y H Q => ∃ i j, x = .str i ∧ y = .str j ∧ Q (.bl (!(Builtin.Str.occurrences j i 0 j.length 1).isEmpty)) H) inS := by
  intro F φ H v w x y b Q rx ry q k
  unfold inS at q
  split at q
  · cases q
    exact ⟨_, _, rx.str, ry.str, k⟩
  · cases q
theorem s_inSn : CmS Z (fun x y H Q => ∃ i j, x = .str i ∧ y = .str j ∧ Q (.bl (!(!(Builtin.Str.occurrences j i 0 j.length 1).isEmpty))) H) fun x y => notO (inS x y) := by
  intro F φ H v w x y b Q rx ry q k
  obtain ⟨c, e, rfl⟩ := notO_some q
  unfold inS at e
  split at e
  · cases e
    exact ⟨_, _, rx.str, ry.str, k⟩
  · cases e
theorem s_eqS : CmS Z rEq eqS := by
  intro F φ H v w x y b Q rx ry q k
  unfold eqS at q
  split at q
  · rename_i a c
    cases q
    have e1 := rx.str
    have e2 := ry.str
    subst e1 e2
    refine ⟨rfl, ?_⟩
    have e : decide (V.str a = V.str c) = decide (a = c) := decide_eq_decide.mpr ⟨fun z => V.str.inj z, fun z => by rw [z]⟩
    rw [e]
    exact k
  · cases q
theorem s_eqSn : CmS Z rNe fun x y => notO (eqS x y) := by
  intro F φ H v w x y b Q rx ry q k
  obtain ⟨cc, e, rfl⟩ := notO_some q
  unfold eqS at e
  split at e
  · rename_i a c
    cases e
    have e1 := rx.str
    have e2 := ry.str
    subst e1 e2
    refine ⟨rfl, ?_⟩
    have e : decide (V.str a = V.str c) = decide (a = c) := decide_eq_decide.mpr ⟨fun z => V.str.inj z, fun z => by rw [z]⟩
    rw [e]
    exact k
  · cases e
theorem s_eqI : CmS Z rEq (cInt fun i j => i == j) := by
  intro F φ H v w x y b Q rx ry q k
  obtain ⟨i, j, rfl, rfl, rfl⟩ := cInt_some q
  have e1 := rx.int
  have e2 := ry.int
  subst e1 e2
  exact ⟨rfl, by rw [dec_int]; exact k⟩
theorem s_eqIn : CmS Z rNe fun x y => notO (cInt (fun i j => i == j) x y) := by
  intro F φ H v w x y b Q rx ry q k
  obtain ⟨c, e, rfl⟩ := notO_some q
  obtain ⟨i, j, rfl, rfl, rfl⟩ := cInt_some e
  have e1 := rx.int
  have e2 := ry.int
  subst e1 e2
  exact ⟨rfl, by rw [dec_int]; exact k⟩
def nonP : PyData → Bool
  | .none => true
  | _ => false
theorem RepR.isn {F : Addr → Prop} {φ : List Addr} {H : Hp} {v : V} {p : PyData} (h : RepR Z F φ H v (.py p)) : decide (v = .non) = nonP p := by
  cases p with
  | none => have e := h.non; subst e; rfl
  | bool b => have e := h.bl; subst e; rfl
  | int b => have e := h.int; subst e; rfl
  | str b => have e := h.str; subst e; rfl
  | list b => obtain ⟨a, vs, rfl, _⟩ := h.lst; rfl
  | tuple b => obtain ⟨a, vs, rfl, _⟩ := h.tup; rfl
  | dict b =>
    rcases h with h | ⟨_, _, h⟩
    · cases h with | py h => cases h
    · exact h.elim
theorem s_isN' {b : Bool} {F : Addr → Prop} {φ : List Addr} {H : Hp} {v w : V} {x y : D} (rx : RepR Z F φ H v x) (ry : RepR Z F φ H w y) (q : isN x y = some b) : w = .non ∧ decide (v = .non) = b := by
  unfold isN at q
  split at q
  · cases q
    exact ⟨ry.non, by rw [rx.isn]; rfl⟩
  · rename_i p hne
    cases q
    refine ⟨ry.non, ?_⟩
    rw [rx.isn]
    cases p <;> first | rfl | exact (hne rfl).elim
  · cases q
    obtain ⟨a, vs, rfl, _⟩ := rx.mt
    exact ⟨ry.non, rfl⟩
  · cases q
    obtain ⟨a, vs, rfl, _⟩ := rx.ml
    exact ⟨ry.non, rfl⟩
  · cases q
    obtain ⟨a, d, vs, rfl, _⟩ := rx.exc
    exact ⟨ry.non, rfl⟩
  · cases q
theorem s_isN : CmS Z (fun x y H Q => y = .non ∧ Q (.bl (decide (x = .non))) H) isN := by
  intro F φ H v w x y b Q rx ry q k
  obtain ⟨e1, e2⟩ := s_isN' rx ry q
  exact ⟨e1, by rw [e2]; exact k⟩
theorem s_isNn : CmS Z (fun x y H Q => y = .non ∧ Q (.bl (!decide (x = .non))) H) fun x y => notO (isN x y) := by
  intro F φ H v w x y b Q rx ry q k
  obtain ⟨c, e, rfl⟩ := notO_some q
  obtain ⟨e1, e2⟩ := s_isN' rx ry e
  exact ⟨e1, by rw [e2]; exact k⟩
theorem s_isB : CmS Z rIsB isB := by
  intro F φ H v w x y b Q rx ry q k
  unfold isB at q
  split at q
  · cases q
    exact ⟨_, _, rx.bl, ry.bl, k⟩
  · cases q
theorem s_isBn : CmS Z rNotB fun x y => notO (isB x y) := by
  intro F φ H v w x y b Q rx ry q k
  obtain ⟨c, e, rfl⟩ := notO_some q
  unfold isB at e
  split at e
  · cases e
    exact ⟨_, _, rx.bl, ry.bl, k⟩
  · cases e
def cmE : Cm → CmpOp
  | .eq => .Eq | .ne => .NotEq | .lt => .Lt | .le => .LtE | .gt => .Gt | .ge => .GtE | .is => .Is | .isnot => .IsNot | .inn => .In | .notin => .NotIn
theorem anyP_list (x : PyData) (ys : List PyData) : anyP x (.list ys) = ys.any fun y => PyData.eqv y x := rfl
theorem s_cm (X : Cx) (Z : Zt) (hK : X.K = Z.K) (hu : X.A.units + 65 < cLine) (o : Cm) : ∃ r, OpR X (compareOp (cmE o)) r ∧ CmS Z r (cm o) := by
  have hu4 : X.A.units + 64 < cLine := by omega
  cases o with
  | eq => exact ⟨_, op_eq.or (op_eq.or (op_data (C := Shp) fun s a b d e as bs Q r1 r2 c q => SeqAt.compareEq_shaped r1 r2 c.1 c.2 hu4 q)), cmS_or s_eqI (cmS_or s_eqS (by rw [hK]; exact s_data fun x y b => eqP_some))⟩
  | ne => exact ⟨_, op_ne.or (op_ne.or (op_data (C := Shp) (g := fun p q => !PyData.eqv p q) fun s a b d e as bs Q r1 r2 c q => SeqAt.compareNe_shaped r1 r2 c.1 c.2 hu4 q)), cmS_not_or s_eqIn (cmS_not_or s_eqSn (by rw [hK]; exact s_data (not_of fun x y b => eqP_some)))⟩
  | lt => exact ⟨_, op_lt.or (op_data (C := Alk) fun s a b d e as bs Q r1 r2 c q => PySem.W.lt_data r1 r2 c.1 c.2.1 (min_room c.2.2 hu4) q), cmS_or s_cInt (by rw [hK]; exact s_data fun x y b => cData_some)⟩
  | gt => exact ⟨_, op_gt.or (op_data (C := Alk) fun s a b d e as bs Q r1 r2 c q => PySem.W.gt_data r1 r2 c.1 c.2.1 (min_room c.2.2 hu4) q), cmS_or s_cInt (by rw [hK]; exact s_data fun x y b => cData_some)⟩
  | le => exact ⟨_, op_le.or (op_data (C := Alk) fun s a b d e as bs Q r1 r2 c q => PySem.W.le_data r1 r2 c.1 c.2.1 (min_room c.2.2 hu4) q), cmS_or s_cInt (by rw [hK]; exact s_data fun x y b => cData_some)⟩
  | ge => exact ⟨_, op_ge.or (op_data (C := Alk) fun s a b d e as bs Q r1 r2 c q => PySem.W.ge_data r1 r2 c.1 c.2.1 (min_room c.2.2 hu4) q), cmS_or s_cInt (by rw [hK]; exact s_data fun x y b => cData_some)⟩
  | is => exact ⟨_, op_isN.or op_isBl, cmS_or s_isN s_isB⟩
  | isnot => exact ⟨_, op_notN.or op_notBl, cmS_not_or s_isNn s_isBn⟩
  | inn =>
    refine ⟨_, (op_data (C := ShT) (g := anyP) fun s a b d e as bs Q r1 r2 c q => ?_).or ((op_data (C := ShL) (g := anyP) fun s a b d e as bs Q r1 r2 c q => ?_).or op_in_str),
      cmS_or (by rw [hK]; exact s_data fun x y b => inT_some) (cmS_or (by rw [hK]; exact s_data fun x y b => inL_some) s_inS)⟩
    · obtain ⟨⟨c1, c2⟩, ys, rfl⟩ := c
      exact SeqAt.in_tuple_reads r2 r1 (SeqAt.canLay_of_shaped c2) (SeqAt.canLay_of_shaped c1) (room_in_shaped c1 hu) q
    · obtain ⟨⟨c1, c2⟩, ys, rfl⟩ := c
      exact SeqAt.in_list_reads r2 r1 (SeqAt.canLay_of_shaped c2) (SeqAt.canLay_of_shaped c1) (room_in_shaped c1 hu) q
  | notin =>
    refine ⟨_, (op_data (C := ShT) (g := fun p q => !anyP p q) fun s a b d e as bs Q r1 r2 c q => ?_).or ((op_data (C := ShL) (g := fun p q => !anyP p q) fun s a b d e as bs Q r1 r2 c q => ?_).or op_notIn_str),
      cmS_not_or (by rw [hK]; exact s_data (not_of fun x y b => inT_some)) (cmS_not_or (by rw [hK]; exact s_data (not_of fun x y b => inL_some)) s_inSn)⟩
    · obtain ⟨⟨c1, c2⟩, ys, rfl⟩ := c
      exact SeqAt.notIn_tuple_reads r2 r1 (SeqAt.canLay_of_shaped c2) (SeqAt.canLay_of_shaped c1) (room_in_shaped c1 hu) q
    · obtain ⟨⟨c1, c2⟩, ys, rfl⟩ := c
      exact SeqAt.notIn_list_reads r2 r1 (SeqAt.canLay_of_shaped c2) (SeqAt.canLay_of_shaped c1) (room_in_shaped c1 hu) q
/-- truth -/
theorem tru_ok' {F : Addr → Prop} {φ : List Addr} {H : Hp} {v : V} {d : D} {b : Bool} (r : RepR Z F φ H v d) (h : tru d = some b) : TruV Z.K v H b := by
  unfold tru at h
  split at h
  · cases h
    rw [r.non]
    exact rfl
  · cases h
    rw [r.bl]
    exact rfl
  · cases h
    rw [r.int]
    exact rfl
  · split at h
    · rename_i x hz
      cases h
      rw [r.str]
      exact ⟨hz, by cases x.length <;> rfl⟩
    · cases h
  · rename_i xs
    cases h
    obtain ⟨a, vs, rfl, e, rs⟩ := r.tup
    refine .inr (.inl ⟨vs, SqT.of e, ?_⟩)
    cases rs <;> rfl
  · rename_i xs
    cases h
    obtain ⟨a, vs, rfl, e, rs⟩ := r.lst
    refine .inl ⟨vs, SqL.of e, ?_⟩
    cases rs <;> rfl
  · cases h
end
end Ev

/-! sorted of tuples, empty ones among them. -/
namespace Ev
open PySem PySem.Spec PyProof.Rows PySem.Calls PySem.W
section
variable {P : Program} {W : World} {A : Around} {E : Value → Shared → Prop} {s : Shared}
theorem tup_lt_call {Q : Value → Shared → Prop} {l b : Addr} {us ws : Array Value} {e r : Nat → Bool} (hl : s.heap.IsTuple l us) (hb : s.heap.IsTuple b ws)
    (he : ∀ j (i1 : j < us.size) (i2 : j < ws.size), SeqAt.EqAt A.in1 s us[j] ws[j] (e j)) (hr : ∀ j (i1 : j < us.size) (i2 : j < ws.size), e j = false → SeqAt.RcLt A.in1 s us[j] ws[j] (r j))
    (q : Q (.bool (SeqAt.firstLt e r (decide (us.size < ws.size)) (List.range (min us.size ws.size)))) s) : wpAny (model P W) A (call (.builtin "tuple.__lt__") [.ref l, .ref b]) Q E s := by
  obtain ⟨⟨c1, d1, t1, s1⟩, o1, k1, n1, e1⟩ := id hl
  obtain ⟨⟨c2, d2, t2, s2⟩, o2, k2, n2, e2⟩ := id hb
  simp only at k1 e1 k2 e2
  subst k1
  subst e1
  subst k2
  subst e2
  exact call_meets F.slot_tuple_lt ⟨_, o1, rfl⟩ F.entry_tuple_lt (F.args_tuple_lt_2 _ _) (SeqAt.tuple_ltAt l b us ws n1 n2 d1 d2 s1 s2 e r) ⟨o1, o2, he, hr, q⟩
theorem tup_oneLt {xs ys : List PyData} {a b : Value} {as bs : List Addr} {Q : Bool → Shared → Prop} (ra : Reads s.heap a (.tuple xs) as) (rb : Reads s.heap b (.tuple ys) bs) (al : PySem.W.alike (.tuple xs) (.tuple ys) = true)
    (hu : A.units + min (PyData.tuple xs).depth (PyData.tuple ys).depth < cLine) (q : Q (PySem.W.dataLt (.tuple xs) (.tuple ys)) s) : wpAny (model P W) A (oneLt' true a b) Q E s := by
  have al2 : PySem.W.alikeAll xs ys = true := by simpa [PySem.W.alike] using al
  cases ra with
  | @tuple l o vs n _ _ a1 a2 a3 a4 =>
    cases rb with
    | @tuple l2 o2 ws m _ _ b1 b2 b3 b4 =>
      have z1 : vs.size = xs.length := by simpa using SeqAt.ReadsAll.length _ _ _ a4
      have z2 : ws.size = ys.length := by simpa using SeqAt.ReadsAll.length _ _ _ b4
      rw [PySem.W.dataLt_tuple, ← PySem.W.firstLt_toks xs ys al2, ← z1, ← z2] at q
      rw [oneLt'_eq]
      simp only [if_true]
      refine wpAny_bind (wpAny_cRoomFor (SeqAt.room_here hu) ?_)
      refine wpAny_bind (wpAny_callSpecialIfBound?_slot (T := "tuple") ⟨_, a1, a2⟩ F.slot_tuple_lt (tup_lt_call (e := SeqAt.pairEq xs ys) (r := fun j => PySem.W.dataLt (xs.getD j .none) (ys.getD j .none)) ⟨_, a1, a2, _, a3⟩ ⟨_, b1, b2, _, b3⟩ (fun j i1 i2 => ?_) (fun j i1 i2 hj => ?_) ?_))
      · have w := PySem.W.eqAt_alikeAll xs ys A.in1 s vs.toList ws.toList _ _ a4 b4 al2 (SeqAt.room_in hu) j (by simpa using i1) (by simpa using i2)
        simpa using w
      · have w := PySem.W.rcLt_alikeAll xs ys A.in1 s vs.toList ws.toList _ _ a4 b4 al2 (SeqAt.room_in hu) j (by simpa using i1) (by simpa using i2) hj
        simpa using w
      · exact wpAny_truthy_bool q
end
section
variable {M : Model} {A : Around} {E : Value → Shared → Prop} {s : Shared}
/-- the first items of tuples -/
inductive Frs (h : Heap) : List Value → List (Option Value) → Prop where
  | nil : Frs h [] []
  | cons {a : Addr} {o : Obj} {xs : Array Value} {n : Nat} {vs : List Value} {fs : List (Option Value)} : h.get? a = some o → o.cls = .type "tuple" → o.data = .seq xs n → Frs h vs fs → Frs h (.ref a :: vs) (xs[0]? :: fs)
theorem Frs.len {h : Heap} {vs : List Value} {fs : List (Option Value)} (f : Frs h vs fs) : vs.length = fs.length := by
  induction f with
  | nil => rfl
  | cons _ _ _ _ ih => simp [ih]
theorem Frs.go : ∀ {vs : List Value} {fs : List (Option Value)} {Q : List (Option Value) → Shared → Prop}, Frs s.heap vs fs → Q fs s → wpAny M A (vs.mapM firstOfTuple') Q E s
  | _, _, _, .nil, q => by rw [List.mapM_nil]; exact wpAny_pure q
  | _, _, Q, .cons (xs := xs) (vs := vs) (fs := fs) h1 h2 h3 t, q => by
    rw [List.mapM_cons]
    refine wpAny_bind ?_
    rw [kas_first_eq]
    refine wpAny_bind (Looks.here (show Looks M s.heap (typeOf (.ref _)) _ from (Looks.ld h1).andThen .now) ?_)
    rw [h2, if_neg (by first | decide | simp)]
    refine wpAny_bind (listItems_at h1 h3 (wpAny_pure ?_))
    exact wpAny_bind (Frs.go (Q := fun bs s' => wpAny M A (pure (xs[0]? :: bs)) Q E s') t (wpAny_pure q))
theorem Frs.ty {vs : List Value} {fs : List (Option Value)} (f : Frs s.heap vs fs) : ∀ v ∈ vs, Looks M s.heap (typeOf v) (.type "tuple") := by
  induction f with
  | nil => exact fun v hv => absurd hv (by simp)
  | cons h1 h2 _ _ ih =>
    intro v hv
    rcases List.mem_cons.mp hv with e | hv
    · subst e
      exact h2 ▸ (Looks.ld h1).andThen .now
    · exact ih v hv
theorem Frs.kind {v : Value} {vs : List Value} {f : Option Value} {fs : List (Option Value)} {Q : SortKind → Shared → Prop} (t : Frs s.heap (v :: vs) (f :: fs)) (ne : (f :: fs).all (·.isSome) = false) (q : Q (if f.isSome = true then general' else oneType') s) :
    wpAny M A (keyKind' (v :: vs).toArray) Q E s := by
  rw [keyKind'_eq, List.mapM_toArray, map_eq_pure_bind]
  refine wpAny_bind (wpAny_bind (Frs.go t (wpAny_pure ?_)))
  rw [if_neg (by rw [List.all_toArray, ne]; simp)]
  have e0 : ((f :: fs).toArray[0]?.bind id) = f := by simp
  rw [e0]
  cases f with
  | some f =>
    simp only [Option.isSome_some, if_true] at q ⊢
    exact wpAny_pure q
  | none =>
    rw [if_neg (by simp)]
    rw [oneTypeOnly'_eq, List.mapM_toArray, map_eq_pure_bind]
    refine wpAny_bind (wpAny_bind (wpAny_bind (kas_mapM (r := Value.type "tuple") _ (fun v hv Q' hq => (t.ty v hv).here hq) (wpAny_pure ?_))))
    have e1 : (List.map (fun _ => Value.type "tuple") (v :: vs)).toArray[0]? = some (Value.type "tuple") := by simp
    have e2 : ((List.map (fun _ => Value.type "tuple") (v :: vs)).toArray.all fun x => x == Value.type "tuple") = true := by
      simp only [List.all_toArray, List.all_map, List.all_eq_true]
      intro _ _
      exact beq_self_eq_true _
    rw [e1]
    simp only [e2, if_true]
    exact wpAny_pure (wpAny_pure q)
end

section
variable {P : Program} {W : World} {A : Around} {E : Value → Shared → Prop} {s : Shared}
theorem frs_of {h : Heap} : ∀ {vs : List Value} {ds : List PyData}, EachIs (fun v d => ∃ as, Reads h v d as) vs ds → (∀ d ∈ ds, ∃ xs, d = .tuple xs) → ∃ fs, Frs h vs fs ∧ (fs.all (·.isSome) = true → ∀ d ∈ ds, ∃ x r, d = .tuple (x :: r))
  | _, _, .nil, _ => ⟨[], .nil, fun _ d hd => absurd hd (by simp)⟩
  | _, _, .cons (b := d) ⟨as, r⟩ t, ht => by
    obtain ⟨fs, f1, f2⟩ := frs_of t fun d hd => ht d (List.mem_cons_of_mem _ hd)
    obtain ⟨xs, rfl⟩ := ht d List.mem_cons_self
    cases r with
    | @tuple a o us n _ _ h1 h2 h3 h4 =>
      refine ⟨us[0]? :: fs, .cons h1 h2 h3 f1, fun hs d hd => ?_⟩
      simp only [List.all_cons, Bool.and_eq_true] at hs
      rcases List.mem_cons.mp hd with e | hd
      · subst e
        cases xs with
        | cons x r => exact ⟨x, r, rfl⟩
        | nil =>
          have z : us.size = 0 := by simpa using SeqAt.ReadsAll.length _ _ _ h4
          rw [Array.getElem?_eq_none (by omega)] at hs
          exact absurd hs.1 (by simp)
      · exact f2 hs.2 d hd
theorem sorts_tup {vs : List Value} {ds : List PyData} (e : EachIs (fun v d => ∃ as, Reads s.heap v d as) vs ds) (al : AllAlike ds) (ht : ∀ d ∈ ds, ∃ xs, d = .tuple xs) (hu : ∀ d ∈ ds, A.units + d.depth < cLine) : SortsAt P W A s (dataKind s.heap ds) vs := by
  obtain ⟨fs, f1, f2⟩ := frs_of e ht
  cases hfs : fs.all (·.isSome) with
  | true => exact SortsAt.data e al (.inl fun d hd => f2 hfs d hd) hu
  | false =>
    refine ⟨fun v hv => ?_, ?_⟩
    · obtain ⟨d, hd, as, r⟩ := e.left v hv
      exact ⟨_, dataKind_some al hd r⟩
    · cases f1 with
      | nil => simp at hfs
      | @cons a o us n vs fs h1 h2 h3 t =>
        refine ⟨if us[0]?.isSome = true then general' else oneType', fun E x y p q Q hp hq k => ?_, fun _ E Q q => Frs.kind (.cons h1 h2 h3 t) hfs q⟩
        obtain ⟨d, as, hd, ra, rfl⟩ := dataKind_inv hp
        obtain ⟨d', as', hd', rb, rfl⟩ := dataKind_inv hq
        have ad := al d hd d' hd'
        have room : A.units + min d.depth d'.depth < cLine := Nat.lt_of_le_of_lt (Nat.add_le_add_left (Nat.min_le_left _ _) _) (hu d hd)
        have k' : Q (dataLt d d') s := k
        obtain ⟨xs, rfl⟩ := ht d hd
        obtain ⟨ys, rfl⟩ := ht d' hd'
        split
        · exact oneLt_alike (f := false) (fun z => by cases z) ra rb ad (fun z => by cases z) room k'
        · rw [keyLt'_oneType]
          exact tup_oneLt ra rb ad room k'
/-- data of one kind that can be sorted -/
def Sortb (ds : List PyData) : Prop := (∀ d ∈ ds, ∃ xs, d = .tuple xs) ∨ ∀ d ∈ ds, d ≠ .none ∧ ∀ xs, d ≠ .tuple xs
theorem sorts_at {vs : List Value} {ds : List PyData} (e : EachIs (fun v d => ∃ as, Reads s.heap v d as) vs ds) (al : AllAlike ds) (ht : Sortb ds) (hu : ∀ d ∈ ds, A.units + d.depth < cLine) : SortsAt P W A s (dataKind s.heap ds) vs := by
  rcases ht with ht | ht
  · exact sorts_tup e al ht hu
  · exact SortsAt.data e al (.inr ht) hu
/-! from a list or a tuple -/
def SqH (h : Heap) (l : Addr) (vs : List Value) : Prop := ∃ (o : Obj) (n : Nat), h.get? l = some o ∧ (o.cls = .type "list" ∨ o.cls = .type "tuple") ∧ o.data = .seq vs.toArray n
theorem collect_sq {l : Addr} {vs : List Value} {Q : List Value → Shared → Prop} (hl : SqH s.heap l vs) (z : vs.length ≤ sizeLine) (q : Q vs { s with heap := (s.heap.push (seqObj "list" #[] 0)).update s.heap.objs.size (Obj.mapSeq (· ++ vs.toArray)) }) :
    wpAny (model P W) A (collect (.ref l)) Q E s := by
  obtain ⟨o, n, e1, e2, e3⟩ := hl
  rcases e2 with e2 | e2
  · exact collect_list ⟨o, e1, e2, n, e3⟩ q z
  · have e4 := Heap.get?_push_of_some (seqObj "list" #[] 0) e1
    have e5 : (s.heap.push (seqObj "list" #[] 0)).get? s.heap.objs.size = some (seqObj "list" #[] 0) := Heap.get?_push_size _ rfl
    unfold collect
    refine wpAny_bind (wpAny_runValue (codeAny_builtin entry_proto_collect' ?_))
    refine wpAny_bind (wpAny_newList (wpAny_pure (And.intro (Code.quiet_builtin _ (by decide +kernel)) (codeAny_builtin entry_list_iadd' ?_))))
    show wpAny (model P W) _ (Builtin.List.listExtendWith (.ref s.heap.objs.size) (.ref l) (.ref s.heap.objs.size)) _ _ { s with heap := s.heap.push (seqObj "list" #[] 0) }
    unfold Builtin.List.listExtendWith
    refine wpAny_bind (wpAny_typeOf (T := "tuple") (Exists.intro o (And.intro e4 e2)) ?_)
    rw [if_pos (by rw [show (Value.type "tuple" == Value.type "tuple") = true from rfl]; simp)]
    refine wpAny_bind (listItems_at e4 e3 (wpAny_bind (listItems_at (xs := #[]) (n := 0) e5 rfl ?_)))
    rw [if_neg (by simp)]
    refine wpAny_bind (listUpdate_at (xs := #[]) (n := 0) e5 rfl (wpAny_pure ?_) (Nat.zero_le _) (by show (#[] ++ vs.toArray).size ≤ sizeLine + 1; rw [Array.size_append, List.size_toArray]; simp; omega))
    refine wpAny_bind (wpAny_load (get?_update_seq e5 _) ?_)
    show wpAny (model P W) A (pure ((#[] : Array Value) ++ vs.toArray).toList) Q E _
    have e6 : ((#[] : Array Value) ++ vs.toArray).toList = vs := by simp
    rw [e6]
    exact wpAny_pure q
theorem sorted_sq {κ : PyProof.Rows.KeyKind} {l : Addr} {vs : List Value} {Q : Value → Shared → Prop} (hl : SqH s.heap l vs) (S : SortsAt P W A.in1.in1 { s with heap := sortingHeap (copyHeap s.heap vs) (s.heap.objs.size + 1) vs } κ vs) (z : vs.length ≤ sizeLine)
    (q : Q (.ref (s.heap.objs.size + 1)) { s with heap := sortedAll s.heap vs (sortVals κ false vs vs).toArray }) : wpAny (model P W) A (call (.builtin "sorted") [.ref l]) Q E s := by
  refine call_function_entry_kw kind_sorted plain_sorted entry_sorted (args_sorted1 _) ?_
  unfold Builtin.«sorted»
  refine wpAny_bind (m := checkCount "sorted" 1 1 _) (wpAny_pure (wpAny_bind (collect_sq hl z (wpAny_bind (wpAny_newList ?_ z)))))
  show wpAny (model P W) _ _ _ _ { s with heap := copyHeap s.heap vs }
  rw [show ((s.heap.push (seqObj "list" #[] 0)).update s.heap.objs.size (Obj.mapSeq (· ++ vs.toArray))).objs.size = s.heap.objs.size + 1 by rw [Heap.size_update, size_push']]
  refine wpAny_bind (wpAny_holding (wpAny_call_entry_kw slot_list_sort (Exists.intro _ (And.intro (copyHeap_at s.heap vs) rfl)) entry_list_sort ?_ (args_list_sort _)))
  show wpAny (model P W) A.in1.in1 (Builtin.«list.sort» ⟨[.ref (s.heap.objs.size + 1)], []⟩) _ _ { s with heap := copyHeap s.heap vs }
  exact list_sort_vals (s := { s with heap := copyHeap s.heap vs }) (copyHeap_at s.heap vs) S z ⟨_, rfl, wpAny_pure ⟨_, rfl, q⟩⟩
theorem sorted_b {β : Type} {R : Value → β → Prop} {enc : β → PyData} {l : Addr} {vs : List Value} {bs : List β} {Q : Value → Shared → Prop} (hl : SqH s.heap l vs) (e : EachIs R vs bs) (er : EachIs (fun v b => ∃ as, Reads s.heap v (enc b) as) vs bs)
    (al : AllAlike (bs.map enc)) (hk : Sortb (bs.map enc)) (hz : bs.length ≤ sizeLine) (hu : ∀ b, b ∈ bs → A.units + 2 + (enc b).depth < cLine)
    (q : ∀ out, out.length = bs.length → EachIs R out (bs.mergeSort (dataLe false enc)) → Q (.ref (s.heap.objs.size + 1)) { s with heap := sortedAll s.heap vs (List.toArray out) }) :
    wpAny (model P W) A (call (.builtin "sorted") [.ref l]) Q E s := by
  have er2 : EachIs (fun v b => ∃ as, Reads (sortingHeap (copyHeap s.heap vs) (s.heap.objs.size + 1) vs) v (enc b) as) vs bs := er.mono fun _ _ ⟨as, r⟩ => ⟨as, PyProof.Rows.Reads.keeps (fun _ _ => sorting_copy_old) r⟩
  refine sorted_sq hl (sorts_at (s := { s with heap := sortingHeap (copyHeap s.heap vs) (s.heap.objs.size + 1) vs }) (each_map (R := fun v d => ∃ as, Reads (sortingHeap (copyHeap s.heap vs) (s.heap.objs.size + 1) vs) v d as) enc er2) al hk fun d hd => ?_) (by rw [e.length]; exact hz)
    (q _ (by rw [sortVals_length false rfl]; exact e.length) (sortVals_data false e er2 al))
  obtain ⟨b, hb, rfl⟩ := List.mem_map.mp hd
  exact hu b hb
end
end Ev

/-! Built-in functions. -/
namespace Ev
open L2 PyProof.Rows PySem PySem.Spec

/-- a built-in function keeps its word -/
def BiS (Z : Zt) (r : List V → Hp → VK → Prop) (g : List D → Option (D × Bool)) : Prop := ∀ (F : Addr → Prop) (φ : List Addr) (H : Hp) (vs : List V) (xs : List D) (z : D × Bool) (Q : VK),
  Paired (RepR Z F φ H) vs xs → g xs = some z → (∀ u H', New Z F φ H z.1 z.2 u H' → Q u H') → r vs H Q
section
variable {X : Cx} {Z : Zt}
theorem pr1 {R : V → D → Prop} {vs : List V} {x : D} (h : Paired R vs [x]) : ∃ v, vs = [v] ∧ R v x := by
  cases h with | cons a b => cases b; exact ⟨_, rfl, a⟩
theorem pr2 {R : V → D → Prop} {vs : List V} {x y : D} (h : Paired R vs [x, y]) : ∃ v w, vs = [v, w] ∧ R v x ∧ R w y := by
  cases h with | cons a b => cases b with | cons c d => cases d; exact ⟨_, _, rfl, a, c⟩
theorem RepPs.none_of {F : Addr → Prop} {H : Hp} {vs : List V} {ps : List PyData} (h : RepPs F H vs ps) {i : Nat} (e : ps[i]? = none) : vs[i]? = none := by
  rw [List.getElem?_eq_none_iff] at e ⊢
  rw [h.len]
  exact e
/-! least and greatest of data -/
def AlkL (xs : List PyData) : Prop := PySem.W.AlikeAll xs ∧ PyData.depthAll xs ≤ 60
def rMM (K : PySem.W.Frag) (best : PyData → List PyData → PyData) : List V → Hp → VK → Prop := fun vs H Q => ∃ (a : Addr) (ws : List V) (x : PyData) (xs : List PyData), vs = [.ref a] ∧ (SqL K H a ws ∨ SqT K H a ws) ∧ DpAll K H ws (x :: xs) ∧ AlkL (x :: xs) ∧
  ∀ (i : Nat) (w : V), ws[i]? = some w → (x :: xs)[i]? = some (best x xs) → Q w H
theorem mm_of {name : String} {best : PyData → List PyData → PyData} (hc : X.calm = true) (hu : X.A.units + 70 < cLine)
    (hl : ∀ (s : Shared) (l : Addr) (vs : Array Value) (x : PyData) (xs : List PyData) (as : List Addr) (Q : Value → Shared → Prop), s.heap.IsList l vs → ReadsAll s.heap vs.toList (x :: xs) as → AlkL (x :: xs) →
      (∀ (i : Nat) v h' tk bs, vs[i]? = some v → Reads h' v (best x xs) bs → (∀ b o, s.heap.get? b = some o → h'.get? b = some o) → Q v { s with heap := h', toks := tk }) → wpAny (model X.prog X.w) X.A (call (.builtin name) [.ref l]) Q X.xe s)
    (ht : ∀ (s : Shared) (l : Addr) (vs : Array Value) (x : PyData) (xs : List PyData) (as : List Addr) (Q : Value → Shared → Prop), s.heap.IsTuple l vs → ReadsAll s.heap vs.toList (x :: xs) as → AlkL (x :: xs) →
      (∀ (i : Nat) v h' tk bs, vs[i]? = some v → Reads h' v (best x xs) bs → (∀ b o, s.heap.get? b = some o → h'.get? b = some o) → Q v { s with heap := h', toks := tk }) → wpAny (model X.prog X.w) X.A (call (.builtin name) [.ref l]) Q X.xe s) :
    CallR X (.builtin name) (rMM X.K best) := by
  intro pins s σ H vs us Q I r h
  obtain ⟨a, ws, x, xs, rfl, hs, dp, ak, q⟩ := h
  rw [Vals.ref1 r]
  have fin : ∀ {its : List Value} {as : List Addr}, Vals ws its → ReadsAll s.heap its.toArray.toList (x :: xs) as → ∀ (i : Nat) (v : Value) (h' : Heap) (tk : Nat) (bs : List Addr), its.toArray[i]? = some v → Reads h' v (best x xs) bs → (∀ b o, s.heap.get? b = some o → h'.get? b = some o) →
      EP X pins σ Q v { s with heap := h', toks := tk } := by
    intro its as rv ra i v h' tk bs hv rd kp
    have hi : its[i]? = some v := by simpa using hv
    cases hw : ws[i]? with
    | none => rw [rv.none_of hw] at hi; cases hi
    | some w =>
      obtain ⟨u, hu', ru⟩ := rv.get hw
      rw [hi] at hu'
      cases hu'
      refine ⟨w, H, I.kept (t' := tk) kp, ru, q i w hw ?_⟩
      obtain ⟨cs, r1, hlt, _, _⟩ := PySem.W.readsAll_at (vs := its) (by simpa using ra) i v hi
      have e := (PySem.Reads.unique rd _ _ (Reads.keeps kp r1)).1
      rw [e, List.getD_eq_getElem?_getD, List.getElem?_eq_getElem hlt]
      rfl
  rcases hs with hs | hs
  · obtain ⟨its, rv, hl', hz⟩ := I.list hs
    obtain ⟨as, ra⟩ := Dp.readsAll I _ _ its dp rv
    have ra' : ReadsAll s.heap its.toArray.toList (x :: xs) as := by simpa using ra
    exact hl s a its.toArray x xs as _ hl'.isList ra' ak fun i v h' tk bs => fin rv ra' i v h' tk bs
  · obtain ⟨its, rv, ht', hz⟩ := I.tuple hs
    obtain ⟨as, ra⟩ := Dp.readsAll I _ _ its dp rv
    have ra' : ReadsAll s.heap its.toArray.toList (x :: xs) as := by simpa using ra
    exact ht s a its.toArray x xs as _ ht' ra' ak fun i v h' tk bs => fin rv ra' i v h' tk bs
theorem call_minD (hc : X.calm = true) (hh : X.A.handled = none) (hu : X.A.units + 70 < cLine) : CallR X (.builtin "min") (rMM X.K PySem.W.minD) :=
  mm_of hc hu (fun s l vs x xs as Q hl ra ak q => PySem.W.min_list_data hh hl ra ak.1 (by have := ak.2; omega) q)
    fun s l vs x xs as Q hl ra ak q => PySem.W.min_tuple_data hh hl ra ak.1 (by have := ak.2; omega) q
theorem call_maxD (hc : X.calm = true) (hh : X.A.handled = none) (hu : X.A.units + 70 < cLine) : CallR X (.builtin "max") (rMM X.K PySem.W.maxD) :=
  mm_of hc hu (fun s l vs x xs as Q hl ra ak q => PySem.W.max_list_data hh hl ra ak.1 (by have := ak.2; omega) q)
    fun s l vs x xs as Q hl ra ak q => PySem.W.max_tuple_data hh hl ra ak.1 (by have := ak.2; omega) q
/-! sorted of data -/
theorem eachIs_of {α β γ : Type} {R : α → γ → Prop} {f : β → γ} : ∀ {as : List α} {bs : List β}, PySem.W.EachIs (fun a b => R a (f b)) as bs → Paired R as (bs.map f)
  | _, _, .nil => .nil
  | _, _, .cons h t => .cons h (eachIs_of t)
theorem eachIs_mk {F : Addr → Prop} {H : Hp} : ∀ {ws : List V} {ps : List PyData} {us : List Value}, RepPs F H ws ps → Vals ws us → PySem.W.EachIs (fun u (b : V × PyData) => RelV b.1 u ∧ RepP F H b.1 b.2) us (ws.zip ps)
  | _, _, _, .nil, .nil => .nil
  | _, _, _, .cons h t, .cons r s => .cons ⟨r, h⟩ (eachIs_mk t s)
def rSortD (K : PySem.W.Frag) (F : Addr → Prop) : List V → Hp → VK → Prop := fun vs H Q => ∃ (a : Addr) (ws : List V) (ps : List PyData), vs = [.ref a] ∧ (H a = some (.lst ws) ∨ H a = some (.tup ws)) ∧ RepPs F H ws ps ∧ (∀ x ∈ ps, ∀ y ∈ ps, PySem.W.alike x y = true) ∧ Sortb ps ∧ PyData.depthAll ps ≤ 60 ∧
  ∀ ws' p, H p = none → RepPs F H ws' (sortD ps) → ws'.length = ws.length → Q (.ref p) (upd H p (.lst ws'))
theorem zip_snd : ∀ {ws : List V} {ps : List PyData}, ws.length = ps.length → (ws.zip ps).map (·.2) = ps
  | [], [], _ => rfl
  | _ :: ws, _ :: ps, h => by
    simp only [List.zip_cons_cons, List.map_cons]
    rw [zip_snd (by simpa using h)]
  | [], _ :: _, h => by simp at h
  | _ :: _, [], h => by simp at h
theorem repPs_zip {F : Addr → Prop} {H : Hp} : ∀ {bs : List (V × PyData)}, (∀ b ∈ bs, RepP F H b.1 b.2) → RepPs F H (bs.map (·.1)) (bs.map (·.2))
  | [], _ => .nil
  | b :: bs, h => .cons (h b List.mem_cons_self) (repPs_zip fun c hc => h c (List.mem_cons_of_mem _ hc))
theorem insD_app (a : PyData) : ∀ (l₁ l₂ : List PyData), (∀ b ∈ l₁, PySem.W.dataLe false id a b = false) → (∀ b ∈ l₂, PySem.W.dataLe false id a b = true) → insD a (l₁ ++ l₂) = l₁ ++ a :: l₂
  | [], [], _, _ => rfl
  | [], b :: l₂, _, h => by
    show (if PySem.W.dataLe false id a b = true then a :: b :: l₂ else _) = _
    rw [if_pos (h b List.mem_cons_self)]
    rfl
  | b :: l₁, l₂, h, h2 => by
    show (if PySem.W.dataLe false id a b = true then _ else b :: insD a (l₁ ++ l₂)) = _
    rw [if_neg (by rw [h b List.mem_cons_self]; simp), insD_app a l₁ l₂ (fun c hc => h c (List.mem_cons_of_mem _ hc)) h2]
    rfl
theorem sortD_eq : ∀ xs : List PyData, sortD xs = xs.mergeSort (PySem.W.dataLe false id)
  | [] => by simp [sortD]
  | x :: xs => by
    have T := PySem.W.sortLe_total (PyProof.Rows.listOrd PyProof.Rows.itemOrd) false fun b : PyData => PySem.W.keyToks (id b)
    have tot : ∀ a b : PyData, (PySem.W.dataLe false id a b || PySem.W.dataLe false id b a) = true := fun a b => by rw [Bool.or_eq_true]; exact T.total a b
    obtain ⟨l₁, l₂, h1, h2, h3⟩ := List.mergeSort_cons (le := PySem.W.dataLe false id) T.trans tot x xs
    have hs := List.pairwise_mergeSort (le := PySem.W.dataLe false id) T.trans tot (x :: xs)
    rw [h1, List.pairwise_append, List.pairwise_cons] at hs
    show insD x (sortD xs) = _
    rw [sortD_eq xs, h1, h2]
    exact insD_app x l₁ l₂ (fun b hb => by have := h3 b hb; simpa using this) hs.2.1.1
theorem merge_map {ws : List (V × PyData)} : (ws.mergeSort (PySem.W.dataLe false (·.2))).map (·.2) = sortD (ws.map (·.2)) := by
  rw [sortD_eq]
  exact List.map_mergeSort (s := PySem.W.dataLe false id) fun a _ b _ => rfl
theorem depth_mem : ∀ {ps : List PyData} {p : PyData}, p ∈ ps → p.depth ≤ PyData.depthAll ps
  | q :: ps, p, h => by
    rw [PyData.depthAll]
    rcases List.mem_cons.mp h with e | h
    · subst e
      exact Nat.le_max_left _ _
    · exact Nat.le_trans (depth_mem h) (Nat.le_max_right _ _)
theorem cr_sortD {F : Addr → Prop} (hu : X.A.units + 70 < cLine) : CallR X (.builtin "sorted") (rSortD X.K F) := by
  intro pins s σ H vs us Q I r h
  obtain ⟨a, ws, ps, rfl, ha, rp, al, so, dp, q⟩ := h
  have hq : ∃ its : List Value, Vals ws its ∧ SqH s.heap a its ∧ ws.length ≤ sizeLine := by
    rcases ha with ha | ha
    · obtain ⟨its, rv, ⟨o, n, e1, e2, _, e3⟩, hz⟩ := I.list (SqL.of (K := X.K) ha)
      exact ⟨its, rv, ⟨o, n, e1, .inl e2, e3⟩, hz⟩
    · obtain ⟨its, rv, ⟨o, e1, e2, n, e3⟩, hz⟩ := I.tuple (X := X) (.inl (.inl ha))
      exact ⟨its, rv, ⟨o, n, e1, .inr e2, e3⟩, hz⟩
  obtain ⟨its, rv, hl, hz⟩ := hq
  rw [Vals.ref1 r]
  have hlen := rp.len
  have hm := zip_snd hlen
  obtain ⟨as, ra⟩ := Dp.readsAll I _ _ its (rp.dp (Z := { K := X.K, fa := fun _ => 0, ca := fun _ => 0 })) rv
  have er : PySem.W.EachIs (fun v (b : V × PyData) => ∃ as, Reads s.heap v b.2 as) its (ws.zip ps) := by
    have go : ∀ {ws : List V} {ps : List PyData} {us : List Value} {as : List Addr}, ws.length = ps.length → ReadsAll s.heap us ps as → PySem.W.EachIs (fun v (b : V × PyData) => ∃ as, Reads s.heap v b.2 as) us (ws.zip ps) := by
      intro ws
      induction ws with
      | nil =>
        intro ps us as hl ra
        cases ps with
        | nil => cases ra; exact .nil
        | cons _ _ => simp at hl
      | cons w ws ih =>
        intro ps us as hl ra
        cases ps with
        | nil => simp at hl
        | cons p ps =>
          cases ra with
          | cons r1 r2 => exact .cons ⟨_, r1⟩ (ih (by simpa using hl) r2)
    exact go hlen ra
  have hL : (ws.zip ps).length = ws.length := by rw [List.length_zip, hlen, Nat.min_self]
  refine sorted_b (enc := fun b : V × PyData => b.2) hl (eachIs_mk rp rv) er ?_ ?_ (by rw [hL]; exact hz) (fun b hb => ?_) fun out ho eo => ?_
  · show PySem.W.AllAlike ((ws.zip ps).map (·.2))
    rw [hm]
    exact fun d hd d' hd' => al d hd d' hd'
  · rw [hm]
    exact so
  · have : b.2 ∈ ps := by rw [← hm]; exact List.mem_map.mpr ⟨b, hb, rfl⟩
    have := depth_mem this
    omega
  · obtain ⟨ep, he'⟩ := PyProof.Rows.sortedAll_at s.heap its out.toArray
    have hv : Vals (((ws.zip ps).mergeSort (PySem.W.dataLe false (·.2))).map (·.1)) out := by
      have go : ∀ {bs : List (V × PyData)} {us : List Value}, PySem.W.EachIs (fun u (b : V × PyData) => RelV b.1 u ∧ RepP F H b.1 b.2) us bs → Vals (bs.map (·.1)) us := by
        intro bs us h
        induction h with
        | nil => exact .nil
        | cons h _ ih => exact .cons h.1 ih
      exact go eo
    have hl2 : (((ws.zip ps).mergeSort (PySem.W.dataLe false (·.2))).map (·.1)).length = ws.length := by
      rw [List.length_map, List.length_mergeSort, hL]
    refine ⟨.ref _, upd H (s.heap.objs.size + 1) (.lst (((ws.zip ps).mergeSort (PySem.W.dataLe false (·.2))).map (·.1))), I.laid (t' := s.toks) (fun _ _ => PyProof.Rows.sortedAll_old) (Nat.le_succ _) ⟨by rw [hl2]; exact hz, out, ep, hv, he'⟩, rfl, q _ _ (I.hok.fresh (Nat.le_succ _)) ?_ hl2⟩
    have em : sortD ps = ((ws.zip ps).mergeSort (PySem.W.dataLe false (·.2))).map (·.2) := by rw [merge_map, hm]
    rw [em]
    refine repPs_zip fun b hb => ?_
    have hb' : b ∈ ws.zip ps := (List.mergeSort_perm _ _).mem_iff.mp hb
    have go : ∀ {ws : List V} {ps : List PyData}, RepPs F H ws ps → ∀ b ∈ ws.zip ps, RepP F H b.1 b.2 := by
      intro ws
      induction ws with
      | nil => intro ps _ b hb; simp at hb
      | cons w ws ih =>
        intro ps rp b hb
        cases rp with
        | cons r t =>
          simp only [List.zip_cons_cons, List.mem_cons] at hb
          rcases hb with e | hb
          · subst e
            exact r
          · exact ih t b hb
    exact go rp b hb'
end
end Ev

/-! Built-in functions: the table. -/
namespace Ev
open L2 PyProof.Rows PySem PySem.Spec
section
variable {X : Cx} {Z : Zt}
theorem biS_or {r r' : List V → Hp → VK → Prop} {g g' : Bo} (a : BiS Z r g) (b : BiS Z r' g') : BiS Z (fun xs H Q => r xs H Q ∨ r' xs H Q) (orB g g') := by
  intro F φ H vs xs z Q rx e k
  unfold orB at e
  split at e
  · rename_i z' e'
    cases e
    exact .inl (a F φ H vs xs z Q rx e' k)
  · exact .inr (b F φ H vs xs z Q rx e k)
def rReprD (K : PySem.W.Frag) : List V → Hp → VK → Prop := fun xs H Q => ∃ v p, xs = [v] ∧ Dp K H v p ∧ p.showable = true ∧ p.hasDict = false ∧ p.depth ≤ 60 ∧ p.shown.length ≤ sizeLine ∧ Q (.str p.shown) H
theorem cr_repr (hu : X.A.units + 70 < cLine) (hg : X.A.guards = some []) : CallR X (.builtin "repr") (rReprD X.K) := by
  intro pins s σ H xs us Q I r h
  obtain ⟨v, p, rfl, d, h1, h2, h3, h4, q⟩ := h
  obtain ⟨u, rfl, rx⟩ := vals1 r
  obtain ⟨as, rd⟩ := Dp.reads I p v u d rx
  cases rd with
  | none =>
    exact PySem.P.repr_of_none ⟨.str _, H, I.tok _, ⟨_, rfl⟩, q⟩
  | bool b =>
    exact PySem.P.repr_of_bool ⟨.str _, H, I.tok _, ⟨_, rfl⟩, q⟩
  | int i t =>
    exact PySem.P.repr_of_int (by simpa [PyData.showable] using h1) ⟨.str _, H, I.tok _, ⟨_, rfl⟩, q⟩
  | str x t =>
    exact PySem.P.repr_of_str ⟨.str _, H, I.tok _, ⟨_, rfl⟩, q⟩ h4
  | list a1 a2 a3 a4 =>
    exact PySem.repr_of_reads' (.list a1 a2 a3 a4) h1 (PyData.noDict_hsm h2) hg (by omega) (fun _ _ h => h) (fun h' u tk kp => ⟨.str _, H, I.kept (t' := tk) kp, ⟨u, rfl⟩, q⟩) h4
  | tuple a1 a2 a3 a4 =>
    exact PySem.repr_of_reads' (.tuple a1 a2 a3 a4) h1 (PyData.noDict_hsm h2) hg (by omega) (fun _ _ h => h) (fun h' u tk kp => ⟨.str _, H, I.kept (t' := tk) kp, ⟨u, rfl⟩, q⟩) h4
  | dict => simp [PyData.hasDict] at h2

theorem allI_eq : ∀ {ps : List PyData} {is : List Int}, allI ps = some is → ps = is.map .int
  | [], _, h => by cases h; rfl
  | p :: r, is, h => by
    unfold allI at h
    split at h
    · cases h; rename_i e; cases e
    · rename_i i r' e
      cases e
      split at h
      · rename_i js e
        cases h
        rw [allI_eq e]
        rfl
      · cases h
    · cases h
theorem allB_eq : ∀ {ps : List PyData} {is : List Bool}, allB ps = some is → ps = is.map .bool
  | [], _, h => by cases h; rfl
  | p :: r, is, h => by
    unfold allB at h
    split at h
    · cases h; rename_i e; cases e
    · rename_i i r' e
      cases e
      split at h
      · rename_i js e
        cases h
        rw [allB_eq e]
        rfl
      · cases h
    · cases h
theorem RepPs.ints {F : Addr → Prop} {H : Hp} : ∀ {vs : List V} {is : List Int}, RepPs F H vs (is.map .int) → vs = is.map V.int
  | _, [], h => by cases h; rfl
  | _, i :: is, h => by cases h with | cons a b => cases a; rw [RepPs.ints b]; rfl
theorem RepPs.bls {F : Addr → Prop} {H : Hp} : ∀ {vs : List V} {is : List Bool}, RepPs F H vs (is.map .bool) → vs = is.map V.bl
  | _, [], h => by cases h; rfl
  | _, i :: is, h => by cases h with | cons a b => cases a; rw [RepPs.bls b]; rfl
theorem pr0 {R : V → D → Prop} {vs : List V} (h : Paired R vs []) : vs = [] := by cases h; rfl
theorem alike_all {xs : List PyData} (h : alikeL xs = true) : (∀ x ∈ xs, ∀ y ∈ xs, PySem.W.alike x y = true) ∧ ∀ x ∈ xs, notNone x = true := by
  unfold alikeL at h
  simp only [List.all_eq_true, Bool.and_eq_true] at h
  exact ⟨fun x hx y hy => (h x hx).2 y hy, fun x hx => (h x hx).1⟩
theorem notNone_ne {p : PyData} (h : notNone p = true) : p ≠ .none := fun e => by
  rw [e] at h
  cases h
theorem s_len : BiS Z (fun xs H Q => (∃ x n, xs = [x] ∧ LenV Z.K x H n ∧ Q (.int n) H)) biLen := by
  intro F φ H vs xs z Q rx e k
  unfold biLen at e
  split at e
  · cases e
    obtain ⟨v, rfl, r⟩ := pr1 rx
    obtain ⟨a, ws, rfl, h, rs⟩ := r.tup
    exact ⟨_, ws.length, rfl, .inr ⟨ws, SqT.of h, rfl⟩, by rw [rs.len]; exact k _ _ (.same (rInt _))⟩
  · cases e
    obtain ⟨v, rfl, r⟩ := pr1 rx
    obtain ⟨a, ws, rfl, h, rs⟩ := r.lst
    exact ⟨_, ws.length, rfl, .inl ⟨ws, SqL.of h, rfl⟩, by rw [rs.len]; exact k _ _ (.same (rInt _))⟩
  · cases e
    obtain ⟨v, rfl, r⟩ := pr1 rx
    obtain ⟨a, ws, rfl, h, rs⟩ := r.mt
    exact ⟨_, ws.length, rfl, .inr ⟨ws, SqT.of h, rfl⟩, by rw [rs.len]; exact k _ _ (.same (rInt _))⟩
  · cases e
    obtain ⟨v, rfl, r⟩ := pr1 rx
    obtain ⟨a, ws, rfl, h, rs⟩ := r.ml
    exact ⟨_, ws.length, rfl, .inl ⟨ws, SqL.of h, rfl⟩, by rw [rs.len]; exact k _ _ (.same (rInt _))⟩
  · split at e
    · rename_i hz
      cases e
      obtain ⟨v, rfl, r⟩ := pr1 rx
      exact ⟨v, _, rfl, by rw [r.str]; exact ⟨hz, rfl⟩, k _ _ (.same (rInt _))⟩
    · cases e
  · rename_i ns
    cases e
    obtain ⟨v, rfl, r⟩ := pr1 rx
    obtain ⟨a, rfl, h⟩ := r.scr
    exact ⟨_, ns.length, rfl, .inl ⟨_, h, by simp⟩, k _ _ (.same (rInt _))⟩
  · cases e
theorem s_repr : BiS Z (rReprD Z.K) biRepr := by
  intro F φ H vs xs z Q rx e k
  unfold biRepr at e
  split at e
  · split at e
    · rename_i p hz
      cases e
      obtain ⟨v, rfl, r⟩ := pr1 rx
      simp only [Bool.and_eq_true, decide_eq_true_eq, Bool.not_eq_true'] at hz
      obtain ⟨⟨⟨h1, h2⟩, h3⟩, h4⟩ := hz
      exact ⟨v, p, rfl, r.dp, h1, h2, h3, h4, k _ _ (.same (rStr _))⟩
    · cases e
  · cases e
theorem s_strI : BiS Z (fun xs H Q => ∃ i, xs = [.int i] ∧ i.natAbs.log2 < 1920 ∧ Q (.str (toString i)) H) biStrI := by
  intro F φ H vs xs z Q rx e k
  unfold biStrI at e
  split at e
  · split at e
    · rename_i p hz
      cases e
      obtain ⟨v, rfl, r⟩ := pr1 rx
      exact ⟨_, by rw [r.int], hz, k _ _ (.same (rStr _))⟩
    · cases e
  · cases e
theorem s_strS : BiS Z (fun xs H Q => ∃ a, xs = [.str a] ∧ Q (.str a) H) biStrS := by
  intro F φ H vs xs z Q rx e k
  unfold biStrS at e
  split at e
  · cases e
    obtain ⟨v, rfl, r⟩ := pr1 rx
    exact ⟨_, by rw [r.str], k _ _ (.same (rStr _))⟩
  · cases e
theorem s_intB : BiS Z (fun xs H Q => (∃ i, xs = [.int i] ∧ Q (.int i) H) ∨ ∃ k, xs = [.bl k] ∧ Q (.int (if k then 1 else 0)) H) biInt := by
  intro F φ H vs xs z Q rx e k
  unfold biInt at e
  split at e
  · cases e
    obtain ⟨v, rfl, r⟩ := pr1 rx
    exact .inl ⟨_, by rw [r.int], k _ _ (.same (rInt _))⟩
  · cases e
    obtain ⟨v, rfl, r⟩ := pr1 rx
    exact .inr ⟨_, by rw [r.bl], k _ _ (.same (rInt _))⟩
  · cases e
theorem s_tuple : BiS Z (fun xs H Q => ∃ p ys, xs = [.ref p] ∧ ((SqL Z.K H p ys ∧ ∀ l, H l = none → Q (.ref l) (upd H l (.tup ys))) ∨ (SqT Z.K H p ys ∧ Q (.ref p) H))) biTuple := by
  intro F φ H vs xs z Q rx e k
  unfold biTuple at e
  split at e
  · cases e
    obtain ⟨v, rfl, r⟩ := pr1 rx
    obtain ⟨a, ws, rfl, h, rs⟩ := r.tup
    exact ⟨_, _, rfl, .inr ⟨SqT.of h, k _ _ (.same (.py (.tup h rs)))⟩⟩
  · cases e
    obtain ⟨v, rfl, r⟩ := pr1 rx
    obtain ⟨a, ws, rfl, h, rs⟩ := r.lst
    exact ⟨_, _, rfl, .inl ⟨SqL.of h, fun l hl => k _ _ (.tup hl (.py (.tup upd_same (rs.stay (stay_upd (φ := φ) hl)))))⟩⟩
  · cases e
    obtain ⟨v, rfl, r⟩ := pr1 rx
    obtain ⟨a, ws, rfl, h, rs⟩ := r.ml
    exact ⟨_, _, rfl, .inl ⟨SqL.of h, fun l hl => k _ _ (.tup hl (.mt upd_same (rs.stay (stay_upd hl))))⟩⟩
  · cases e
    obtain ⟨v, rfl, r⟩ := pr1 rx
    obtain ⟨a, ws, rfl, h, rs⟩ := r.mt
    exact ⟨_, _, rfl, .inr ⟨SqT.of h, k _ _ (.same (.mt h rs))⟩⟩
  · cases e
theorem s_list : BiS Z (fun xs H Q => ∃ p ys, xs = [.ref p] ∧ (SqL Z.K H p ys ∨ SqT Z.K H p ys) ∧ ∀ l, H l = none → Q (.ref l) (upd H l (.lst ys))) biList := by
  intro F φ H vs xs z Q rx e k
  unfold biList at e
  split at e
  · cases e
    obtain ⟨v, rfl, r⟩ := pr1 rx
    obtain ⟨a, ws, rfl, h, rs⟩ := r.tup
    exact ⟨_, _, rfl, .inr (SqT.of h), fun l hl => k _ _ (.lst hl ⟨_, upd_same, rs.stay (stay_upd (φ := φ) hl)⟩)⟩
  · cases e
    obtain ⟨v, rfl, r⟩ := pr1 rx
    obtain ⟨a, ws, rfl, h, rs⟩ := r.lst
    exact ⟨_, _, rfl, .inl (SqL.of h), fun l hl => k _ _ (.lst hl ⟨_, upd_same, rs.stay (stay_upd (φ := φ) hl)⟩)⟩
  · cases e
    obtain ⟨v, rfl, r⟩ := pr1 rx
    obtain ⟨a, ws, rfl, h, rs⟩ := r.mt
    exact ⟨_, _, rfl, .inr (SqT.of h), fun l hl => k _ _ (.lst hl ⟨_, upd_same, rs.stay (stay_upd hl)⟩)⟩
  · cases e
    obtain ⟨v, rfl, r⟩ := pr1 rx
    obtain ⟨a, ws, rfl, h, rs⟩ := r.ml
    exact ⟨_, _, rfl, .inl (SqL.of h), fun l hl => k _ _ (.lst hl ⟨_, upd_same, rs.stay (stay_upd hl)⟩)⟩
  · cases e
theorem s_bools {g : List Bool → Bool} : BiS Z (fun vs H Q => ∃ (a : Addr) (bs : List Bool), vs = [V.ref a] ∧ SqL Z.K H a (bs.map V.bl) ∧ Q (.bl (g bs)) H) (biBools g) := by
  intro F φ H vs xs z Q rx e k
  unfold biBools at e
  split at e
  · obtain ⟨bs, e1, e2⟩ := ob_some e
    cases e2
    obtain ⟨v, rfl, r⟩ := pr1 rx
    obtain ⟨a, ws, rfl, h, rs⟩ := r.lst
    rw [allB_eq e1] at rs
    rw [rs.bls] at h
    exact ⟨a, bs, rfl, SqL.of h, k _ _ (.same (rBl _))⟩
  · cases e
theorem s_sum : BiS Z (rSum Z.K) biSum := by
  intro F φ H vs xs z Q rx e k
  unfold biSum at e
  split at e
  · obtain ⟨bs, e1, e2⟩ := ob_some e
    cases e2
    obtain ⟨v, rfl, r⟩ := pr1 rx
    obtain ⟨a, ws, rfl, h, rs⟩ := r.lst
    rw [allI_eq e1] at rs
    rw [rs.ints] at h
    exact ⟨a, bs, rfl, SqL.of h, k _ _ (.same (rInt _))⟩
  · cases e
theorem s_two {g : Int → Int → Int} : BiS Z (fun xs H Q => ∃ i j, xs = [.int i, .int j] ∧ Q (.int (g i j)) H) (biTwo g) := by
  intro F φ H vs xs z Q rx e k
  unfold biTwo at e
  split at e
  · cases e
    obtain ⟨v, w, rfl, r1, r2⟩ := pr2 rx
    exact ⟨_, _, by rw [r1.int, r2.int], k _ _ (.same (rInt _))⟩
  · cases e
theorem s_mm {g : PyData → List PyData → PyData} (hg : ∀ x xs, g x xs ∈ x :: xs) : BiS Z (rMM Z.K g) (biMM g) := by
  intro F φ H vs xs z Q rx e k
  unfold biMM at e
  have al : ∀ {x : PyData} {xs : List PyData}, (alikeL (x :: xs) && okL (x :: xs)) = true → AlkL (x :: xs) := fun {x xs} h => by
    simp only [Bool.and_eq_true] at h
    exact ⟨⟨fun a ha b hb => (alike_all h.1).1 a ha b hb, fun a ha => notNone_ne ((alike_all h.1).2 a ha)⟩, of_decide_eq_true h.2⟩
  split at e
  · split at e
    · rename_i x xs hz
      cases e
      obtain ⟨v, rfl, r⟩ := pr1 rx
      obtain ⟨a, ws, rfl, h, rs⟩ := r.lst
      refine ⟨a, ws, x, xs, rfl, .inl (SqL.of h), rs.dp, al hz, fun i w h1 h2 => ?_⟩
      obtain ⟨w', h3, r'⟩ := rs.get h2
      rw [h1] at h3
      cases h3
      exact k _ _ (.same (.py r'))
    · cases e
  · split at e
    · rename_i x xs hz
      cases e
      obtain ⟨v, rfl, r⟩ := pr1 rx
      obtain ⟨a, ws, rfl, h, rs⟩ := r.tup
      refine ⟨a, ws, x, xs, rfl, .inr (SqT.of h), rs.dp, al hz, fun i w h1 h2 => ?_⟩
      obtain ⟨w', h3, r'⟩ := rs.get h2
      rw [h1] at h3
      cases h3
      exact k _ _ (.same (.py r'))
    · cases e
  · cases e
theorem s_sortedB (F : Addr → Prop) (φ : List Addr) (H : Hp) (vs : List V) (xs : List D) (z : D × Bool) (Q : VK)
    (rx : Paired (RepR Z F φ H) vs xs) (e : biSorted xs = some z) (k : ∀ u H', New Z F φ H z.1 z.2 u H' → Q u H') : rSortD Z.K F vs H Q := by
  unfold biSorted at e
  split at e
  · split at e
    · rename_i ps hz
      cases e
      obtain ⟨v, rfl, r⟩ := pr1 rx
      obtain ⟨a, ws, rfl, h, rs⟩ := r.lst
      simp only [Bool.and_eq_true, Bool.or_eq_true, List.all_eq_true] at hz
      obtain ⟨⟨h1, h2⟩, h3⟩ := hz
      obtain ⟨g1, g2⟩ := alike_all (by simpa [List.all_eq_true] using h1)
      refine ⟨a, ws, ps, rfl, .inl h, rs, g1, ?_, of_decide_eq_true h3, fun ws' p hp r' hl => k _ _ (.lst hp ⟨_, upd_same, r'.stay (stay_upd (φ := φ) hp)⟩)⟩
      rcases h2 with h2 | h2
      · refine .inl fun d hd => ?_
        have w := h2 d hd
        unfold isTupP at w
        split at w
        · exact ⟨_, rfl⟩
        · cases w
      · refine .inr fun d hd => ?_
        have w := h2 d hd
        unfold noTupP at w
        split at w
        · cases w
        · cases w
        · rename_i n1 n2
          exact ⟨fun z => n2 z, fun xs z => n1 xs z⟩
    · cases e
  · split at e
    · rename_i ps hz
      cases e
      obtain ⟨v, rfl, r⟩ := pr1 rx
      obtain ⟨a, ws, rfl, h, rs⟩ := r.tup
      simp only [Bool.and_eq_true, Bool.or_eq_true, List.all_eq_true] at hz
      obtain ⟨⟨h1, h2⟩, h3⟩ := hz
      obtain ⟨g1, g2⟩ := alike_all (by simpa [List.all_eq_true] using h1)
      refine ⟨a, ws, ps, rfl, .inr h, rs, g1, ?_, of_decide_eq_true h3, fun ws' p hp r' hl => k _ _ (.lst hp ⟨_, upd_same, r'.stay (stay_upd (φ := φ) hp)⟩)⟩
      rcases h2 with h2 | h2
      · refine .inl fun d hd => ?_
        have w := h2 d hd
        unfold isTupP at w
        split at w
        · exact ⟨_, rfl⟩
        · cases w
      · refine .inr fun d hd => ?_
        have w := h2 d hd
        unfold noTupP at w
        split at w
        · cases w
        · cases w
        · rename_i n1 n2
          exact ⟨fun z => n2 z, fun xs z => n1 xs z⟩
    · cases e
  · cases e
theorem s_abs : BiS Z (fun xs H Q => ∃ i, xs = [.int i] ∧ Q (.int (if i < 0 then -i else i)) H) biAbs := by
  intro F φ H vs xs z Q rx e k
  unfold biAbs at e
  split at e
  · cases e
    obtain ⟨v, rfl, r⟩ := pr1 rx
    exact ⟨_, by rw [r.int], k _ _ (.same (rInt _))⟩
  · cases e

/-- the built-in's value -/
def biV : Bi → Value
  | .len => .builtin "len" | .repr => .builtin "repr" | .str => .type "str" | .int => .type "int" | .tuple => .type "tuple" | .list => .type "list"
  | .all => .builtin "all" | .any => .builtin "any" | .sum => .builtin "sum" | .min => .builtin "min" | .max => .builtin "max" | .sorted => .builtin "sorted" | .abs => .builtin "abs"
def biN : Bi → Str
  | .len => "len" | .repr => "repr" | .str => "str" | .int => "int" | .tuple => "tuple" | .list => "list"
  | .all => "all" | .any => "any" | .sum => "sum" | .min => "min" | .max => "max" | .sorted => "sorted" | .abs => "abs"
/-- for every standing of the frozen things there is a rule -/
def BiR (X : Cx) (Z : Zt) (f : Value) (g : Bo) : Prop := ∀ F : Addr → Prop, ∃ r, CallR X f r ∧ ∀ (φ : List Addr) (H : Hp) (vs : List V) (xs : List D) (z : D × Bool) (Q : VK),
  Paired (RepR Z F φ H) vs xs → g xs = some z → (∀ u H', New Z F φ H z.1 z.2 u H' → Q u H') → r vs H Q
theorem BiR.of {f : Value} {g : Bo} {r : List V → Hp → VK → Prop} (c : CallR X f r) (s : BiS Z r g) : BiR X Z f g := fun F => ⟨r, c, s F⟩
theorem minD_mem (x : PyData) (xs : List PyData) : PySem.W.minD x xs ∈ x :: xs := by
  unfold PySem.W.minD
  induction xs generalizing x with
  | nil => simp
  | cons y ys ih =>
    rw [List.foldl_cons]
    have w := ih (if PySem.W.dataLt y x then y else x)
    rcases List.mem_cons.mp w with e | h
    · rw [e]
      split
      · simp
      · simp
    · exact List.mem_cons_of_mem _ (List.mem_cons_of_mem _ h)
theorem maxD_mem (x : PyData) (xs : List PyData) : PySem.W.maxD x xs ∈ x :: xs := by
  unfold PySem.W.maxD
  induction xs generalizing x with
  | nil => simp
  | cons y ys ih =>
    rw [List.foldl_cons]
    have w := ih (if PySem.W.dataLt x y then y else x)
    rcases List.mem_cons.mp w with e | h
    · rw [e]
      split
      · simp
      · simp
    · exact List.mem_cons_of_mem _ (List.mem_cons_of_mem _ h)
theorem s_bi (X : Cx) (Z : Zt) (hK : X.K = Z.K) (hc : X.calm = true) (hh : X.A.handled = none) (hu : X.A.units + 70 < cLine) (hg : X.A.guards = some []) (b : Bi) : BiR X Z (biV b) (bi b) := by
  cases b with
  | len => exact .of call_len (by rw [hK]; exact s_len)
  | repr => exact .of (cr_repr hu hg) (by rw [hK]; exact s_repr)
  | str => exact .of (CallR.or call_str_int SkE.call_str_str) (biS_or s_strI s_strS)
  | int => exact .of call_int1 s_intB
  | tuple => exact .of call_tuple_of (by rw [hK]; exact s_tuple)
  | list => exact .of call_list_of (by rw [hK]; exact s_list)
  | all => exact .of (cr_all hc) (by unfold rAll; rw [hK]; exact s_bools)
  | any => exact .of (cr_any hc) (by unfold rAny; rw [hK]; exact s_bools)
  | sum => exact .of (cr_sum hc) (by rw [hK]; exact s_sum)
  | min => exact .of (CallR.or (call_min2 hc) (call_minD hc hh hu)) (biS_or s_two (by rw [hK]; exact s_mm minD_mem))
  | max => exact .of (CallR.or (call_max2 hc) (call_maxD hc hh hu)) (biS_or s_two (by rw [hK]; exact s_mm maxD_mem))
  | sorted => exact fun F => ⟨_, cr_sortD hu, by rw [hK]; exact s_sortedB F⟩
  | abs => exact .of call_abs s_abs
end
end Ev

/-! Lists that are given away. -/
namespace Ev
open L2 PyProof.Rows PySem PySem.Spec
section
variable {Z : Zt} {Eo : XK} {σ : Sx} {p q : Pt} {ρ ρ' : Nv} {M : Mem} {F F' : Addr → Prop} {φ : List Addr} {H H0 : Hp}
theorem stay_grow (m : ∀ b, F b → F' b) : Stay F φ H F' φ H := ⟨m, fun _ _ _ h _ => h, fun _ _ h => h, fun _ _ _ h => h, fun _ _ h => h, ⟨[], by simp⟩⟩
/-- the list at a is given away: slots that owned it no longer do -/
structure Gives (ρ ρ' : Nv) (σ : Sx) (a : Addr) : Prop where
  fz : Fz ρ ρ'
  tru : ∀ (i : Nat) (d : D), ρ'[i]? = some (some (d, true)) → ρ[i]? = some (some (d, true)) ∧ σ[i]? ≠ some (some (V.ref a))
  fls : ∀ (i : Nat) (d : D), ρ'[i]? = some (some (d, false)) → ρ[i]? = some (some (d, false)) ∨ ρ[i]? = some (some (d, true)) ∧ σ[i]? = some (some (V.ref a))
theorem Sim.give {a : Addr} {d : D} (s : Sim Z ρ M F φ σ H) (h : OwnR Z F φ H a d) (n : a ∉ φ) (g : Gives ρ ρ' σ a) : Sim Z ρ' M (fun b => F b ∨ b = a) φ σ H := by
  have st : Stay F φ H (fun b => F b ∨ b = a) φ H := stay_grow fun _ h => .inl h
  obtain ⟨vs, hv⟩ := h.lst
  refine ⟨s.g.next st rfl (fun _ _ => rfl) (fun b hb => ?_) s.g.tab, by rw [g.fz.1, s.l.len], fun i d h => ?_, fun i d h => ?_, s.l.ent, fun i j d e b h1 h2 h3 h4 => s.l.inj i j d e b (g.tru i d h1).1 (g.tru j e h2).1 h3 h4⟩
  · rcases hb with hb | hb
    · exact s.g.dom b hb
    · rw [hb, hv]
      exact ⟨fun z => (by cases z), n⟩
  · rcases g.fls i d h with h | ⟨h1, h2⟩
    · obtain ⟨v, e, r⟩ := s.l.sh i d h
      exact ⟨v, e, r.stay st⟩
    · obtain ⟨b, e, r, _, _, _⟩ := s.l.ow i d h1
      rw [h2] at e
      cases e
      exact ⟨_, h2, (r.stay st fun _ h => h).give (.inr rfl)⟩
  · obtain ⟨h1, h2⟩ := g.tru i d h
    obtain ⟨b, e, r, n1, n2, n3⟩ := s.l.ow i d h1
    refine ⟨b, e, r.stay st fun _ h => h, fun z => ?_, n2, n3⟩
    rcases z with z | z
    · exact n1 z
    · rw [z] at e
      exact h2 e
theorem gives_refl {a : Addr} (n : ¬ Own ρ σ a) : Gives ρ ρ σ a := ⟨Fz.refl _, fun i d h => ⟨h, fun z => n ⟨i, d, h, z⟩⟩, fun i d h => .inl h⟩
theorem fz_set {i : Nat} {d : D} (h : ρ[i]? = some (some (d, true))) : Fz ρ (ρ.set i (some (d, false))) := by
  have hi : i < ρ.length := (List.getElem?_eq_some_iff.mp h).1
  refine ⟨by simp, fun j => ⟨fun e => ?_, fun d' fl e => ?_⟩⟩
  · rw [List.getElem?_set]
    split
    · rename_i q
      subst q
      rw [h] at e; cases e
    · exact e
  · rw [List.getElem?_set]
    split
    · rename_i q
      subst q
      rw [h] at e
      cases e
      exact ⟨false, rfl, fun z => by cases z⟩
    · exact ⟨fl, e, fun z => z⟩
theorem gives_set {i : Nat} {d : D} {a : Addr} (l : LSim Z ρ F φ σ H) (h : ρ[i]? = some (some (d, true))) (e : σ[i]? = some (some (V.ref a))) : Gives ρ (ρ.set i (some (d, false))) σ a := by
  have hi : i < ρ.length := (List.getElem?_eq_some_iff.mp h).1
  refine ⟨fz_set h, fun j d' h' => ?_, fun j d' h' => ?_⟩
  · rw [List.getElem?_set] at h'
    split at h'
    · cases h'
    · rename_i q
      exact ⟨h', fun z => q (l.inj i j d d' a h h' e z)⟩
  · rw [List.getElem?_set] at h'
    split at h'
    · rename_i q
      subst q
      cases h'
      exact .inr ⟨h, e⟩
    · exact .inl h'
/-- one value given away -/
theorem give1 {m : Md} {v : V} {d : D} (x : Via σ p q) (sp : p.Sim Z σ) (sq : q.Sim Z σ) (h : RepT Z p.H q.ρ σ q.F q.φ q.H m v d) :
    ∃ F' : Addr → Prop, (∀ b, q.F b → F' b) ∧ (∀ b, F' b → q.F b ∨ (m = .fr ∧ v = .ref b) ∨ Own q.ρ σ b) ∧ Fz q.ρ (fz m q.ρ) ∧ Via σ p ⟨fz m q.ρ, q.M, F', q.φ, q.H⟩ ∧ Sim Z (fz m q.ρ) q.M F' q.φ σ q.H ∧ Rep Z F' q.φ q.H v d := by
  have via : ∀ {F' : Addr → Prop} {ρ' : Nv}, Fz q.ρ ρ' → (∀ b, q.F b → F' b) → (∀ b, F' b → q.F b ∨ p.H b = none ∨ Own p.ρ σ b) → Via σ p ⟨ρ', q.M, F', q.φ, q.H⟩ := fun {F' ρ'} f mo nw =>
    ⟨⟨x.post.ext, x.post.keep, fun b hb => mo b (x.post.mono b hb), fun b hb => by
      rcases nw b hb with z | z | z
      · exact x.post.new b z
      · exact .inr (.inl z)
      · exact .inr (.inr z), x.post.dom⟩, x.fz.trans f⟩
  cases m with
  | sh => exact ⟨q.F, fun _ h => h, fun _ h => .inl h, Fz.refl _, x, sq, h⟩
  | fr =>
    obtain ⟨a, rfl, r, n1, n2, n3, n4⟩ := h
    refine ⟨fun b => q.F b ∨ b = a, fun _ h => .inl h, fun b hb => hb.imp id fun e => .inl ⟨rfl, by rw [e]⟩, Fz.refl _, via (Fz.refl _) (fun _ h => .inl h) fun b hb => hb.imp id fun e => .inl (by rw [e]; exact n4), Sim.give sq r n2 (gives_refl n3), ?_⟩
    exact (r.stay (stay_grow fun _ h => .inl h) fun _ h => h).give (.inr rfl)
  | bo i =>
    obtain ⟨h1, fl, h2⟩ := h
    cases fl with
    | false =>
      have e : fz (.bo i) q.ρ = q.ρ := by
        show unown q.ρ i = _
        unfold unown
        rw [h2]
      rw [e]
      obtain ⟨v', e', r⟩ := sq.l.sh i d h2
      rw [h1] at e'
      cases e'
      exact ⟨q.F, fun _ h => h, fun _ h => .inl h, Fz.refl _, x, sq, r⟩
    | true =>
      have e : fz (.bo i) q.ρ = q.ρ.set i (some (d, false)) := by
        show unown q.ρ i = _
        unfold unown
        rw [h2]
      rw [e]
      obtain ⟨a, e', r, n1, n2, _⟩ := sq.l.ow i d h2
      rw [h1] at e'
      cases e'
      have ow : Own q.ρ σ a := ⟨i, d, h2, h1⟩
      refine ⟨fun b => q.F b ∨ b = a, fun _ h => .inl h, fun b hb => hb.imp id fun e => .inr (by rw [e]; exact ow), fz_set h2, via (fz_set h2) (fun _ h => .inl h) fun b hb => hb.imp id fun e => .inr (by rw [e]; exact x.fz.own sp.l.len ow), Sim.give sq r n2 (gives_set sq.l h2 h1), ?_⟩
      exact (r.stay (stay_grow fun _ h => .inl h) fun _ h => h).give (.inr rfl)
theorem RepT.grow {m : Md} {v : V} {d : D} {O : Addr → Prop} (h : RepT Z H0 ρ σ F φ H m v d) (f : Fz ρ ρ') (mo : ∀ b, F b → F' b) (nw : ∀ b, F' b → F b ∨ O b) (hl : ρ.length = σ.length) (no : ∀ a, m = .fr → v = .ref a → ¬ Own ρ σ a → ¬ O a) : RepT Z H0 ρ' σ F' φ H m v d := by
  cases m with
  | sh => exact Rep.stay (stay_grow mo) h
  | bo i =>
    obtain ⟨h1, fl, h2⟩ := h
    obtain ⟨fl', h3, _⟩ := (f.2 i).2 d fl h2
    exact ⟨h1, fl', h3⟩
  | fr =>
    obtain ⟨a, e, r, n1, n2, n3, n4⟩ := h
    exact ⟨a, e, r.stay (stay_grow mo) fun _ h => h, fun z => (nw a z).elim n1 (no a rfl e n3), n2, fun z => n3 (f.own hl z), n4⟩
theorem RepTs.grow {O : Addr → Prop} (f : Fz ρ ρ') (mo : ∀ b, F b → F' b) (nw : ∀ b, F' b → F b ∨ O b) (hl : ρ.length = σ.length) : ∀ {vs : List V} {ds : List (D × Md)}, RepTs Z H0 ρ σ F φ H vs ds →
    (∀ (j : Nat) (d : D × Md) (a : Addr), ds[j]? = some d → d.2 = .fr → vs[j]? = some (V.ref a) → ¬ Own ρ σ a → ¬ O a) → RepTs Z H0 ρ' σ F' φ H vs ds
  | [], [], _, _ => trivial
  | _ :: _, d :: _, h, k => ⟨h.1.grow f mo nw hl fun a e1 e2 => k 0 d a rfl e1 (by rw [e2]; rfl), h.2.1, RepTs.grow f mo nw hl h.2.2 fun j d' a e1 e2 e3 => k (j + 1) d' a (by simpa using e1) e2 (by simpa using e3)⟩
  | [], _ :: _, h, _ => h.elim
  | _ :: _, [], h, _ => h.elim
/-- all are given away -/
theorem gives {M : Mem} {φ : List Addr} {H : Hp} : ∀ {ds : List (D × Md)} {vs : List V} {ρ : Nv} {F : Addr → Prop}, Via σ p ⟨ρ, M, F, φ, H⟩ → p.Sim Z σ → Sim Z ρ M F φ σ H → RepTs Z p.H ρ σ F φ H vs ds →
    ∃ F' : Addr → Prop, (∀ b, F b → F' b) ∧ Via σ p ⟨fzs ds ρ, M, F', φ, H⟩ ∧ Sim Z (fzs ds ρ) M F' φ σ H ∧ Reps Z F' φ H vs (ds.map (·.1))
  | [], [], ρ, F, x, _, sq, _ => ⟨F, fun _ h => h, x, sq, .nil⟩
  | d :: ds, v :: vs, ρ, F, x, sp, sq, h => by
    obtain ⟨h1, h2, h3⟩ := h
    obtain ⟨F1, mo, nw, f, x1, s1, r⟩ := give1 (q := ⟨ρ, M, F, φ, H⟩) x sp sq h1
    have h4 : RepTs Z p.H (fz d.2 ρ) σ F1 φ H vs ds := RepTs.grow f mo nw sq.l.len h3 fun j d' a e1 e2 e3 n z => by
      rcases z with ⟨z1, z2⟩ | z
      · exact h2 a z1 z2 j d' e1 e2 e3
      · exact n z
    obtain ⟨F2, mo2, x2, s2, rs⟩ := gives x1 sp s1 h4
    exact ⟨F2, fun b hb => mo2 b (mo b hb), x2, s2, .cons (r.stay (stay_grow mo2)) rs⟩
  | [], _ :: _, _, _, _, _, _, h => h.elim
  | _ :: _, [], _, _, _, _, _, h => h.elim
end
end Ev

/-! enumerate of a tuple. -/
namespace Ev
open L2 PyProof.Rows PySem PySem.Spec
open AutoSeq1 (wpAny_loadPart')
theorem enum_newT (l : Addr) (us : Array Value) (n : Nat) (od : Option Addr) (sl : Array (Option Value)) :
    Meets (Builtin.«enumerate.__new__» ⟨[.type "enumerate", .ref l], []⟩) (fun _ R s => s.heap.get? l = some { cls := .type "tuple", dict := od, data := .seq us n, slots := sl } ∧
      R (.ok (.ret (.ref (s.heap.push { cls := .type "tuple_iterator", data := .fields #[.ref l, .int 0 0] }).objs.size)))
        { s with heap := (s.heap.push { cls := .type "tuple_iterator", data := .fields #[.ref l, .int 0 0] }).push { cls := .type "enumerate", data := .fields #[.none, .bool false, .ref s.heap.objs.size, rawInt 0, .none, .none] } }) :=
  .of_wp fun prog w A R s h => by
    obtain ⟨hp, gg, dr, tk, os⟩ := s
    obtain ⟨hl, h⟩ := h
    have sube := sub_enumerate
    have hT : Heap.IsTuple (Shared.heap ⟨hp, gg, dr, tk, os⟩) l us := ⟨_, hl, rfl, n, rfl⟩
    wp_walk using wpAny_loadPart' hl
    refine wpAny_stack_any fun st => wpAny_pure ?_
    split
    · rename_i c _ _ _ _ _
      cases (c == Value.type "enumerate")
      · wp_walk using wpAny_loadPart' hl, wpAny_pyIter_tuple hT
        exact ⟨_, rfl, h⟩
      · wp_walk using wpAny_loadPart' hl, wpAny_pyIter_tuple hT
        exact ⟨_, rfl, h⟩
    · wp_walk using wpAny_loadPart' hl, wpAny_pyIter_tuple hT
      exact ⟨_, rfl, h⟩
section
variable {P : Program} {W : World} {A : Around} {E : Value → Shared → Prop} {s : Shared}
theorem enum_tup {l : Addr} {us : Array Value} {Q : Value → Shared → Prop} (hT : s.heap.IsTuple l us)
    (q : ∀ h', IsEnum h' (s.heap.objs.size + 1) s.heap.objs.size 0 .none → h'.IsTupleIter s.heap.objs.size l 0 → (∀ b o, s.heap.get? b = some o → h'.get? b = some o) → Q (.ref (s.heap.objs.size + 1)) { s with heap := h' }) :
    wpAny (model P W) A (call (.type "enumerate") [.ref l]) Q E s := by
  obtain ⟨⟨c, od, dt, sl⟩, hl, hc, n, hd⟩ := hT
  replace hc : c = .type "tuple" := hc
  replace hd : dt = .seq us n := hd
  subst hc
  subst hd
  refine callType_new F.called_enumerate (by decide) (F.typeCall_enumerate_1 _) (F.newCall_enumerate_1 _) (fun ob => F.args_object_init_2 ob _) F.entry_enumerate_new (enum_newT l us n od sl) ⟨hl, ?_⟩
  have z : (s.heap.push { cls := .type "tuple_iterator", data := .fields #[.ref l, .int 0 0] }).objs.size = s.heap.objs.size + 1 := Heap.size_push ..
  show _ ∧ _
  rw [z]
  have e : IsEnum ((s.heap.push { cls := .type "tuple_iterator", data := .fields #[.ref l, .int 0 0] }).push
      { cls := .type "enumerate", data := .fields #[.none, .bool false, .ref s.heap.objs.size, rawInt 0, .none, .none] }) (s.heap.objs.size + 1) s.heap.objs.size 0 .none := by
    have w := Heap.get?_push_size (s.heap.push { cls := .type "tuple_iterator", data := .fields #[.ref l, .int 0 0] })
      (o := { cls := .type "enumerate", data := .fields #[.none, .bool false, .ref s.heap.objs.size, rawInt 0, .none, .none] }) rfl
    rw [z] at w
    exact w
  exact ⟨⟨_, e, rfl⟩, q _ e ⟨_, Heap.get?_push_of_some _ (Heap.get?_push_size _ rfl), rfl, rfl⟩ fun b o x => Heap.get?_push_of_some _ (Heap.get?_push_of_some _ x)⟩
end
/-- the tuple at a, each item in a new pair -/
def IteT (K : PySem.W.Frag) (a : Addr) : It where
  go := fun i H => ∃ (xs : List V) (x : V), SqT K H a xs ∧ xs[i]? = some x
  yld := fun i H v H' => ∃ T x, v = .ref T ∧ H T = none ∧ H' = upd H T (.tup [.int (i : Nat), x]) ∧ ∀ xs, SqT K H a xs → xs[i]? = some x
  stop := fun i H => ∃ xs : List V, SqT K H a xs ∧ xs.length = i

theorem turn_enT {P : Program} {W : World} {K : PySem.W.Frag} {elts : List Expr} {kk : Nat} {tp : Pos} (a e it : Addr) (hai : a ≠ it) :
    Turn P W K (.Tuple elts kk tp) (IteT K a) [e, it] e (fun i h => (∃ old, IsEnum h e it ((i : Nat) : Int) old) ∧ h.IsTupleIter it a i ∧ e ≠ it) where
  mem := by simp
  obj := fun i h st b hb => by
    obtain ⟨⟨old, he⟩, ⟨o, ho, hc, hd⟩, _⟩ := st
    rcases (show b = e ∨ b = it by simpa using hb) with z | z
    · rw [z]
      exact ⟨_, he, fun v q => nomatch q⟩
    · rw [z]
      exact ⟨o, ho, fun v q => by rw [hd] at q; cases q⟩
  keep := fun i h h' st k => by
    obtain ⟨⟨old, he⟩, hi, hne⟩ := st
    exact ⟨⟨old, k e (by simp) _ he⟩, hi.at fun o q => k it (by simp) o q, hne⟩
  item := by
    intro X hP hw hK hc i pins s σ H E I hf st hg
    subst hP
    subst hw
    subst hK
    obtain ⟨⟨old, he⟩, hit, hne⟩ := st
    obtain ⟨xs, x, hq, hx⟩ := hg
    obtain ⟨its, rv, p, hz⟩ := I.tuple hq
    obtain ⟨u, hu, ru⟩ := rv.get hx
    have hel : e < s.heap.objs.size := Heap.lt_size he
    have hil : it < s.heap.objs.size := by
      obtain ⟨_, q, _⟩ := hit
      exact Heap.lt_size q
    have hea : e ≠ a := fun z => by
      obtain ⟨o, q1, q2, _⟩ := p
      rw [← z, he] at q1
      rw [← Option.some.inj q1] at q2
      simp at q2
    have hlt : i < its.toArray.size := by
      have := (List.getElem?_eq_some_iff.mp hu).1
      simpa using this
    refine wpAny_pyNext_enum_itemD (Draws.tuple (A := X.A.in1) (I.ok.hd hc) it a hai its.toArray) he ⟨hit, p⟩ hlt hne (by simp [hne, hea]) fun y h' tk hy ho hit' hT hsz hk => ?_
    have ey : y = u := by
      have w : its.toArray[i]? = some u := by simpa using hu
      rw [w] at hy
      exact (Option.some.inj hy).symm
    subst ey
    refine ⟨_, rfl, wpAny_letOwnedTupleGo_enum (s := { s with heap := h', toks := tk + 1 }) ho fun h2 he2 sb => ?_⟩
    have hT2 : h2.get? s.heap.objs.size = some { cls := .type "tuple", data := .seq #[.int i tk, y] } := (sb.2 _ (Nat.ne_of_gt hel)).trans hT
    have nw : ObjOk X.prog X.w (upd H s.heap.objs.size (.tup [.int (i : Nat), x])) h2 s.heap.objs.size (.tup [.int (i : Nat), x]) :=
      ⟨by show 2 ≤ sizeLine; decide, [.int i tk, y], .cons ⟨_, rfl⟩ (.cons ru .nil), ⟨_, hT2, rfl, _, rfl⟩⟩
    have I1 : Inv X pins σ (upd H s.heap.objs.size (.tup [.int (i : Nat), x])) { s with heap := h2, toks := tk + 1 } :=
      I.turnedNew (ch := [it, e]) (fun b ob hb q => (sb.2 b (fun z => hb (by simp [z]))).trans (hk b ob (fun z => hb (by simp [z])) (fun z => hb (by simp [z])) q)) (fun b hb => hf b (by simpa [or_comm] using hb)) (Nat.le_refl _) nw
    refine ⟨.ref s.heap.objs.size, _, I1, rfl, ⟨_, x, rfl, I.hok.fresh (Nat.le_refl _), rfl, fun ys hy => by rw [I.tuple_inj hy hq]; exact hx⟩, ⟨⟨y, ?_⟩, hit'.1.at fun o q => (sb.2 it (Ne.symm hne)).trans q, hne⟩, fun b hb => ?_⟩
    · have e1 : ((i + 1 : Nat) : Int) = (i : Int) + 1 := by omega
      rw [e1]
      exact he2
    · have hb' : b < s.heap.objs.size := by
        rcases (show b = e ∨ b = it by simpa using hb) with z | z
        · rw [z]
          exact hel
        · rw [z]
          exact hil
      rw [upd_ne (Nat.ne_of_lt hb')]
      exact (hf b hb).1
  done := by
    intro X hP hw hK hc i pins s σ H E I hf st hg
    subst hP
    subst hw
    subst hK
    obtain ⟨⟨old, he⟩, hit, hne⟩ := st
    obtain ⟨xs, hq, hx⟩ := hg
    obtain ⟨its, rv, p, hz⟩ := I.tuple hq
    have hl : i = its.toArray.size := by
      have := rv.length
      simp only [List.size_toArray]
      omega
    subst hl
    refine wpAny_pyNext_enum_endD (Draws.tuple (A := X.A.in1) (I.ok.hd hc) it a hai its.toArray) he ⟨hit, p⟩ fun h' eb => ?_
    obtain ⟨f0, f1, f2, f3, f4, f5⟩ := hf it (by simp)
    exact ⟨rfl, I.turned (t' := s.toks) (fun b o hb q => eb b o hb q) f0 f1 f3 f4 f5⟩
  self := fun A i s Q E st h => by
    obtain ⟨⟨_, he⟩, _⟩ := st
    exact wpAny_pyIter_enum he h

def iEnT (K : PySem.W.Frag) (ta : TA) : TI := fun σ H R => ta σ H fun vs H1 => ∃ a xs, vs = [.ref a] ∧ ((SqL K H1 a xs ∧ R (Ite K a) H1) ∨ (SqT K H1 a xs ∧ R (IteT K a) H1))
theorem pi_enA {X : Cx} {e : Expr} {ta : TA} {p pos tp : Pos} {elts : List Expr} {kk : Nat} (hg : Gl X "enumerate") (hm : X.mg "enumerate" = none) (ha : PA X [e] ta) (hs : starEach [e] X.env = [(false, eval e X.env)]) :
    PI X (.Tuple elts kk tp) (.Call (.Name "enumerate" p) [e] [] pos) (iEnT X.K ta) := by
  refine ⟨fun pins s σ H R I h => ?_⟩
  refine Call_ (ld_blt I hg hm boot_enumerate (PyProof.Rows.callWith_type1 (thn (ha.run pos pins s σ H _ I h) fun us s1 ⟨vs, H1, I1, r1, q1⟩ => ?_) hs rfl))
  obtain ⟨a, xs, ex, q1⟩ := q1
  subst ex
  cases r1 with
  | cons r rr =>
    cases rr
    cases r
    have fp : ∀ b, b ∈ [s1.heap.objs.size + 1, s1.heap.objs.size] → FpOk X pins H1 b := fun b hb => by
      have hle : s1.heap.objs.size ≤ b := by
        rcases (show b = s1.heap.objs.size + 1 ∨ b = s1.heap.objs.size by simpa using hb) with z | z <;> omega
      exact I1.fpOk hle (I1.hok.fresh hle)
    rcases q1 with ⟨hq, q⟩ | ⟨hq, q⟩
    · obtain ⟨its, rv, pl, hz⟩ := I1.list hq
      refine call_enumerate_list pl.isList fun h' he hit hsz hk => wpAny_pyIter_enum he ?_
      exact ⟨s1.heap.objs.size + 1, [s1.heap.objs.size + 1, s1.heap.objs.size], _, _, H1, rfl, I1.kept (t' := s1.toks) hk, turn_enum a (s1.heap.objs.size + 1) s1.heap.objs.size, ⟨⟨.none, he⟩, hit, Nat.succ_ne_self _⟩, fp, q⟩
    · obtain ⟨its, rv, pl, hz⟩ := I1.tuple hq
      have hne : a ≠ s1.heap.objs.size := fun z => by
        obtain ⟨o, q1, _⟩ := id pl
        have w := Heap.lt_size q1
        rw [z] at w
        exact Nat.lt_irrefl _ w
      refine enum_tup pl fun h' he hit hk => wpAny_pyIter_enum he ?_
      exact ⟨s1.heap.objs.size + 1, [s1.heap.objs.size + 1, s1.heap.objs.size], _, _, H1, rfl, I1.kept (t' := s1.toks) hk, turn_enT a (s1.heap.objs.size + 1) s1.heap.objs.size hne, ⟨⟨.none, he⟩, hit, Nat.succ_ne_self _⟩, fp, q⟩
end Ev

/-! The text of the def that hears; a place in which lambdas are made. -/
namespace Ev
open L2 PyProof.Rows PySem PySem.Spec
abbrev heN : List Str := ["call", "caught", "back", "error"]
def heSc : Scope := { kind := .function, names := [("call", .local), ("caught", .local), ("back", .local), ("error", .local), ("WashError", .globalImplicit)], isGenerator := false, isCoroutine := false, more := [] }
def heBody (q : Nat → Pos) : List Stmt := [
  .Assign [.Tuple [.Name "caught" (q 0), .Name "back" (q 1)] 0 (q 2)] (.Tuple [.Constant .none 0 (q 3), .Constant .none 0 (q 4)] 0 (q 5)) (q 6),
  .Try [.Assign [.Name "back" (q 7)] (.Call (.Name "call" (q 8)) [] [] (q 9)) (q 10)] [.ExceptHandler (some (.Name "WashError" (q 11))) (some "error") [.Assign [.Name "caught" (q 12)] (.Name "error" (q 13)) (q 14)] (q 15)] [] [] (q 16),
  .Return (some (.Tuple [.Name "caught" (q 17), .Name "back" (q 18)] 0 (q 19))) (q 20)]
/-- what is known of it -/
structure HearD (K : PySem.W.Frag) (mg : Str → Option Value) (Z : Zt) : Prop where
  ex : ∃ (g CS : Addr) (fd : FuncData) (params : Arguments) (q : Nat → Pos), FunD K "_law_heard" "_law_heard" params (heBody q) heSc [] [] g fd ∧ Binds K fd ["call"] [] ∧ mg "_law_heard" = some (.ref g) ∧ mg "WashError" = some (.ref CS) ∧ (∀ c, PySem.W.exmOne K (.ref (Z.ca c)) (.ref CS) = some true) ∧ (q 1).line = (q 0).line
/-- what is known of the first n classes of errors -/
structure ErrD (K : PySem.W.Frag) (Z : Zt) (n : Nat) : Prop where
  ec : ∀ e, ExcC K (Z.ca e)
  xf : ∀ e, XfC K (Z.ca e)
  nv : ∀ e, PySem.W.findIn K (.ref (Z.ca e)) valK = some none
  kit : ∀ e c, c < n → PySem.W.kitOne K (.ref (Z.ca e)) (.ref (Z.ca c)) = some (e == c || c == 0)
  kv : ∀ e, PySem.W.kitOne K (.ref (Z.ca e)) (.type "ValueError") = some true
  kn : ∀ c, c < n → PySem.W.kitOne K (.type "NoneType") (.ref (Z.ca c)) = some false
/-- a place in which lambdas are made -/
structure LamOk (X : Cx) (Z : Zt) : Prop where
  hd : HearD X.K X.mg Z
  ex : ∃ c P : Addr, LamX.TabB X.base X.mg c P ∧ X.env.code = .ref c ∧ (P, X.env.qual ++ "<lambda>") ∈ Z.T ∧ ∀ p ∈ Z.T, p.1 = P → p.2 = X.env.qual ++ "<lambda>"
end Ev

/-! What a place of the text offers; single rules. -/
namespace Ev
open L2 PyProof.Rows PySem PySem.Spec
/-! ### a frame's own lambdas stay in it -/
def Zt.bare (Z : Zt) : Zt := { Z with lq := "", lcl := [], lg := fun _ _ _ _ => False }
section
variable {Z : Zt} {F : Addr → Prop} {φ : List Addr} {H : Hp}
mutual
theorem Rep.bare : ∀ {v : V} {d : D}, Rep Z F φ H v d → clean d = true → Rep Z.bare F φ H v d
  | _, _, .py h, _ => .py h
  | _, _, .mt h1 h2, c => .mt h1 (Reps.bare h2 (by unfold clean at c; exact c))
  | _, _, .ml h1 h2 h3, c => .ml h1 h2 (Reps.bare h3 (by unfold clean at c; exact c))
  | _, _, .fn k, _ => .fn (Z := Z.bare) k
  | _, _, .exc h1 h2 h3 h4 h5, _ => .exc h1 h2 h3 h4 h5
  | _, _, .cel h, _ => .cel h
  | _, _, .scr h, _ => .scr h
  | _, _, .clo _ _ _, c => by unfold clean at c; cases c
theorem Reps.bare : ∀ {vs : List V} {ds : List D}, Reps Z F φ H vs ds → cleanL ds = true → Reps Z.bare F φ H vs ds
  | _, _, .nil, _ => .nil
  | _, _, .cons h1 h2, c => by
    unfold cleanL at c
    rw [Bool.and_eq_true] at c
    exact .cons (Rep.bare h1 c.1) (Reps.bare h2 c.2)
end
mutual
theorem Rep.unb : ∀ {v : V} {d : D}, Rep Z.bare F φ H v d → Rep Z F φ H v d
  | _, _, .py h => .py h
  | _, _, .mt h1 h2 => .mt h1 (Reps.unb h2)
  | _, _, .ml h1 h2 h3 => .ml h1 h2 (Reps.unb h3)
  | _, _, .fn k => .fn (Z := Z) k
  | _, _, .exc h1 h2 h3 h4 h5 => .exc h1 h2 h3 h4 h5
  | _, _, .cel h => .cel h
  | _, _, .scr h => .scr h
  | _, _, .clo h _ _ => False.elim h
theorem Reps.unb : ∀ {vs : List V} {ds : List D}, Reps Z.bare F φ H vs ds → Reps Z F φ H vs ds
  | _, _, .nil => .nil
  | _, _, .cons h1 h2 => .cons (Rep.unb h1) (Reps.unb h2)
end
theorem OwnR.bare {a : Addr} : ∀ {d : D}, OwnR Z F φ H a d → clean d = true → OwnR Z.bare F φ H a d
  | .py (.list _), h, _ => h
  | .ml _, ⟨vs, h1, r⟩, c => ⟨vs, h1, r.bare (by unfold clean at c; exact c)⟩
  | .py .none, h, _ => h.elim
  | .py (.bool _), h, _ => h.elim
  | .py (.int _), h, _ => h.elim
  | .py (.str _), h, _ => h.elim
  | .py (.tuple _), h, _ => h.elim
  | .py (.dict _), h, _ => h.elim
  | .mt _, h, _ => h.elim
  | .fn _, h, _ => h.elim
  | .exc _ _, h, _ => h.elim
  | .cel _, h, _ => h.elim
  | .clo _, h, _ => h.elim
  | .scr _, h, _ => h.elim
theorem OwnR.unb {a : Addr} : ∀ {d : D}, OwnR Z.bare F φ H a d → OwnR Z F φ H a d
  | .py (.list _), h => h
  | .ml _, ⟨vs, h1, r⟩ => ⟨vs, h1, r.unb⟩
  | .py .none, h => h.elim
  | .py (.bool _), h => h.elim
  | .py (.int _), h => h.elim
  | .py (.str _), h => h.elim
  | .py (.tuple _), h => h.elim
  | .py (.dict _), h => h.elim
  | .mt _, h => h.elim
  | .fn _, h => h.elim
  | .exc _ _, h => h.elim
  | .cel _, h => h.elim
  | .clo _, h => h.elim
  | .scr _, h => h.elim
theorem GSim.bare {M : Mem} (g : GSim Z M F φ H) : GSim Z.bare M F φ H := ⟨g.dom, g.len, g.cell, g.nd, g.tab⟩
theorem GSim.unb {M : Mem} (g : GSim Z.bare M F φ H) : GSim Z M F φ H := ⟨g.dom, g.len, g.cell, g.nd, g.tab⟩
end
theorem Err.bare {Z : Zt} {c : Nat} {v : PyData} {M : Mem} {q : Pt} {da : Addr} (r : Err Z c v M q da) : Err Z.bare c v M q da := ⟨r.g.bare, r.fd, r.at_⟩
theorem Err.unb {Z : Zt} {c : Nat} {v : PyData} {M : Mem} {q : Pt} {da : Addr} (r : Err Z.bare c v M q da) : Err Z c v M q da := ⟨r.g.unb, r.fd, r.at_⟩
/-! ### defs -/
/-- a def's promise where no guard stands around -/
structure FnG (P : Program) (w : World) (K : PySem.W.Frag) (mg : Str → Option Value) (base : Heap) (k : Nat) (f : Addr) (fd : FuncData) (ps : List Str) (sp : Sp) : Prop where
  len : ∀ vs H Q E, sp vs H Q E → vs.length = ps.length
  run : ∀ (A : Around) (outer : List Env) (s : Shared) (H : Hp) (args : Args) (us : List Value) (vs : List V) (Q : VK) (E : XK), Room k A → A.guards = some [] → Env0 P w K mg base A outer s H → BindsTo s fd args (ps.zip us) → Vals vs us → sp vs H Q E →
    codeAny (model P w) A (.call (.ref f) args) (CR (L2.CX P w) outer P w H s Q E) s
/-- a value that comes back: one that stands, or a list that is new since H0 -/
def RepO (Z : Zt) (H0 : Hp) (F : Addr → Prop) (φ : List Addr) (H : Hp) (fr : Bool) (v : V) (d : D) : Prop :=
  if fr = true then ∃ a, v = .ref a ∧ OwnR Z F φ H a d ∧ ¬ F a ∧ a ∉ φ ∧ H0 a = none else Rep Z F φ H v d
theorem RepO.bare {Z : Zt} {H0 : Hp} {F : Addr → Prop} {φ : List Addr} {H : Hp} {fr : Bool} {v : V} {d : D} (r : RepO Z H0 F φ H fr v d) (c : clean d = true) : RepO Z.bare H0 F φ H fr v d := by
  unfold RepO at r ⊢
  split
  · rename_i h
    rw [if_pos h] at r
    obtain ⟨a, h1, h2, h3⟩ := r
    exact ⟨a, h1, h2.bare c, h3⟩
  · rename_i h
    rw [if_neg h] at r
    exact r.bare c
theorem RepO.unb {Z : Zt} {H0 : Hp} {F : Addr → Prop} {φ : List Addr} {H : Hp} {fr : Bool} {v : V} {d : D} (r : RepO Z.bare H0 F φ H fr v d) : RepO Z H0 F φ H fr v d := by
  unfold RepO at r ⊢
  split
  · rename_i h
    rw [if_pos h] at r
    obtain ⟨a, h1, h2, h3⟩ := r
    exact ⟨a, h1, h2.unb, h3⟩
  · rename_i h
    rw [if_neg h] at r
    exact r.unb
def DoneF (Z : Zt) (F : Addr → Prop) (φ : List Addr) (H : Hp) (Q : VK) (E : XK) : Rz Ov → Prop
  | .ok o => ∀ (F' : Addr → Prop) φ' H' v, Post no1 no1 F φ H F' φ' H' → GSim Z o.M F' φ' H' → RepO Z H F' φ' H' o.fr v o.d → Q v H'
  | .er c p M => ∀ (q : Pt) da, Post no1 no1 F φ H q.F q.φ q.H → Err Z c p M q da → E (.ref (Z.ca c)) (some da) q.H
/-- a def's promise by its evaluation -/
def spF (Z : Zt) (f : Fn) : Sp := fun vs H Q E => ∃ (ds : List D) (M : Mem) (F : Addr → Prop) (φ : List Addr), GSim Z.bare M F φ H ∧ Reps Z.bare F φ H vs ds ∧ ∃ r, f noClo ds M = some r ∧ DoneF Z.bare F φ H Q E r
structure FnX (P : Program) (w : World) (K : PySem.W.Frag) (mg : Str → Option Value) (base : Heap) (Z : Zt) (l k : Nat) (f : Fn) : Prop where
  ex : ∃ fd ps, FnG P w K mg base l (Z.fa k) fd ps (spF Z f) ∧ Binds K fd ps []
  kp : PySem.W.keepIn K (.ref (Z.fa k)) = true

/-! ### a place of the text -/
inductive Gv where
  | int (i : Int) | str (s : Str) | fn (k : Nat) | cls (c : Nat) | free
  deriving DecidableEq
structure Gam where
  N : List Str
  sc : Scope
  G : List (Str × Gv)
  lv : Nat
  lvl : List Nat
  lam : Bool
  nc : Nat
  lk : Nat → Arguments → Expr → Scope → Bool
def visB (sc : Scope) (x : Str) : Bool := sc.names.lookup x == some .local || sc.names.lookup x == some .cell || sc.names.lookup x == some .free
def GOk (X : Cx) (Z : Zt) (x : Str) : Gv → Prop
  | .int i => ∃ t, X.mg x = some (.int i t)
  | .str s => ∃ t, X.mg x = some (.str s t)
  | .fn k => X.mg x = some (.ref (Z.fa k))
  | .cls c => X.mg x = some (.ref (Z.ca c))
  | .free => X.mg x = none
structure XOk (X : Cx) (Z : Zt) (Γ : Gam) (Fs : List Fn) (Eo : XK) : Prop where
  hK : X.K = Z.K
  calm : X.calm = true
  hh : X.A.handled = none
  hu : X.A.units + 70 < cLine
  hg : X.A.guards = some []
  hN : X.N = Γ.N
  nd : Γ.N.Nodup
  vis : ∀ x, visB Γ.sc x = true → Vis X.env.scope x
  loc : ∀ x, (Γ.sc.names.lookup x = some .local ∨ Γ.sc.names.lookup x = some .cell) → Loc X.env.scope x ∧ (X.fn x = true ∨ X.env.scope.names.lookup x = some .local)
  bk : X.env.blockKind = .function
  fr : ∀ x, (Γ.sc.names.lookup x = some .cell ∨ Γ.sc.names.lookup x = some .free) → (X.env.scope.names.lookup x = some .cell ∨ X.env.scope.names.lookup x = some .free)
  fl : Γ.lvl.length ≤ Fs.length
  ko : ∀ x k, Γ.sc.names.lookup x = some k → (k = .local ∨ k = .cell) → X.env.kindOf x = some k
  gl : ∀ x, Γ.sc.names.lookup x = some .globalImplicit → Gl X x
  gv : ∀ x g, Γ.G.lookup x = some g → GOk X Z x g
  room : Room Γ.lv X.A
  fns : ∀ k f l, Fs[k]? = some f → Γ.lvl[k]? = some l → FnX X.prog X.w X.K X.mg X.base Z l k f
  px : Passes (L2.CX X.prog X.w) X Eo
  lm : Γ.lam = true → LamOk X Z
  zl : Γ.lam = true → Z.lq = X.env.qual ++ "<lambda>" ∧ Z.lcl = X.env.cells ∧ ∀ k ps b sc, Γ.lk k ps b sc = true → Z.lg k ps b sc
  er : 0 < Γ.nc → ErrD X.K Z Γ.nc
/-- a def as a thing that is called -/
theorem FnX.callR {X : Cx} {Z : Zt} {l k : Nat} {f : Fn} {E : XK} (F : FnX X.prog X.w X.K X.mg X.base Z l k f) (hr : Room l X.A) (hg : X.A.guards = some []) (hx : Passes (L2.CX X.prog X.w) X E) : CallR X (.ref (Z.fa k)) fun vs H Q => spF Z f vs H Q E := by
  obtain ⟨⟨fd, ps, G, hb⟩, _⟩ := F
  intro pins s σ H vs us Q I r h
  have hl : (us ++ []).length = ps.length := by
    rw [List.append_nil, ← r.length]
    exact G.len _ _ _ _ h
  have hb2 := hb s us I.kIn hl
  rw [List.append_nil] at hb2
  refine wpAny_call (codeAny_mono (G.run X.A X.stack s H ⟨us, []⟩ us vs Q E hr hg I.env0 hb2 r h) fun z s2 hq => ?_)
  cases z with
  | error e => exact hx pins σ H s e s2 I hq
  | ok fl =>
    cases fl with
    | ret u => exact I.after hq
    | next => exact False.elim hq
    | brk => exact False.elim hq
    | cont => exact False.elim hq
section
variable {X : Cx} {r : List V → Hp → VK → Prop} {f : Addr} {x : Str} {p pos : Pos} {e : Expr} {es : List Expr} {t : TA}
theorem pe_callG (hc : CallR X (.ref f) r) (hg : Gl X x) (hm : X.mg x = some (.ref f)) (hk : PySem.W.keepIn X.K (.ref f) = true) (ha : PA X (e :: es) t) (hdb : (x == ("__debug__" : Str)) = false)
    (he : starEach (e :: es) X.env = (false, eval e X.env) :: starEach es X.env) (hpl : (backTo pos (starEach es X.env)).any (·.1) = false) : PE X (.Call (.Name x p) (e :: es) [] pos) (tCB r t) := by
  refine ⟨fun pins s σ H Q I h => ?_⟩
  refine wpAny_Call_Name_kw (ld_glob I hg hm ?_ hdb)
  exact PySem.W.callWith_K (h₀ := X.base) I.ok.mod.kin hk (thn (ha.run pos pins s σ H _ I h) fun us s1 ⟨vs, H1, I1, r1, q1⟩ => ⟨I1.kIn, hc pins s1 σ H1 vs us Q I1 r1 q1⟩) he hpl
/-- a call of what a slot holds -/
theorem pe_callS {i : Nat} (hN : X.N[i]? = some x) (hv : Vis X.env.scope x) (ha : PA X (e :: es) t) (rr : Addr → List V → Hp → VK → Prop) (hc : ∀ f, PySem.W.keepIn X.K (.ref f) = true → CallR X (.ref f) (rr f)) (hdb : (x == ("__debug__" : Str)) = false) (hcd : (x == ("__classdict__" : Str)) = false)
    (he : starEach (e :: es) X.env = (false, eval e X.env) :: starEach es X.env) (hpl : (backTo pos (starEach es X.env)).any (·.1) = false) :
    PE X (.Call (.Name x p) (e :: es) [] pos) (fun σ H Q => ∃ f, σ[i]? = some (some (.ref f)) ∧ PySem.W.keepIn X.K (.ref f) = true ∧ tCB (rr f) t σ H Q) := by
  refine ⟨fun pins s σ H Q I h => ?_⟩
  obtain ⟨f, hs, hk, ht⟩ := h
  refine wpAny_Call_Name_kw (thn ((pe_var (pos := p) hN hv hdb hcd).run pins s σ H (fun v H1 => v = .ref f ∧ H1 = H) I ⟨.ref f, hs, rfl, rfl⟩) fun u s1 ⟨v, H1, I1, r1, q1⟩ => ?_)
  obtain ⟨rfl, rfl⟩ := q1
  cases r1
  exact PySem.W.callWith_K (h₀ := X.base) I.ok.mod.kin hk (thn (ha.run pos pins s1 σ _ _ I1 ht) fun us s2 ⟨vs, H2, I2, r2, q2⟩ => ⟨I2.kIn, hc f hk pins s2 σ H2 vs us Q I2 r2 q2⟩) he hpl
end
/-! ### what the text's forms ask -/
def unst : Expr → Bool
  | .Starred _ _ => false
  | _ => true
theorem star_one {e : Expr} {es : List Expr} {env : Env} (h : unst e = true) : starEach (e :: es) env = (false, eval e env) :: starEach es env := by
  cases e <;> first | rfl | cases h
theorem star_all {env : Env} {pos : Pos} : ∀ {es : List Expr}, es.all unst = true → (backTo pos (starEach es env)).any (·.1) = false
  | [], _ => rfl
  | e :: es, h => by
    simp only [List.all_cons, Bool.and_eq_true] at h
    rw [star_one h.1]
    show (false || (backTo pos (starEach es env)).any (·.1)) = false
    rw [star_all h.2]
    rfl
theorem assign_one {e : Expr} {es : List Expr} {env : Env} (h : unst e = true) : assignEach (e :: es) env = (false, assign e env) :: assignEach es env := by
  cases e <;> first | rfl | cases h
end Ev

/-! One term, then whatever follows. -/
namespace Ev
open L2 PyProof.Rows PySem PySem.Spec
section
variable {Z : Zt} {Eo : XK} {σ : Sx} {p q r : Pt}
/-- what is wanted of an error behind p -/
def ErD (Z : Zt) (Eo : XK) (σ : Sx) (p : Pt) (c : Nat) (v : PyData) (M : Mem) : Prop := ∀ (q : Pt) da, Post (Own p.ρ σ) no1 p.F p.φ p.H q.F q.φ q.H → Err Z c v M q da → Eo (.ref (Z.ca c)) (some da) q.H
/-- a word about what comes: it holds at later places too -/
structure Gd (Z : Zt) (Eo : XK) (σ : Sx) {β : Type} (G : Pt → Rz β → Prop) : Prop where
  er : ∀ p c v M, p.Sim Z σ → G p (.er c v M) → ErD Z Eo σ p c v M
  bs : ∀ p q z, p.Sim Z σ → q.Sim Z σ → Via σ p q → G p z → G q z
theorem ErD.rebase {c : Nat} {v : PyData} {M : Mem} (sp : p.Sim Z σ) (x : Via σ p q) (d : ErD Z Eo σ p c v M) : ErD Z Eo σ q c v M := fun s da y e => d s da (x.posts sp y) e
theorem gdE {Q : VK} : Gd Z Eo σ fun p (z : Rz Vl) => Done Z Eo σ p Q z := ⟨fun _ _ _ _ _ h => h, fun _ _ _ sp _ x d => d.rebase sp x⟩
theorem gdT {Q : Bool → Hp → Prop} : Gd Z Eo σ fun p (z : Rz Vl) => DoneT Z Eo σ p Q z := ⟨fun _ _ _ _ _ h => h, fun _ _ _ sp _ x d => d.rebase sp x⟩
theorem gdL {Q : List V → Hp → Prop} : Gd Z Eo σ fun p (z : Rz Ls) => DoneL Z Eo σ p Q z := ⟨fun _ _ _ _ _ h => h, fun _ _ _ sp _ x d => d.rebase sp x⟩
theorem sqE {β : Type} {G : Pt → Rz β → Prop} (g : Gd Z Eo σ G) {f : Nv → Mem → RE} {k : Vl → Option (Rz β)} {z : Rz β} {Q1 : VK} (sp : p.Sim Z σ) (h : bz (f p.ρ p.M) k = some z) (d : G p z)
    (hk : ∀ (d : D) (m : Md) (q : Pt) (v : V), k ⟨d, m, q.ρ, q.M⟩ = some z → Via σ p q → q.Sim Z σ → RepT Z p.H q.ρ σ q.F q.φ q.H m v d → G q z → Q1 v q.H) : tE Z Eo f σ p.H Q1 := by
  cases e : f p.ρ p.M with
  | none => rw [e] at h; cases h
  | some y =>
    rw [e] at h
    refine ⟨p, rfl, sp, y, e, ?_⟩
    cases y with
    | ok x =>
      obtain ⟨x1, x2, x3, x4⟩ := x
      intro q v e1 e2 y sy rep
      cases e1
      cases e2
      exact hk _ _ q v h y sy rep (g.bs _ _ _ sp sy y d)
    | er c v M =>
      have hz : z = .er c v M := (Option.some.inj h).symm
      subst hz
      exact g.er _ _ _ _ sp d
theorem sqL {β : Type} {G : Pt → Rz β → Prop} (g : Gd Z Eo σ G) {f : Nv → Mem → RL} {k : Ls → Option (Rz β)} {z : Rz β} {Q1 : List V → Hp → Prop} (sp : p.Sim Z σ) (h : bz (f p.ρ p.M) k = some z) (d : G p z)
    (hk : ∀ (ds : List (D × Md)) (q : Pt) (vs : List V), k ⟨ds, q.ρ, q.M⟩ = some z → Via σ p q → q.Sim Z σ → RepTs Z p.H q.ρ σ q.F q.φ q.H vs ds → G q z → Q1 vs q.H) : tL Z Eo f σ p.H Q1 := by
  cases e : f p.ρ p.M with
  | none => rw [e] at h; cases h
  | some y =>
    rw [e] at h
    refine ⟨p, rfl, sp, y, e, ?_⟩
    cases y with
    | ok x =>
      obtain ⟨x1, x2, x3⟩ := x
      intro q v e1 e2 y sy rep
      cases e1
      cases e2
      exact hk _ q v h y sy rep (g.bs _ _ _ sp sy y d)
    | er c v M =>
      have hz : z = .er c v M := (Option.some.inj h).symm
      subst hz
      exact g.er _ _ _ _ sp d
/-- a test -/
theorem sqT {β : Type} {G : Pt → Rz β → Prop} (g : Gd Z Eo σ G) {f : Nv → Mem → RE} {k : Vl → Bool → Option (Rz β)} {z : Rz β} {Q1 : Bool → Hp → Prop} (sp : p.Sim Z σ) (h : bz (f p.ρ p.M) (fun x => ob (tru x.d) (k x)) = some z) (d : G p z)
    (hk : ∀ (d : D) (m : Md) (b : Bool) (q : Pt), tru d = some b → k ⟨d, m, q.ρ, q.M⟩ b = some z → Via σ p q → q.Sim Z σ → G q z → Q1 b q.H) : tT Z Eo f σ p.H Q1 := by
  cases e : f p.ρ p.M with
  | none => rw [e] at h; cases h
  | some y =>
    rw [e] at h
    refine ⟨p, rfl, sp, y, e, ?_⟩
    cases y with
    | ok x =>
      obtain ⟨x1, x2, x3, x4⟩ := x
      obtain ⟨b, e1, e2⟩ := ob_some h
      refine ⟨b, e1, fun q e3 e4 y sy => ?_⟩
      cases e3
      cases e4
      exact hk _ _ b q e1 e2 y sy (g.bs _ _ _ sp sy y d)
    | er c v M =>
      have hz : z = .er c v M := (Option.some.inj h).symm
      subst hz
      exact g.er _ _ _ _ sp d
/-- done right here -/
theorem Done.at {Q : VK} {d : D} {m : Md} {v : V} (h : Done Z Eo σ p Q (.ok ⟨d, m, p.ρ, p.M⟩)) (sp : p.Sim Z σ) (r : RepT Z p.H p.ρ σ p.F p.φ p.H m v d) : Q v p.H := h p v rfl rfl Via.refl sp r
theorem Done.sh {Q : VK} {d : D} {v : V} (h : Done Z Eo σ p Q (.ok ⟨d, .sh, p.ρ, p.M⟩)) (sp : p.Sim Z σ) (r : Rep Z p.F p.φ p.H v d) : Q v p.H := h p v rfl rfl Via.refl sp r
end
theorem vl_some {d : D} {m : Md} {ρ : Nv} {M : Mem} {r : Rz Vl} (h : vl d m ρ M = some r) : r = .ok ⟨d, m, ρ, M⟩ := (Option.some.inj h).symm
theorem gi_some {β : Type} {d : D} {k : Int → Option β} {z : β} (h : gi d k = some z) : ∃ i, d = .py (.int i) ∧ k i = some z := by
  unfold gi at h
  split at h
  · exact ⟨_, rfl, h⟩
  · cases h
theorem gb_some {β : Type} {d : D} {k : Bool → Option β} {z : β} (h : gb d k = some z) : ∃ i, d = .py (.bool i) ∧ k i = some z := by
  unfold gb at h
  split at h
  · exact ⟨_, rfl, h⟩
  · cases h
theorem if_some {α : Type} {c : Prop} [Decidable c] {x : Option α} {z : α} (h : (if c then x else none) = some z) : c ∧ x = some z := by
  split at h
  · exact ⟨‹_›, h⟩
  · cases h
end Ev

/-! Single terms. -/
namespace Ev
open L2 PyProof.Rows PySem PySem.Spec
section
variable {X : Cx} {Z : Zt} {Γ : Gam} {Fs : List Fn} {C : Nv → Clo} {Eo : XK}
/-- a value at hand -/
theorem s_here {e : Expr} {t : TE} {f : Nv → Mem → RE} (hp : PE X e t) (h : ∀ (σ : Sx) (p : Pt) (Q : VK), p.Sim Z σ → ∀ r, f p.ρ p.M = some r → Done Z Eo σ p Q r → t σ p.H Q) : PE X e (tE Z Eo f) :=
  PE.imp hp fun σ H Q q => by
    obtain ⟨p, rfl, sp, r, hr, d⟩ := q
    exact h σ p Q sp r hr d
def litOk : PyData → Expr → Bool
  | .int i, .Constant (.int j) _ _ => i == j
  | .str s, .Constant (.str t) _ _ => s == t
  | .bool b, .Constant (.bool c) _ _ => b == c
  | .none, .Constant .none _ _ => true
  | _, _ => false
theorem s_lit {l : PyData} {e : Expr} (h : litOk l e = true) : PE X e (tE Z Eo (evE Fs C (.lit l))) := by
  unfold litOk at h
  split at h
  · cases beq_iff_eq.mp h
    exact s_here pe_int fun σ p Q sp r hr d => by
      unfold evE at hr
      rw [vl_some hr] at d
      exact d.sh sp (rInt _)
  · cases beq_iff_eq.mp h
    exact s_here pe_str fun σ p Q sp r hr d => by
      unfold evE at hr
      rw [vl_some hr] at d
      exact d.sh sp (rStr _)
  · cases beq_iff_eq.mp h
    exact s_here pe_bl fun σ p Q sp r hr d => by
      unfold evE at hr
      rw [vl_some hr] at d
      exact d.sh sp (rBl _)
  · exact s_here pe_non fun σ p Q sp r hr d => by
      unfold evE at hr
      rw [vl_some hr] at d
      exact d.sh sp (.py .non)
  · cases h
def nmOk (x : Str) : Bool := !(x == ("__debug__" : Str)) && !(x == ("__classdict__" : Str)) && !(x == ("__name__" : Str))
theorem nm_all {x : Str} (h : nmOk x = true) : (x == ("__debug__" : Str)) = false ∧ (x == ("__classdict__" : Str)) = false ∧ x ≠ "__name__" := by
  unfold nmOk at h
  simp only [Bool.and_eq_true, Bool.not_eq_true'] at h
  exact ⟨h.1.1, h.1.2, fun e => by
    have := h.2
    rw [e] at this
    simp at this⟩
/-- the name of slot i -/
def varOk (Γ : Gam) (i : Nat) (x : Str) : Bool := decide (Γ.N[i]? = some x) && visB Γ.sc x && nmOk x
theorem varOk_ok {i : Nat} {x : Str} (ok : XOk X Z Γ Fs Eo) (h : varOk Γ i x = true) : X.N[i]? = some x ∧ Vis X.env.scope x ∧ nmOk x = true := by
  unfold varOk at h
  simp only [Bool.and_eq_true, decide_eq_true_eq] at h
  exact ⟨by rw [ok.hN]; exact h.1.1, ok.vis x h.1.2, h.2⟩
theorem s_var {i : Nat} {x : Str} {pos : Pos} (ok : XOk X Z Γ Fs Eo) (h : varOk Γ i x = true) : PE X (.Name x pos) (tE Z Eo (evE Fs C (.var i))) := by
  obtain ⟨h1, h2, h3⟩ := varOk_ok ok h
  refine s_here (pe_var (i := i) h1 h2 (nm_all h3).1 (nm_all h3).2.1) fun σ p Q sp r hr d => ?_
  unfold evE at hr
  split at hr
  · rename_i d0 e
    rw [vl_some hr] at d
    obtain ⟨a, e1, r1, _⟩ := sp.l.ow i d0 e
    exact ⟨_, e1, d.at sp ⟨e1, true, e⟩⟩
  · rename_i d0 e
    rw [vl_some hr] at d
    obtain ⟨v, e1, r1⟩ := sp.l.sh i d0 e
    exact ⟨_, e1, d.sh sp r1⟩
  · cases hr
/-- a global name -/
def glB (Γ : Gam) (x : Str) (g : Gv) : Bool := decide (Γ.sc.names.lookup x = some .globalImplicit) && nmOk x && decide (Γ.G.lookup x = some g)
theorem glB_ok {x : Str} {g : Gv} (ok : XOk X Z Γ Fs Eo) (h : glB Γ x g = true) : Gl X x ∧ nmOk x = true ∧ GOk X Z x g := by
  unfold glB at h
  simp only [Bool.and_eq_true, decide_eq_true_eq] at h
  exact ⟨ok.gl x h.1.1, h.1.2, ok.gv x g h.2⟩
theorem s_gli {i : Int} {x : Str} {pos : Pos} (ok : XOk X Z Γ Fs Eo) (h : glB Γ x (.int i) = true) : PE X (.Name x pos) (tE Z Eo (evE Fs C (.gli x i))) := by
  obtain ⟨h1, h2, t, h3⟩ := glB_ok ok h
  exact s_here (pe_glob (v := .int i) h1 h3 ⟨t, rfl⟩ (nm_all h2).1) fun σ p Q sp r hr d => by
    unfold evE at hr
    rw [vl_some hr] at d
    exact d.sh sp (rInt _)
theorem s_gls {z : Str} {x : Str} {pos : Pos} (ok : XOk X Z Γ Fs Eo) (h : glB Γ x (.str z) = true) : PE X (.Name x pos) (tE Z Eo (evE Fs C (.gls x z))) := by
  obtain ⟨h1, h2, t, h3⟩ := glB_ok ok h
  exact s_here (pe_glob (v := .str z) h1 h3 ⟨t, rfl⟩ (nm_all h2).1) fun σ p Q sp r hr d => by
    unfold evE at hr
    rw [vl_some hr] at d
    exact d.sh sp (rStr _)
theorem s_glf {k : Nat} {x : Str} {pos : Pos} (ok : XOk X Z Γ Fs Eo) (h : glB Γ x (.fn k) = true) : PE X (.Name x pos) (tE Z Eo (evE Fs C (.glf k))) := by
  obtain ⟨h1, h2, h3⟩ := glB_ok ok h
  exact s_here (pe_glob (v := .ref (Z.fa k)) h1 h3 rfl (nm_all h2).1) fun σ p Q sp r hr d => by
    unfold evE at hr
    rw [vl_some hr] at d
    exact d.sh sp (.fn k)
/-! ### rows of terms -/
theorem s_nil : PA X [] (tL Z Eo (evL Fs C .nil)) := PA.imp pa_nil fun σ H Q q => by
  obtain ⟨p, rfl, sp, r, hr, d⟩ := q
  unfold evL at hr
  cases hr
  exact d p [] rfl rfl Via.refl sp trivial
theorem RepT.nofr {H0 : Hp} {ρ : Nv} {σ : Sx} {F : Addr → Prop} {φ : List Addr} {H : Hp} {v : V} {d : D} {a : Addr} (h : RepT Z H0 ρ σ F φ H .fr v d) (e : v = .ref a) : H a ≠ none := by
  obtain ⟨b, rfl, r, _⟩ := h
  cases e
  obtain ⟨vs, hv⟩ := r.lst
  rw [hv]
  exact fun z => by cases z
theorem RepTs.at {H0 : Hp} {ρ : Nv} {σ : Sx} {F : Addr → Prop} {φ : List Addr} {H : Hp} : ∀ {vs : List V} {ds : List (D × Md)} {j : Nat} {d : D × Md} {v : V}, RepTs Z H0 ρ σ F φ H vs ds → ds[j]? = some d → vs[j]? = some v → RepT Z H0 ρ σ F φ H d.2 v d.1
  | _ :: _, _ :: _, 0, _, _, h, e1, e2 => by
    simp at e1 e2
    subst e1
    subst e2
    exact h.1
  | _ :: _, _ :: _, j + 1, _, _, h, e1, e2 => RepTs.at (j := j) h.2.2 (by simpa using e1) (by simpa using e2)
  | [], _ :: _, _, _, _, h, _, _ => h.elim
  | _ :: _, [], _, _, _, h, _, _ => h.elim
  | [], [], _, _, _, _, e, _ => by simp at e
theorem s_cons {e : Expr} {es : List Expr} {a : E} {as : Es} (hu : unst e = true) (ha : PE X e (tE Z Eo (evE Fs C a))) (hs : PA X es (tL Z Eo (evL Fs C as))) : PA X (e :: es) (tL Z Eo (evL Fs C (.cons false a as))) := by
  refine PA.imp (pa_cons ha hs (star_one hu)) fun σ H Q q => ?_
  obtain ⟨p, rfl, sp, z, hz, d⟩ := q
  unfold evL at hz
  refine sqE gdL sp hz d fun x m q v h1 via sq rx d1 => ?_
  refine sqL gdL sq h1 d1 fun ds t vs h2 via2 st ry d2 => ?_
  cases h2
  refine d t (v :: vs) rfl rfl (via.trans sp via2) st ⟨RepT.via sq rx via2, fun b e1 e2 j d' hj hf hv => ?_, RepTs.from via.post.dom ry⟩
  have w := ry.at hj hv
  rw [hf] at w
  obtain ⟨b', e3, _, _, _, _, n⟩ := w
  cases e3
  have e1 : m = .fr := e1
  subst e1
  exact RepT.nofr rx e2 n
/-- *e among them -/
theorem reps_ts {F : Addr → Prop} {φ : List Addr} {H : Hp} {H0 : Hp} {ρ : Nv} {σ : Sx} : ∀ {vs : List V} {ds : List D} {ws : List V} {es : List (D × Md)}, Reps Z F φ H vs ds → RepTs Z H0 ρ σ F φ H ws es → RepTs Z H0 ρ σ F φ H (vs ++ ws) (ds.map (fun x => (x, Md.sh)) ++ es)
  | _, _, _, _, .nil, h => h
  | _, _, _, _, .cons r t, h => by
    refine ⟨r, fun a e => ?_, reps_ts t h⟩
    cases e
theorem seq_of {F : Addr → Prop} {φ : List Addr} {H : Hp} {v : V} {d : D} {ds : List D} (r : RepR Z F φ H v d) (h : items d = some ds) : ∃ a vs, v = .ref a ∧ ((SqT Z.K H a vs ∧ isLst d = false) ∨ (SqL Z.K H a vs ∧ isLst d = true)) ∧ Reps Z F φ H vs ds := by
  unfold items at h
  split at h
  · cases h
    obtain ⟨a, vs, rfl, e, rs⟩ := r.tup
    exact ⟨a, vs, rfl, .inl ⟨SqT.of e, rfl⟩, rs.reps⟩
  · cases h
    obtain ⟨a, vs, rfl, e, rs⟩ := r.lst
    exact ⟨a, vs, rfl, .inr ⟨SqL.of e, rfl⟩, rs.reps⟩
  · cases h
    obtain ⟨a, vs, rfl, e, rs⟩ := r.mt
    exact ⟨a, vs, rfl, .inl ⟨SqT.of e, rfl⟩, rs⟩
  · cases h
    obtain ⟨a, vs, rfl, e, rs⟩ := r.ml
    exact ⟨a, vs, rfl, .inr ⟨SqL.of e, rfl⟩, rs⟩
  · cases h
theorem s_star (hK : X.K = Z.K) {e : Expr} {es : List Expr} {a : E} {as : Es} {pos : Pos} (ha : PE X e (tE Z Eo (evE Fs C a))) (hs : PA X es (tL Z Eo (evL Fs C as))) : PA X (.Starred e pos :: es) (tL Z Eo (evL Fs C (.cons true a as))) := by
  refine PA.imp (StX.pa_star ha hs) fun σ H Q q => ?_
  obtain ⟨p, rfl, sp, z, hz, d⟩ := q
  unfold evL at hz
  refine sqE gdL sp hz d fun x m q v h1 via sq rx d1 => ?_
  obtain ⟨xs, hx, h1⟩ := ob_some h1
  obtain ⟨b, vs, rfl, hq, rs⟩ := seq_of (rx.r sq.l) hx
  refine ⟨b, vs, rfl, by rw [hK]; exact hq.imp (·.1) (·.1), sqL gdL sq h1 d1 fun ds t ws h2 via2 st ry d2 => ?_⟩
  cases h2
  exact d t (vs ++ ws) rfl rfl (via.trans sp via2) st (reps_ts (rs.stay (via2.post.stayE sq.g)) (RepTs.from via.post.dom ry))
/-! ### new rows -/
theorem s_tup {es : List Expr} {as : Es} {k : Nat} {pos : Pos} (hs : PA X es (tL Z Eo (evL Fs C as))) : PE X (.Tuple es k pos) (tE Z Eo (evE Fs C (.tup as))) := by
  refine PE.imp (pe_tup hs) fun σ H Q q => ?_
  obtain ⟨p, rfl, sp, z, hz, d⟩ := q
  unfold evE at hz
  refine sqL gdE sp hz d fun ds q vs h1 via sq rs d1 => ?_
  obtain ⟨hl, h1⟩ := if_some h1
  obtain ⟨F', mo, x, s', r⟩ := gives (ρ := q.ρ) (F := q.F) via sp sq rs
  have el := r.len
  rw [List.length_map] at el
  have d2 := Done.rebase sp x d
  rw [vl_some h1] at d2
  exact ⟨by rw [el]; exact hl, fun b hb => New.done (p := ⟨fzs ds q.ρ, q.M, F', q.φ, q.H⟩) (fr := false) (.tup hb (Reps.mkT (r.stay (stay_upd hb)) upd_same)) s' d2⟩
theorem s_lst {es : List Expr} {as : Es} {pos : Pos} (hs : PA X es (tL Z Eo (evL Fs C as))) : PE X (.List es pos) (tE Z Eo (evE Fs C (.lst as))) := by
  refine PE.imp (pe_lst hs) fun σ H Q q => ?_
  obtain ⟨p, rfl, sp, z, hz, d⟩ := q
  unfold evE at hz
  refine sqL gdE sp hz d fun ds q vs h1 via sq rs d1 => ?_
  obtain ⟨hl, h1⟩ := if_some h1
  obtain ⟨F', mo, x, s', r⟩ := gives (ρ := q.ρ) (F := q.F) via sp sq rs
  have el := r.len
  rw [List.length_map] at el
  have d2 := Done.rebase sp x d
  rw [vl_some h1] at d2
  exact ⟨by rw [el]; exact hl, fun b hb => New.done (p := ⟨fzs ds q.ρ, q.M, F', q.φ, q.H⟩) (fr := true) (.lst hb (Reps.mkL (r.stay (stay_upd hb)) upd_same)) s' d2⟩
/-- a cell of the memory -/
theorem s_cell {es : List Expr} {as : Es} {pos : Pos} (hs : PA X es (tL Z Eo (evL Fs C as))) : PE X (.List es pos) (tE Z Eo (evE Fs C (.cell as))) := by
  refine PE.imp (pe_lst hs) fun σ H Q q => ?_
  obtain ⟨p, rfl, sp, z, hz, d⟩ := q
  unfold evE at hz
  refine sqL gdE sp hz d fun ds q vs h1 via sq rs d1 => ?_
  obtain ⟨ps, hp, h1⟩ := ob_some h1
  obtain ⟨hl, h1⟩ := if_some h1
  obtain ⟨F', mo, x, s', r⟩ := gives (ρ := q.ρ) (F := q.F) via sp sq rs
  have rp := r.all hp
  have d2 := Done.rebase sp x d
  rw [vl_some h1] at d2
  refine ⟨by rw [rp.len]; exact hl, fun b hb => ?_⟩
  obtain ⟨f1, f2⟩ := s'.g.free hb
  have st : Stay F' q.φ q.H F' (q.φ ++ [b]) (upd q.H b (.lst vs)) := ⟨fun _ h => h, fun c o _ h _ => by rw [upd_ne (ne_of_none h hb)]; exact h, fun c o h => by rw [upd_ne (ne_of_none h hb)]; exact h, fun c o u h => by rw [upd_ne (ne_of_none h hb)]; exact h, fun c f h => by rw [upd_ne (ne_of_none h hb)]; exact h, ⟨[b], rfl⟩⟩
  have po : Post no1 no1 F' q.φ q.H F' (q.φ ++ [b]) (upd q.H b (.lst vs)) := ⟨⟨[b], rfl, fun c hc => by rw [List.mem_singleton.mp hc]; exact hb⟩, fun c o h _ _ _ => by rw [upd_ne (ne_of_none h hb)]; exact h, fun _ h => h, fun _ h => .inl h, fun c e => by
    by_cases hc : c = b
    · rw [hc, upd_same] at e
      cases e
    · rw [upd_ne hc] at e
      exact e⟩
  refine d2 ⟨fzs ds q.ρ, q.M ++ [ps], F', q.φ ++ [b], upd q.H b (.lst vs)⟩ (.ref b) rfl rfl ⟨po.mono' (fun _ h => h.elim) (fun _ h => h), Fz.refl _⟩ ⟨⟨fun c hc => ?_, ?_, fun n qs hn => ?_, ?_, s'.g.tab.ext fun c o e => (upd_ne (ne_of_none e hb)).trans e⟩, s'.l.post po s'.g⟩ (.cel ?_)
  · obtain ⟨g1, g2⟩ := s'.g.dom c hc
    refine ⟨fun z => g1 (po.dom c z), fun z => ?_⟩
    rcases List.mem_append.mp z with z | z
    · exact g2 z
    · rw [List.mem_singleton.mp z] at hc
      exact f1 hc
  · rw [List.length_append, List.length_append, s'.g.len]
    rfl
  · by_cases hn2 : n < q.M.length
    · rw [List.getElem?_append_left hn2] at hn
      obtain ⟨a, us, e1, e2, e3⟩ := s'.g.cell n qs hn
      refine ⟨a, us, ?_, ?_, e3.stay st⟩
      · rw [List.getElem?_append_left (by rw [s'.g.len]; exact hn2)]
        exact e1
      · exact (upd_ne (ne_of_none e2 hb)).trans e2
    · have e : n = q.M.length := by
        have := (List.getElem?_eq_some_iff.mp hn).1
        rw [List.length_append] at this
        simp at this
        omega
      subst e
      have hn' : [ps][0]? = some qs := by simpa [List.getElem?_append_right] using hn
      cases hn'
      exact ⟨b, vs, by rw [← s'.g.len]; simp, upd_same, rp.stay st⟩
  · refine List.nodup_append.mpr ⟨s'.g.nd, by simp, fun c hc c' hc' => ?_⟩
    rw [List.mem_singleton.mp hc']
    exact fun z => f2 (z ▸ hc)
  · show (q.φ ++ [b])[q.M.length]? = some b
    rw [← s'.g.len]
    simp
/-! ### numbers, truth -/
theorem s_neg {a : E} {e : Expr} {pos : Pos} (ha : PE X e (tE Z Eo (evE Fs C a))) : PE X (.UnaryOp .USub e pos) (tE Z Eo (evE Fs C (.neg a))) := by
  refine PE.imp (pe_un un_neg ha) fun σ H Q q => ?_
  obtain ⟨p, rfl, sp, z, hz, d⟩ := q
  unfold evE at hz
  refine sqE gdE sp hz d fun x m q v h1 via sq rx d1 => ?_
  obtain ⟨i, rfl, h1⟩ := gi_some h1
  rw [vl_some h1] at d1
  exact ⟨i, (rx.r sq.l).int, d1.sh sq (rInt _)⟩
theorem s_not (hK : X.K = Z.K) {a : E} {e : Expr} {pos : Pos} (ha : PE X e (tE Z Eo (evE Fs C a))) : PE X (.UnaryOp .Not e pos) (tE Z Eo (evE Fs C (.not a))) := by
  refine PE.imp (pe_notT ha) fun σ H Q q => ?_
  obtain ⟨p, rfl, sp, z, hz, d⟩ := q
  unfold evE at hz
  refine sqE gdE sp hz d fun x m q v h1 via sq rx d1 => ?_
  obtain ⟨b, e1, h1⟩ := ob_some h1
  rw [vl_some h1] at d1
  exact ⟨b, by rw [hK]; exact tru_ok' (rx.r sq.l) e1, d1.sh sq (rBl _)⟩
/-- a test's value read as a value's truth -/
theorem tT_of {σ : Sx} {p : Pt} {Q : Bool → Hp → Prop} {f : Nv → Mem → RE} {z : Rz Vl} (sp : p.Sim Z σ) (hz : f p.ρ p.M = some z) (d : DoneT Z Eo σ p Q z) {Q1 : VK} (k : ∀ v (q : Pt) (x : D) (b : Bool), RepR Z q.F q.φ q.H v x → tru x = some b → Q b q.H → Q1 v q.H) : tE Z Eo f σ p.H Q1 := by
  refine ⟨p, rfl, sp, z, hz, ?_⟩
  cases z with
  | ok r =>
    obtain ⟨b, e, d⟩ := d
    exact fun q v e1 e2 y sy rep => k v q _ b (by
      have w := rep
      rw [← e1] at w
      exact w.r sy.l) e (d q e1 e2 y sy)
  | er c v M => exact d
theorem pt_of (hK : X.K = Z.K) {e : Expr} {f : Nv → Mem → RE} (he : PE X e (tE Z Eo f)) (hi : ∀ whole, isTrue e X.env whole = (do let v ← whole; standAt e.pos; holding [v] (truthy v))) : PT X e (tT Z Eo f) :=
  PT.imp (pt_truth he hi) fun σ H Q q => by
    obtain ⟨p, rfl, sp, z, hz, d⟩ := q
    exact tT_of sp hz d fun v q x b r e k => ⟨b, by rw [hK]; exact tru_ok' r e, k⟩
theorem s_ite {c a b : E} {e1 e2 e3 : Expr} {pos : Pos} (hc : PT X e1 (tT Z Eo (evE Fs C c))) (ha : PE X e2 (tE Z Eo (evE Fs C a))) (hb : PE X e3 (tE Z Eo (evE Fs C b))) : PE X (.IfExp e1 e2 e3 pos) (tE Z Eo (evE Fs C (.ite c a b))) := by
  refine PE.imp (pe_ifExp hc ha hb) fun σ H Q q => ?_
  obtain ⟨p, rfl, sp, z, hz, d⟩ := q
  unfold evE at hz
  refine sqT gdE sp hz d fun x m t q _ h1 via sq d1 => ?_
  cases t with
  | true => exact ⟨q, rfl, sq, z, h1, d1⟩
  | false => exact ⟨q, rfl, sq, z, h1, d1⟩
end
end Ev

/-! Comparisons, subscripts, calls. -/
namespace Ev
open L2 PyProof.Rows PySem PySem.Spec
section
variable {X : Cx} {Z : Zt} {Γ : Gam} {Fs : List Fn} {C : Nv → Clo} {Eo : XK}
/-- a row of comparisons, the first term not yet -/
def evCmp (Fs : List Fn) (C : Nv → Clo) (f : Nv → Mem → RE) (os : List Cm) (es : Es) : Nv → Mem → RE := fun ρ M => bz (f ρ M) fun x => evC Fs C os es x.d x.ρ x.M
def noSet : Expr → Bool
  | .Set _ _ _ => false
  | _ => true
theorem noSet_in {op : CmpOp} {e : Expr} (h : noSet e = true) : behindInMarks op e = false := by
  cases e <;> first | rfl | cases h
/-- a op b -/
theorem cmp_one {σ : Sx} {β : Type} {p : Pt} {G : Pt → Rz β → Prop} (g : Gd Z Eo σ G) {r : R2} {o : Cm} (hs : CmS Z r (cm o)) {f : Nv → Mem → RE} {b : E} {s : Bool} {z : Rz β} {Q1 : VK} (k : Vl → Option (Rz β)) (sp : p.Sim Z σ)
    (hz : bz (evCmp Fs C f [o] (.cons s b .nil) p.ρ p.M) k = some z) (d : G p z)
    (hk : ∀ (c : Bool) (q : Pt), k ⟨.py (.bool c), .sh, q.ρ, q.M⟩ = some z → Via σ p q → q.Sim Z σ → G q z → Q1 (.bl c) q.H) : tOp r (tE Z Eo f) (tE Z Eo (evE Fs C b)) σ p.H Q1 := by
  unfold evCmp at hz
  cases e : f p.ρ p.M with
  | none =>
    rw [e] at hz
    cases hz
  | some y =>
    rw [e] at hz
    have hz2 : bz (some y) (fun x => bz (evC Fs C [o] (.cons s b .nil) x.d x.ρ x.M) k) = some z := by
      cases y with
      | ok x => exact hz
      | er c v M => exact hz
    rw [← e] at hz2
    refine sqE g sp hz2 d fun x m q v h1 via sq rx d1 => ?_
    have h2 : bz (evE Fs C b q.ρ q.M) (fun y => bz (ob (cm o x y.d) fun c => vl (.py (.bool c)) .sh y.ρ y.M) k) = some z := by
      unfold evC at h1
      cases e2 : evE Fs C b q.ρ q.M with
      | none =>
        simp only [e2] at h1
        cases h1
      | some w =>
        simp only [e2] at h1
        cases w with
        | ok x => exact h1
        | er c v M => exact h1
    refine sqE g sq h2 d1 fun y m2 t w h3 via2 st ry d2 => ?_
    cases e3 : cm o x y with
    | none =>
      rw [e3] at h3
      cases h3
    | some c =>
      rw [e3] at h3
      exact hs t.F t.φ t.H v w x y c _ ((RepT.via sq rx via2).r st.l) (ry.r st.l) e3 (hk c t h3 (via.trans sp via2) st d2)
theorem bz_id {r : RE} : bz r (fun x => some (.ok x)) = r := by
  cases r with
  | none => rfl
  | some y => cases y <;> rfl
theorem s_cmp1 {r : R2} {o : Cm} (ho : OpR X (compareOp (cmE o)) r) (hs : CmS Z r (cm o)) {a b : E} {ea eb : Expr} {s : Bool} {pos : Pos} (hb' : noSet eb = true) (ha : PE X ea (tE Z Eo (evE Fs C a))) (hb : PE X eb (tE Z Eo (evE Fs C b))) :
    PE X (.Compare ea [cmE o] [eb] pos) (tE Z Eo (evE Fs C (.cmp a [o] (.cons s b .nil)))) := by
  refine PE.imp (pe_cmpR ho ha hb (noSet_in hb')) fun σ H Q q => ?_
  obtain ⟨p, rfl, sp, z, hz, d⟩ := q
  unfold evE at hz
  refine cmp_one gdE hs (s := s) (fun x => some (.ok x)) sp (by rw [bz_id]; exact hz) d fun c q e via sq d1 => ?_
  cases e
  exact d1.sh sq (rBl _)
theorem t_cmp1 {r : R2} {o : Cm} (ho : OpR X (compareOp (cmE o)) r) (hs : CmS Z r (cm o)) {a b : E} {ea eb : Expr} {s : Bool} {pos : Pos} (hb' : noSet eb = true) (ha : PE X ea (tE Z Eo (evE Fs C a))) (hb : PE X eb (tE Z Eo (evE Fs C b))) :
    PT X (.Compare ea [cmE o] [eb] pos) (tT Z Eo (evE Fs C (.cmp a [o] (.cons s b .nil)))) := by
  refine PT.imp (pt_cmpR ho ha hb (noSet_in hb')) fun σ H Q q => ?_
  obtain ⟨p, rfl, sp, z, hz, d⟩ := q
  unfold evE at hz
  refine cmp_one gdT hs (s := s) (fun x => some (.ok x)) sp (by rw [bz_id]; exact hz) d fun c q e via sq d1 => ⟨c, rfl, ?_⟩
  cases e
  obtain ⟨b, e, k⟩ := d1
  cases e
  exact k q rfl rfl Via.refl sq
/-- a op b op c -/
theorem cmp_two {σ : Sx} {β : Type} {p : Pt} {G : Pt → Rz β → Prop} (g : Gd Z Eo σ G) {r r' : R2} {o o' : Cm} (hs : CmS Z r (cm o)) (hs' : CmS Z r' (cm o')) {f : Nv → Mem → RE} {b c : E} {s s' : Bool} {z : Rz β} {Q1 : VK} (k : Vl → Option (Rz β)) (sp : p.Sim Z σ)
    (hz : bz (evCmp Fs C f [o, o'] (.cons s b (.cons s' c .nil)) p.ρ p.M) k = some z) (d : G p z)
    (hk : ∀ (c : Bool) (q : Pt), k ⟨.py (.bool c), .sh, q.ρ, q.M⟩ = some z → q.Sim Z σ → G q z → Q1 (.bl c) q.H) : tChain r r' (tE Z Eo f) (tE Z Eo (evE Fs C b)) (tE Z Eo (evE Fs C c)) σ p.H Q1 := by
  unfold evCmp at hz
  have hz2 : bz (f p.ρ p.M) (fun x => bz (evC Fs C [o, o'] (.cons s b (.cons s' c .nil)) x.d x.ρ x.M) k) = some z := by
    cases e : f p.ρ p.M with
    | none =>
      rw [e] at hz
      cases hz
    | some y =>
      rw [e] at hz
      cases y with
      | ok x => exact hz
      | er c v M => exact hz
  refine sqE g sp hz2 d fun x m q v h1 via sq rx d1 => ?_
  have h2 : bz (evE Fs C b q.ρ q.M) (fun y => bz (ob (cm o x y.d) fun t => if t = true then evC Fs C [o'] (.cons s' c .nil) y.d y.ρ y.M else vl (.py (.bool false)) .sh y.ρ y.M) k) = some z := by
    unfold evC at h1
    cases e2 : evE Fs C b q.ρ q.M with
    | none =>
      simp only [e2] at h1
      cases h1
    | some w =>
      simp only [e2] at h1
      cases w with
      | ok x => exact h1
      | er c v M => exact h1
  refine sqE g sq h2 d1 fun y m2 t w h3 via2 st ry d2 => ?_
  cases e3 : cm o x y with
  | none =>
    rw [e3] at h3
    cases h3
  | some t1 =>
    rw [e3] at h3
    refine hs t.F t.φ t.H v w x y t1 _ ((RepT.via sq rx via2).r st.l) (ry.r st.l) e3 ⟨t1, rfl, ?_⟩
    cases t1 with
    | false => exact hk false t h3 st d2
    | true =>
      have h4 : bz (evE Fs C c t.ρ t.M) (fun y' => bz (ob (cm o' y y'.d) fun c => vl (.py (.bool c)) .sh y'.ρ y'.M) k) = some z := by
        have h3 : bz (evC Fs C [o'] (.cons s' c .nil) y t.ρ t.M) k = some z := h3
        unfold evC at h3
        cases e2 : evE Fs C c t.ρ t.M with
        | none =>
          simp only [e2] at h3
          cases h3
        | some w =>
          simp only [e2] at h3
          cases w with
          | ok x => exact h3
          | er c v M => exact h3
      show tE Z Eo (evE Fs C c) σ t.H _
      refine sqE g st h4 d2 fun y' m3 u w' h5 via3 su ry' d3 => ?_
      cases e5 : cm o' y y' with
      | none =>
        rw [e5] at h5
        cases h5
      | some c2 =>
        rw [e5] at h5
        exact hs' u.F u.φ u.H w w' y y' c2 _ ((RepT.via st ry via3).r su.l) (ry'.r su.l) e5 (hk c2 u h5 su d3)
theorem lastM {op op' : CmpOp} {b c : Expr} (h : noSet c = true) : lastMarks [op, op'] [b, c] = false := noSet_in h
theorem s_cmp2 {r r' : R2} {o o' : Cm} (ho : OpR X (compareOp (cmE o)) r) (hs : CmS Z r (cm o)) (ho' : OpR X (compareOp (cmE o')) r') (hs' : CmS Z r' (cm o')) {a b c : E} {ea eb ec : Expr} {s s' : Bool} {pos : Pos} (hc' : noSet ec = true)
    (ha : PE X ea (tE Z Eo (evE Fs C a))) (hb : PE X eb (tE Z Eo (evE Fs C b))) (hc : PE X ec (tE Z Eo (evE Fs C c))) :
    PE X (.Compare ea [cmE o, cmE o'] [eb, ec] pos) (tE Z Eo (evE Fs C (.cmp a [o, o'] (.cons s b (.cons s' c .nil))))) := by
  refine PE.imp (pe_chain ho ho' ha hb hc (lastM hc')) fun σ H Q q => ?_
  obtain ⟨p, rfl, sp, z, hz, d⟩ := q
  unfold evE at hz
  refine cmp_two gdE hs hs' (s := s) (s' := s') (fun x => some (.ok x)) sp (by rw [bz_id]; exact hz) d fun c q e sq d1 => ?_
  cases e
  exact d1.sh sq (rBl _)
theorem t_cmp2 {r r' : R2} {o o' : Cm} (ho : OpR X (compareOp (cmE o)) r) (hs : CmS Z r (cm o)) (ho' : OpR X (compareOp (cmE o')) r') (hs' : CmS Z r' (cm o')) {a b c : E} {ea eb ec : Expr} {s s' : Bool} {pos : Pos} (hc' : noSet ec = true)
    (ha : PE X ea (tE Z Eo (evE Fs C a))) (hb : PE X eb (tE Z Eo (evE Fs C b))) (hc : PE X ec (tE Z Eo (evE Fs C c))) :
    PT X (.Compare ea [cmE o, cmE o'] [eb, ec] pos) (tT Z Eo (evE Fs C (.cmp a [o, o'] (.cons s b (.cons s' c .nil))))) := by
  refine PT.imp (pt_chain ho ho' ha hb hc (lastM hc')) fun σ H Q q => ?_
  obtain ⟨p, rfl, sp, z, hz, d⟩ := q
  unfold evE at hz
  refine cmp_two gdT hs hs' (s := s) (s' := s') (fun x => some (.ok x)) sp (by rw [bz_id]; exact hz) d fun c q e sq d1 => ⟨c, rfl, ?_⟩
  cases e
  obtain ⟨b, e, k⟩ := d1
  cases e
  exact k q rfl rfl Via.refl sq
/-! ### and, or -/
theorem s_bop1 (hK : X.K = Z.K) {k : Bool} {o : BoolOp} (hk : (k = true ∧ o = .And) ∨ (k = false ∧ o = .Or)) {a b : E} {ea eb : Expr} {s s' : Bool} {as : Es} {es : List Expr} {pos : Pos} (ha : PE X ea (tE Z Eo (evE Fs C a))) (hs : PE X (.BoolOp o (eb :: es) pos) (tE Z Eo (evB Fs C k (.cons s' b as)))) :
    PE X (.BoolOp o (ea :: eb :: es) pos) (tE Z Eo (evB Fs C k (.cons s a (.cons s' b as)))) := by
  have un : ∀ {σ : Sx} {p : Pt} {Q : VK} {z : Rz Vl}, p.Sim Z σ → evB Fs C k (.cons s a (.cons s' b as)) p.ρ p.M = some z → Done Z Eo σ p Q z → ∀ {Q1 : VK}, (∀ v q t, TruV Z.K v q t → (if t = k then tE Z Eo (evB Fs C k (.cons s' b as)) σ q Q else Q v q) → Q1 v q) → tE Z Eo (evE Fs C a) σ p.H Q1 := by
    intro σ p Q z sp hz d Q1 hk2
    unfold evB at hz
    refine sqE gdE sp hz d fun x m q v h1 via sq rx d1 => ?_
    obtain ⟨t, e1, h1⟩ := ob_some h1
    refine hk2 v q.H t (tru_ok' (rx.r sq.l) e1) ?_
    by_cases ht : t = k
    · have h1 : (if t = k then evB Fs C k (.cons s' b as) q.ρ q.M else vl x m q.ρ q.M) = some z := h1
      rw [if_pos ht] at h1 ⊢
      exact ⟨q, rfl, sq, z, h1, d1⟩
    · have h1 : (if t = k then evB Fs C k (.cons s' b as) q.ρ q.M else vl x m q.ρ q.M) = some z := h1
      rw [if_neg ht] at h1 ⊢
      rw [vl_some h1] at d
      exact d q v rfl rfl via sq rx
  rcases hk with ⟨rfl, rfl⟩ | ⟨rfl, rfl⟩
  · refine PE.imp (pe_andT ha hs) fun σ H Q q => ?_
    obtain ⟨p, rfl, sp, z, hz, d⟩ := q
    refine un sp hz d fun v q t h1 h2 => ⟨t, by rw [hK]; exact h1, ?_⟩
    cases t with
    | true => exact h2
    | false => exact h2
  · refine PE.imp (pe_orT ha hs) fun σ H Q q => ?_
    obtain ⟨p, rfl, sp, z, hz, d⟩ := q
    refine un sp hz d fun v q t h1 h2 => ⟨t, by rw [hK]; exact h1, ?_⟩
    cases t with
    | true => exact h2
    | false => exact h2
theorem t_bop1 {k : Bool} {o : BoolOp} (hk : (k = true ∧ o = .And) ∨ (k = false ∧ o = .Or)) {a b : E} {ea eb : Expr} {s s' : Bool} {as : Es} {es : List Expr} {pos : Pos} (ha : PT X ea (tT Z Eo (evE Fs C a))) (hs : PW X (.BoolOp o (eb :: es) pos) (tT Z Eo (evB Fs C k (.cons s' b as)))) :
    PW X (.BoolOp o (ea :: eb :: es) pos) (tT Z Eo (evB Fs C k (.cons s a (.cons s' b as)))) := by
  have un : ∀ {σ : Sx} {p : Pt} {Q : Bool → Hp → Prop} {z : Rz Vl}, p.Sim Z σ → evB Fs C k (.cons s a (.cons s' b as)) p.ρ p.M = some z → DoneT Z Eo σ p Q z → ∀ {Q1 : Bool → Hp → Prop}, (∀ q t, (if t = k then tT Z Eo (evB Fs C k (.cons s' b as)) σ q Q else Q t q) → Q1 t q) → tT Z Eo (evE Fs C a) σ p.H Q1 := by
    intro σ p Q z sp hz d Q1 hk2
    unfold evB at hz
    refine sqT (k := fun x b1 => if b1 = k then evB Fs C k (.cons s' b as) x.ρ x.M else vl x.d x.m x.ρ x.M) gdT sp hz d fun x m t q e1 h1 via sq d1 => ?_
    refine hk2 q.H t ?_
    by_cases ht : t = k
    · have h1 : (if t = k then evB Fs C k (.cons s' b as) q.ρ q.M else vl x m q.ρ q.M) = some z := h1
      rw [if_pos ht] at h1 ⊢
      exact ⟨q, rfl, sq, z, h1, d1⟩
    · have h1 : (if t = k then evB Fs C k (.cons s' b as) q.ρ q.M else vl x m q.ρ q.M) = some z := h1
      rw [if_neg ht] at h1 ⊢
      rw [vl_some h1] at d1
      obtain ⟨b, e, k2⟩ := d1
      have e : tru x = some b := e
      rw [e1] at e
      cases e
      exact k2 q rfl rfl Via.refl sq
  rcases hk with ⟨rfl, rfl⟩ | ⟨rfl, rfl⟩
  · refine PW.imp (pw_and ha hs) fun σ H Q q => ?_
    obtain ⟨p, rfl, sp, z, hz, d⟩ := q
    refine un sp hz d fun q t h2 => ?_
    cases t with
    | true => exact h2
    | false => exact h2
  · refine PW.imp (pw_or ha hs) fun σ H Q q => ?_
    obtain ⟨p, rfl, sp, z, hz, d⟩ := q
    refine un sp hz d fun q t h2 => ?_
    cases t with
    | true => exact h2
    | false => exact h2
theorem evB_one {k s : Bool} {a : E} : evB Fs C k (.cons s a .nil) = evE Fs C a := by
  funext ρ M
  unfold evB
  rfl
theorem s_bopN {k : Bool} {o : BoolOp} {a : E} {ea : Expr} {s : Bool} {pos : Pos} (ha : PE X ea (tE Z Eo (evE Fs C a))) : PE X (.BoolOp o [ea] pos) (tE Z Eo (evB Fs C k (.cons s a .nil))) := by
  rw [evB_one]
  exact pe_one ha
theorem t_bopN {k : Bool} {o : BoolOp} {a : E} {ea : Expr} {s : Bool} {pos : Pos} (ha : PT X ea (tT Z Eo (evE Fs C a))) : PW X (.BoolOp o [ea] pos) (tT Z Eo (evB Fs C k (.cons s a .nil))) := by
  rw [evB_one]
  cases o with
  | And => exact pw_and1 ha
  | Or => exact pw_or1 ha
theorem t_not {a : E} {e : Expr} {pos : Pos} (ha : PT X e (tT Z Eo (evE Fs C a))) : PT X (.UnaryOp .Not e pos) (tT Z Eo (evE Fs C (.not a))) := by
  refine PT.imp (pt_not ha) fun σ H Q q => ?_
  obtain ⟨p, rfl, sp, z, hz, d⟩ := q
  unfold evE at hz
  refine sqT (k := fun x b => vl (.py (.bool (!b))) .sh x.ρ x.M) gdT sp hz d fun x m t q e1 h1 via sq d1 => ?_
  rw [vl_some h1] at d1
  obtain ⟨b, e, k2⟩ := d1
  cases e
  exact k2 q rfl rfl Via.refl sq
/-! ### subscripts -/
def noSlice : Expr → Bool
  | .Slice _ _ _ _ => false
  | _ => true
theorem noSlice_ix {e : Expr} (h : noSlice e = true) : PlainIx e := by
  cases e <;> first | (intro o i; rfl) | cases h
theorem ixS : ∀ (M : Mem) (F : Addr → Prop) (φ : List Addr) (H : Hp) (v w : V) (x y d : D) (Q : VK), GSim Z M F φ H → RepR Z F φ H v x → RepR Z F φ H w y → ixD M x y = some d → (∀ u, Rep Z F φ H u d → Q u H) → rIx Z.K v w H Q := by
  intro M F φ H v w x y d Q g rx ry h k
  have at_map : ∀ {α β : Type} {xs : List α} {i : Int} {f : α → β} {d : β}, (atI xs i).map f = some d → ∃ a, atI xs i = some a ∧ f a = d := fun {α β xs i f d} h => Option.map_eq_some_iff.mp h
  have at_of : ∀ {α β : Type} {xs : List α} {ys : List β} {i : Int} {a : α}, xs.length = ys.length → atI xs i = some a → ∃ j : Nat, xs[j]? = some a ∧ ∀ b, ys[j]? = some b → atI ys i = some b := by
    intro α β xs ys i a hl h
    unfold atI at h
    obtain ⟨j, e1, e2⟩ := Option.bind_eq_some_iff.mp h
    exact ⟨j, e2, fun b hb => by
      unfold atI
      rw [← hl, e1]
      exact hb⟩
  unfold ixD at h
  split at h
  · rename_i xs i
    obtain ⟨p, e1, rfl⟩ := at_map h
    obtain ⟨a, vs, rfl, e, rs⟩ := rx.tup
    obtain ⟨j, e2, e3⟩ := at_of (ys := vs) rs.len.symm e1
    obtain ⟨u, e4, r⟩ := rs.get e2
    exact .inr (.inl ⟨a, vs, i, u, rfl, ry.int, SqT.of e, e3 u e4, k u (.py r)⟩)
  · rename_i xs i
    obtain ⟨p, e1, rfl⟩ := at_map h
    obtain ⟨a, vs, rfl, e, rs⟩ := rx.lst
    obtain ⟨j, e2, e3⟩ := at_of (ys := vs) rs.len.symm e1
    obtain ⟨u, e4, r⟩ := rs.get e2
    exact .inl ⟨a, vs, i, u, rfl, ry.int, SqL.of e, e3 u e4, k u (.py r)⟩
  · rename_i xs i
    obtain ⟨a, vs, rfl, e, rs⟩ := rx.mt
    obtain ⟨j, e2, e3⟩ := at_of (ys := vs) rs.len.symm h
    obtain ⟨u, e4, r⟩ := rs.get e2
    exact .inr (.inl ⟨a, vs, i, u, rfl, ry.int, SqT.of e, e3 u e4, k u r⟩)
  · rename_i xs i
    obtain ⟨a, vs, rfl, e, rs⟩ := rx.ml
    obtain ⟨j, e2, e3⟩ := at_of (ys := vs) rs.len.symm h
    obtain ⟨u, e4, r⟩ := rs.get e2
    exact .inl ⟨a, vs, i, u, rfl, ry.int, SqL.of e, e3 u e4, k u r⟩
  · rename_i z i
    obtain ⟨hz, h⟩ := if_some h
    obtain ⟨c, e1, rfl⟩ := at_map h
    exact .inr (.inr ⟨z, i, c, rx.str, ry.int, hz, e1, k _ (rStr _)⟩)
  · rename_i ns i
    obtain ⟨n, e1, rfl⟩ := at_map h
    obtain ⟨a, rfl, hs⟩ := rx.scr
    obtain ⟨j, e2, e3⟩ := at_of (ys := ns.map V.int) (by simp) e1
    exact .inl ⟨a, _, i, .int n, rfl, ry.int, hs, e3 _ (by simp [e2]), k _ (rInt _)⟩
  · rename_i n i
    split at h
    · rename_i xs hM
      obtain ⟨p, e1, rfl⟩ := at_map h
      obtain ⟨a, rfl, ha⟩ := rx.cel
      obtain ⟨a', vs, h1, h2, rs⟩ := g.cell n xs hM
      rw [ha] at h1
      cases h1
      obtain ⟨j, e2, e3⟩ := at_of (ys := vs) rs.len.symm e1
      obtain ⟨u, e4, r⟩ := rs.get e2
      exact .inl ⟨a, vs, i, u, rfl, ry.int, SqL.of h2, e3 u e4, k u (.py r)⟩
    · cases h
  · cases h
theorem s_ix (hK : X.K = Z.K) {a b : E} {ea eb : Expr} {pos : Pos} (hn : noSlice eb = true) (ha : PE X ea (tE Z Eo (evE Fs C a))) (hb : PE X eb (tE Z Eo (evE Fs C b))) : PE X (.Subscript ea eb pos) (tE Z Eo (evE Fs C (.ix a b))) := by
  refine PE.imp (pe_ix ix_seq ha hb (noSlice_ix hn)) fun σ H Q q => ?_
  obtain ⟨p, rfl, sp, z, hz, d⟩ := q
  unfold evE at hz
  refine sqE gdE sp hz d fun x m q v h1 via sq rx d1 => ?_
  refine sqE gdE sq h1 d1 fun y m2 t w h2 via2 st ry d2 => ?_
  obtain ⟨d', e, h2⟩ := ob_some h2
  rw [vl_some h2] at d2
  rw [hK]
  exact ixS t.M t.F t.φ t.H v w x y d' Q st.g ((RepT.via sq rx via2).r st.l) (ry.r st.l) e fun u r => d2.sh st r
/-! slices -/
theorem slS {F : Addr → Prop} {φ : List Addr} {H : Hp} {v : V} {x : D} {lo hi : Option Int} {z : D × Bool} {Q : VK} (rx : RepR Z F φ H v x) (h : slD x lo hi = some z) (k : ∀ u H', New Z F φ H z.1 z.2 u H' → Q u H') : rSlA Z.K v lo hi H Q ∨ rSlL Z.K v lo hi H Q := by
  have cutAll : ∀ {α : Type} (xs : List α), HT.sIx xs.length 0 lo = 0 ∧ HT.sIx xs.length xs.length hi = xs.length → cutL xs lo hi = xs := by
    intro α xs ⟨h1, h2⟩
    unfold cutL
    rw [h1, h2]
    simp
  unfold slD at h
  split at h
  · rename_i xs
    cases h
    obtain ⟨a, vs, rfl, e, rs⟩ := rx.tup
    refine .inl ⟨a, vs, rfl, SqT.of e, fun w => ?_, fun _ b hb => k _ _ (.tup hb (.py (.tup upd_same ?_)))⟩
    · rw [rs.len] at w
      refine k _ _ (.same (.py (.tup e ?_)))
      rw [cutAll xs w]
      exact rs
    · have w := ((rs.drop (HT.sIx vs.length 0 lo)).take (HT.sIx vs.length vs.length hi - HT.sIx vs.length 0 lo)).stay (stay_upd (φ := φ) (o := .tup (cutV vs lo hi)) hb)
      unfold cutL
      rw [← rs.len]
      exact w
  · rename_i xs
    cases h
    obtain ⟨a, vs, rfl, e, rs⟩ := rx.lst
    refine .inr ⟨a, vs, rfl, SqL.of e, fun b hb => k _ _ (.lst hb ⟨_, upd_same, ?_⟩)⟩
    have w := ((rs.drop (HT.sIx vs.length 0 lo)).take (HT.sIx vs.length vs.length hi - HT.sIx vs.length 0 lo)).stay (stay_upd (φ := φ) (o := .lst (cutV vs lo hi)) hb)
    unfold cutL
    rw [← rs.len]
    exact w
  · rename_i xs
    cases h
    obtain ⟨a, vs, rfl, e, rs⟩ := rx.mt
    refine .inl ⟨a, vs, rfl, SqT.of e, fun w => ?_, fun _ b hb => k _ _ (.tup hb (.mt upd_same ?_))⟩
    · rw [rs.len] at w
      refine k _ _ (.same (.mt e ?_))
      rw [cutAll xs w]
      exact rs
    · have w := ((rs.drop (HT.sIx vs.length 0 lo)).take (HT.sIx vs.length vs.length hi - HT.sIx vs.length 0 lo)).stay (stay_upd (φ := φ) (o := .tup (cutV vs lo hi)) hb)
      unfold cutL
      rw [← rs.len]
      exact w
  · rename_i xs
    cases h
    obtain ⟨a, vs, rfl, e, rs⟩ := rx.ml
    refine .inr ⟨a, vs, rfl, SqL.of e, fun b hb => k _ _ (.lst hb ⟨_, upd_same, ?_⟩)⟩
    have w := ((rs.drop (HT.sIx vs.length 0 lo)).take (HT.sIx vs.length vs.length hi - HT.sIx vs.length 0 lo)).stay (stay_upd (φ := φ) (o := .lst (cutV vs lo hi)) hb)
    unfold cutL
    rw [← rs.len]
    exact w
  · rename_i ns
    cases h
    obtain ⟨a, rfl, hs⟩ := rx.scr
    refine .inr ⟨a, _, rfl, hs, fun b hb => k _ _ (.lst hb ⟨_, upd_same, ?_⟩)⟩
    have e : cutV (ns.map V.int) lo hi = (cutL ns lo hi).map V.int := by
      unfold cutV cutL
      rw [List.length_map, List.map_take, List.map_drop]
    rw [e]
    have go : ∀ (l : List Int), RepPs F (upd H b (.lst ((cutL ns lo hi).map V.int))) (l.map V.int) (l.map .int) := fun l => by
      induction l with
      | nil => exact .nil
      | cons i l ih => exact .cons (.int i) ih
    exact go _
  · cases h
/-- one part of a slice -/
theorem s_part {o : Option Expr} {a : E} (hn : isNo a = o.isNone) (ha : ∀ e, o = some e → PE X e (tE Z Eo (evE Fs C a))) : ∃ t, PO X o t ∧ ∀ {σ : Sx} {β : Type} {G : Pt → Rz β → Prop} {p : Pt} {z : Rz β} {k : Vl → Option Int → Option (Rz β)} {Q : Option Int → Hp → Prop}, Gd Z Eo σ G → p.Sim Z σ →
    bz (prt (isNo a) (evE Fs C a p.ρ p.M) p.ρ p.M) (fun l => ob (part (isNo a) l.d) fun l' => k l l') = some z → G p z → (∀ (d : D) (m : Md) (i : Option Int) (q : Pt), k ⟨d, m, q.ρ, q.M⟩ i = some z → Via σ p q → q.Sim Z σ → G q z → Q i q.H) → t σ p.H Q := by
  cases o with
  | none =>
    refine ⟨_, po_none, fun {σ β G p z k Q} g sp h d hk => ?_⟩
    rw [hn] at h
    exact hk _ _ none p h Via.refl sp d
  | some e =>
    refine ⟨_, po_some (ha e rfl), fun {σ β G p z k Q} g sp h d hk => ?_⟩
    have hn : isNo a = false := hn
    rw [hn] at h
    refine sqE g sp h d fun x m q v h1 via sq rx d1 => ?_
    obtain ⟨i, e1, h1⟩ := ob_some h1
    unfold part at e1
    split at e1
    · simp at e1
    · rename_i i' ex
      cases ex
      cases e1
      exact ⟨i', (rx.r sq.l).int, hk _ _ (some i') q h1 via sq d1⟩
    · cases e1
end
end Ev

/-! t[::-1], t a list or a tuple. -/
namespace Ev
open L2 PyProof.Rows PySem PySem.Spec
section
variable {prog : Program} {w : World} {A : Around} {E : Value → Shared → Prop} {s : Shared}
theorem applied_rev {sl : Addr} {vs : Value} {n : Nat} {Q : Int × Int × Nat → Shared → Prop} (hs : s.heap.IsSliceOf sl .none .none vs) (ps : IsPart vs (some (-1))) (q : Q ((n : Int) - 1, -1, n) s) :
    wpAny (model prog w) A (Builtin.Slice.sliceApplied (.ref sl) (pure (n : Int))) Q E s := by
  obtain ⟨os, e1, _, e2⟩ := hs
  unfold Builtin.Slice.sliceApplied Builtin.Slice.sliceFields
  refine wpAny_bind (wpAny_bind (wpAny_field e1 e2 (x := .none) rfl (wpAny_bind (wpAny_field e1 e2 (x := .none) rfl (wpAny_bind (wpAny_field e1 e2 (x := vs) rfl (wpAny_pure ?_)))))))
  refine wpAny_bind (HT.slicePart_ ps ?_)
  show wpAny (model prog w) A (if ((-1 : Int) == 0) = true then _ else _) Q E s
  rw [if_neg (by decide)]
  refine wpAny_bind (HT.slicePart_ .none (wpAny_bind (HT.slicePart_ .none (wpAny_bind (wpAny_pure ?_)))))
  have e : Builtin.Slice.sliceAdjust none none (-1) (n : Int) = ((n : Int) - 1, -1) := by
    unfold Builtin.Slice.sliceAdjust
    simp
  show wpAny (model prog w) A (match Builtin.Slice.sliceAdjust none none (-1) (n : Int) with | (lo, hi) => pure (lo, (-1 : Int), Builtin.Slice.slicePlaces lo hi (-1))) Q E s
  rw [e]
  have e3 : Builtin.Slice.slicePlaces ((n : Int) - 1) (-1) (-1) = n := by
    unfold Builtin.Slice.slicePlaces
    simp
    omega
  show wpAny (model prog w) A (pure ((n : Int) - 1, (-1 : Int), Builtin.Slice.slicePlaces ((n : Int) - 1) (-1) (-1))) Q E s
  rw [e3]
  exact wpAny_pure q
theorem fm_congr {α β : Type} {f g : α → Option β} : ∀ l : List α, (∀ x ∈ l, f x = g x) → l.filterMap f = l.filterMap g
  | [], _ => rfl
  | x :: l, h => by
    rw [List.filterMap_cons, List.filterMap_cons, h x List.mem_cons_self, fm_congr l fun y hy => h y (List.mem_cons_of_mem _ hy)]
theorem pick_rev (us : List Value) : ((List.range us.length).filterMap fun (k : Nat) => us.toArray[((us.length : Int) - 1 + (k : Int) * (-1)).toNat]?) = us.reverse := by
  have e : (List.range us.length).map (fun k => us.reverse[k]?) = us.reverse.map some := by
    refine List.ext_getElem? fun i => ?_
    rw [List.getElem?_map, List.getElem?_map]
    by_cases h : i < us.length
    · rw [List.getElem?_range h, Option.map_some, List.getElem?_eq_getElem (by rw [List.length_reverse]; exact h), Option.map_some]
    · rw [List.getElem?_eq_none (by rw [List.length_range]; omega), List.getElem?_eq_none (by rw [List.length_reverse]; omega)]
      rfl
  have e2 : (List.range us.length).filterMap (fun (k : Nat) => us.toArray[((us.length : Int) - 1 + (k : Int) * (-1)).toNat]?) = (List.range us.length).filterMap fun k => us.reverse[k]? := by
    refine fm_congr _ fun k hk => ?_
    have hk := List.mem_range.mp hk
    rw [show ((us.length : Int) - 1 + (k : Int) * (-1)).toNat = us.length - 1 - k by omega, List.getElem?_toArray, List.getElem?_reverse hk]
  rw [e2]
  have e3 : (List.range us.length).filterMap (fun k => us.reverse[k]?) = ((List.range us.length).map fun k => us.reverse[k]?).filterMap id := by rw [List.filterMap_map]; rfl
  rw [e3, e, List.filterMap_map]
  exact List.filterMap_some
theorem item_rev {t sl : Addr} {us : List Value} {vs : Value} {Q : Value → Shared → Prop} (ht : IsTup s.heap t us.toArray) (hs : s.heap.IsSliceOf sl .none .none vs) (ps : IsPart vs (some (-1))) (z : us.length ≤ sizeLine)
    (q : Q (.ref s.heap.objs.size) { s with heap := s.heap.push { cls := .type "tuple", data := .seq us.reverse.toArray } }) : wpAny (model prog w) A (getItem (.ref t) (.ref sl)) Q E s := by
  have hS : s.TypeIs (.ref sl) "slice" := by
    obtain ⟨os, e1, e2, _⟩ := hs
    exact ⟨os, e1, e2⟩
  have hz : sizeOk (.seq us.reverse.toArray) := by
    show us.reverse.toArray.size ≤ sizeLine
    rw [List.size_toArray, List.length_reverse]
    exact z
  unfold getItem
  try with_reducible refine wpAny_holding ?_
  first | refine wpAny_bind (wpAny_pure ?_) | skip
  refine wpAny_bind (wpAny_sequenceKey ht.typeIs (by decide) (wpAny_bind (wpAny_callSpecial?_slot (name := Str.ofString "__getitem__") ht.typeIs slot_tuple_getitem (wpAny_call_entry slot_tuple_getitem ht.typeIs PyProof.Rows.entry_tuple_getitem ?_ (PyProof.Rows.args_tuple_getitem _ _)))))
  show wpAny (model prog w) _ (Builtin.Tuple.tupleItemsOf (.ref t) >>= _) _ _ s
  refine wpAny_bind (tupleItemsOf_ ht (wpAny_bind (wpAny_typeOf hS ?_)))
  rw [if_pos (by decide)]
  have es : us.toArray.size = us.length := List.size_toArray
  rw [es]
  refine wpAny_bind (applied_rev hs ps ?_)
  have no : ¬ (((us.length : Int) - 1 == 0 && (-1 : Int) == 1 && us.length == us.length) = true) := by simp
  show wpAny (model prog w) _ (if ((us.length : Int) - 1 == 0 && (-1 : Int) == 1 && us.length == us.length) = true then _ else _) _ _ s
  rw [if_neg no, pick_rev]
  first
    | exact wpAny_bind (m := Builtin.Tuple.tupleExact _) (wpAny_newObj_type (wpAny_pure (Exists.intro _ (And.intro rfl (wpAny_pure q)))) hz)
    | exact wpAny_bind (wpAny_bind (m := Builtin.Tuple.tupleExact _) (wpAny_newObj_type (wpAny_pure (wpAny_pure (Exists.intro _ (And.intro rfl (wpAny_pure q))))) hz))
    | exact wpAny_bind (wpAny_bind (m := Builtin.Tuple.tupleExact _) (wpAny_newObj_type (wpAny_pure (Exists.intro _ (And.intro rfl (wpAny_pure q)))) hz))
end
/-- x[::-1] -/
def tRevB (K : PySem.W.Frag) (te : TE) : TE := fun σ H Q => te σ H fun x H1 => ∃ a xs, x = .ref a ∧ ((SqL K H1 a xs ∧ ∀ p, H1 p = none → Q (.ref p) (upd H1 p (.lst xs.reverse))) ∨ (SqT K H1 a xs ∧ ∀ p, H1 p = none → Q (.ref p) (upd H1 p (.tup xs.reverse))))
theorem pe_revB {X : Cx} {e : Expr} {te : TE} {k : Nat} {p1 p2 p3 pos : Pos} (he : PE X e te) : PE X (.Subscript e (.Slice none none (some (.UnaryOp .USub (.Constant (.int 1) k p1) p2)) p3) pos) (tRevB X.K te) := by
  refine PE.mk fun pins s σ H Q I h => ?_
  refine Subscript_ (thn (he.run pins s σ H _ I h) fun v s1 hq => ?_)
  obtain ⟨x, H1, I1, r1, a, xs, rfl, hx⟩ := hq
  cases r1
  have part : PO X (some (.UnaryOp .USub (.Constant (.int 1) k p1) p2)) (tPart (tUn (rU fun i => .int (-i)) (tC (.int 1)))) := po_some (pe_un un_neg pe_int)
  refine wpAny_Slice (thn (po_none.run pins s1 σ H1 (fun o H2 => o = none ∧ H2 = H1) I1 (And.intro rfl rfl)) fun vl s2 hl => ?_)
  obtain ⟨_, _, I2, pl, rfl, rfl⟩ := hl
  refine thn (po_none.run pins s2 σ _ (fun o H3 => o = none ∧ H3 = _) I2 (And.intro rfl rfl)) fun vu s3 hu => ?_
  obtain ⟨_, _, I3, pu, rfl, rfl⟩ := hu
  refine thn (part.run pins s3 σ _ (fun o H4 => o = some (-1) ∧ H4 = _) I3 ⟨1, rfl, -1, rfl, rfl, rfl⟩) fun vs s4 hs => ?_
  obtain ⟨_, _, I4, ps, rfl, rfl⟩ := hs
  have I5 := I4.kept (h' := s4.heap.push { cls := .type "slice", data := .fields #[vl, vu, vs] }) (t' := s4.toks) fun b ob q => Heap.get?_push_of_some _ q
  rcases hx with ⟨hx, q⟩ | ⟨hx, q⟩
  · obtain ⟨us, r, ht, hz⟩ := I5.list hx
    have hlen := r.length
    refine tail_any (ops := [.ref a, .ref s4.heap.objs.size]) ht.isList.typeIs slot_list_getitem.lookup (wpAny_getItem_list_slice ht.isList (Heap.IsSliceOf.new _ vl vu vs) pl pu ps (by decide) ?_ (by rw [List.size_toArray]; omega)) (by with_unfolding_all rfl)
    rw [PySem.W.krv_pick]
    exact ⟨.ref _, _, I5.laid (t' := s4.toks) (o := .lst xs.reverse) (fun b ob q => Heap.get?_push_of_some _ q) (Nat.le_refl _) ⟨by rw [List.length_reverse]; exact hz, _, 0, r.reverse, Heap.get?_push_size _ rfl⟩, rfl, q _ (I5.hok.fresh (Nat.le_refl _))⟩
  · obtain ⟨us, r, ht, hz⟩ := I5.tuple hx
    have hlen := r.length
    cases pl
    cases pu
    refine tail_any (ops := [.ref a, .ref s4.heap.objs.size]) ht.typeIs slot_tuple_getitem.lookup (item_rev ht (Heap.IsSliceOf.new _ .none .none vs) ps (by omega) ?_) (by with_unfolding_all rfl)
    exact ⟨.ref _, _, I5.laid (t' := s4.toks) (o := .tup xs.reverse) (fun b ob q => Heap.get?_push_of_some _ q) (Nat.le_refl _) ⟨by rw [List.length_reverse]; exact hz, _, r.reverse, ⟨_, Heap.get?_push_size _ rfl, rfl, _, rfl⟩⟩, rfl, q _ (I5.hok.fresh (Nat.le_refl _))⟩
end Ev

/-! Slices, calls. -/
namespace Ev
open L2 PyProof.Rows PySem PySem.Spec
section
variable {X : Cx} {Z : Zt} {Γ : Gam} {Fs : List Fn} {C : Nv → Clo} {Eo : XK}
theorem New.at {σ : Sx} {p : Pt} {Q : VK} {r : Option (D × Bool)} {z : Rz Vl} (h : liftO r p.ρ p.M = some z) (sp : p.Sim Z σ) (d : Done Z Eo σ p Q z) : ∃ n, r = some n ∧ ∀ u H', New Z p.F p.φ p.H n.1 n.2 u H' → Q u H' := by
  obtain ⟨n, hn, rfl⟩ := liftO_some h
  exact ⟨n, hn, fun u H' w => New.done w sp d⟩
theorem s_slc (hK : X.K = Z.K) {a lo hi : E} {ea : Expr} {ol oh : Option Expr} {p2 pos : Pos} (hl : isNo lo = ol.isNone) (hh : isNo hi = oh.isNone) (ha : PE X ea (tE Z Eo (evE Fs C a)))
    (h1 : ∀ e, ol = some e → PE X e (tE Z Eo (evE Fs C lo))) (h2 : ∀ e, oh = some e → PE X e (tE Z Eo (evE Fs C hi))) : PE X (.Subscript ea (.Slice ol oh none p2) pos) (tE Z Eo (evE Fs C (.slc a lo hi))) := by
  obtain ⟨t1, po1, k1⟩ := s_part (Z := Z) (Eo := Eo) (X := X) (Fs := Fs) (C := C) hl h1
  obtain ⟨t2, po2, k2⟩ := s_part (Z := Z) (Eo := Eo) (X := X) (Fs := Fs) (C := C) hh h2
  refine PE.imp (pe_slice (sl_tupA.or sl_list) ha po1 po2) fun σ H Q q => ?_
  obtain ⟨p, rfl, sp, z, hz, d⟩ := q
  unfold evE at hz
  refine sqE gdE sp hz d fun x m q v e1 via sq rx d1 => ?_
  refine k1 gdE sq e1 d1 fun dl ml l t e2 via2 st d2 => ?_
  refine k2 gdE st e2 d2 fun dh mh h u e3 via3 su d3 => ?_
  obtain ⟨n, e4, k⟩ := New.at e3 su d3
  rw [hK]
  exact slS ((RepT.via st (RepT.via sq rx via2) via3).r su.l) e4 k
theorem s_rev (hK : X.K = Z.K) {a : E} {ea : Expr} {k : Nat} {p1 p2 p3 pos : Pos} (ha : PE X ea (tE Z Eo (evE Fs C a))) : PE X (.Subscript ea (.Slice none none (some (.UnaryOp .USub (.Constant (.int 1) k p1) p2)) p3) pos) (tE Z Eo (evE Fs C (.rev a))) := by
  refine PE.imp (pe_revB ha) fun σ H Q q => ?_
  obtain ⟨p, rfl, sp, z, hz, d⟩ := q
  unfold evE at hz
  refine sqE gdE sp hz d fun x m q v e1 via sq rx d1 => ?_
  obtain ⟨n, e4, k⟩ := New.at e1 sq d1
  unfold revD at e4
  split at e4
  · rename_i xs hx
    have hx : x = .py (.list xs) := hx
    subst hx
    cases e4
    obtain ⟨b, vs, rfl, e, rs⟩ := (rx.r sq.l).lst
    exact ⟨b, vs, rfl, .inl ⟨by rw [hK]; exact SqL.of e, fun c hc => k _ _ (.lst hc ⟨_, upd_same, rs.rev.stay (stay_upd (φ := q.φ) hc)⟩)⟩⟩
  · rename_i xs hx
    have hx : x = .py (.tuple xs) := hx
    subst hx
    cases e4
    obtain ⟨b, vs, rfl, e, rs⟩ := (rx.r sq.l).tup
    exact ⟨b, vs, rfl, .inr ⟨.inl (.inl e), fun c hc => k _ _ (.tup hc (.py (.tup upd_same (rs.rev.stay (stay_upd (φ := q.φ) hc)))))⟩⟩
  · cases e4
/-! ### calls -/
theorem RepO.t {p : Pt} {H : Hp} {σ : Sx} {F : Addr → Prop} {φ : List Addr} {fr : Bool} {v : V} {d : D} {ρ : Nv} (sp : LSim Z ρ p.F p.φ σ p.H) (h : RepO Z p.H F φ H fr v d) : RepT Z p.H ρ σ F φ H (mdOf fr) v d := by
  unfold RepO at h
  cases fr with
  | false => exact h
  | true =>
    obtain ⟨a, rfl, r, n1, n2, n3⟩ := h
    refine ⟨a, rfl, r, n1, n2, fun z => ?_, n3⟩
    obtain ⟨⟨vs, e⟩, _⟩ := sp.own_lst z
    rw [n3] at e
    cases e
/-- what a def gives, where its arguments are given away -/
theorem call_done {f : Fn} {σ : Sx} {p q : Pt} {Q : VK} {z : Rz Vl} {ds : List (D × Md)} {vs : List V} (hcl : cleanL (ds.map (·.1)) = true) (sp : p.Sim Z σ) (via : Via σ p q) (sq : q.Sim Z σ) (rs : RepTs Z p.H q.ρ σ q.F q.φ q.H vs ds)
    (h : bz (f noClo (ds.map (·.1)) q.M) (fun o => vl o.d (mdOf o.fr) (fzs ds q.ρ) o.M) = some z) (d : Done Z Eo σ p Q z) : spF Z f vs q.H Q Eo := by
  obtain ⟨F', mo, x, s', r⟩ := gives (ρ := q.ρ) (F := q.F) via sp sq rs
  refine ⟨ds.map (·.1), q.M, F', q.φ, s'.g.bare, r.bare hcl, ?_⟩
  have d2 := Done.rebase sp x d
  cases e : f noClo (ds.map (·.1)) q.M with
  | none =>
    rw [e] at h
    cases h
  | some y =>
    rw [e] at h
    refine ⟨y, rfl, ?_⟩
    cases y with
    | ok o =>
      have e2 := vl_some (show vl o.d (mdOf o.fr) (fzs ds q.ρ) o.M = some z from h)
      subst e2
      intro F2 φ2 H2 v po g2 ro
      have g2 := g2.unb
      have ro := ro.unb
      have l2 : LSim Z (fzs ds q.ρ) F2 φ2 σ H2 := s'.l.post po s'.g
      exact d2 ⟨fzs ds q.ρ, o.M, F2, φ2, H2⟩ v rfl rfl ⟨po.mono' (fun _ h => h.elim) (fun _ h => h), Fz.refl _⟩ ⟨g2, l2⟩ (RepO.t (p := ⟨fzs ds q.ρ, q.M, F', q.φ, q.H⟩) s'.l ro |> fun w => by
        cases hfr : o.fr with
        | false =>
          rw [hfr] at w
          exact w
        | true =>
          rw [hfr] at w
          obtain ⟨a, rfl, r', n1, n2, n3, n4⟩ := w
          exact ⟨a, rfl, r', n1, n2, n3, n4⟩)
    | er c v M =>
      have e2 : z = .er c v M := (Option.some.inj h).symm
      subst e2
      exact fun q2 da po er => d2 q2 da (po.mono' (fun _ h => h.elim) fun _ h => h) er.unb
theorem callV_some {k : Nat} {a : Ls} {z : Rz Vl} (h : callV Fs k a = some z) : ∃ f, Fs[k]? = some f ∧ cleanL (a.ds.map (·.1)) = true ∧ bz (f noClo (a.ds.map (·.1)) a.M) (fun o => vl o.d (mdOf o.fr) (fzs a.ds a.ρ) o.M) = some z := by
  obtain ⟨f, h1, h2⟩ := ob_some h
  obtain ⟨h3, h4⟩ := if_some h2
  exact ⟨f, h1, h3, h4⟩
/-- room for the def k -/
def lvB (Γ : Gam) (k : Nat) : Bool := match Γ.lvl[k]? with
  | some l => decide (l ≤ Γ.lv)
  | none => false
theorem XOk.def (ok : XOk X Z Γ Fs Eo) {k : Nat} {f : Fn} (h : lvB Γ k = true) (hf : Fs[k]? = some f) : PySem.W.keepIn X.K (.ref (Z.fa k)) = true ∧ CallR X (.ref (Z.fa k)) fun vs H Q => spF Z f vs H Q Eo := by
  unfold lvB at h
  split at h
  · rename_i l e
    have F := ok.fns k f l hf e
    exact ⟨F.kp, F.callR (ok.room.mono (of_decide_eq_true h)) ok.hg ok.px⟩
  · cases h
theorem s_call (ok : XOk X Z Γ Fs Eo) {k : Nat} {f : Fn} {x : Str} {e : Expr} {es : List Expr} {as : Es} {p pos : Pos} (hf : Fs[k]? = some f) (hl : lvB Γ k = true) (hg : glB Γ x (.fn k) = true) (hu : unst e = true) (hus : es.all unst = true) (hs : PA X (e :: es) (tL Z Eo (evL Fs C as))) :
    PE X (.Call (.Name x p) (e :: es) [] pos) (tE Z Eo (evE Fs C (.call k as))) := by
  obtain ⟨h1, h2, h3⟩ := glB_ok ok hg
  obtain ⟨hk, hc⟩ := ok.def hl hf
  refine PE.imp (pe_callG hc h1 h3 hk hs (nm_all h2).1 (star_one hu) (star_all hus)) fun σ H Q q => ?_
  obtain ⟨p, rfl, sp, z, hz, d⟩ := q
  unfold evE at hz
  refine sqL gdE sp hz d fun ds q vs e1 via sq rs d1 => ?_
  obtain ⟨f', e2, hcl, e3⟩ := callV_some e1
  rw [hf] at e2
  cases e2
  exact call_done hcl sp via sq rs e3 d
/-- a call of what a slot holds -/
theorem s_cv (ok : XOk X Z Γ Fs Eo) {ks : List Nat} {i : Nat} {x : Str} {e : Expr} {es : List Expr} {as : Es} {p pos : Pos} (hl : ks.all (lvB Γ) = true) (hv : varOk Γ i x = true) (hu : unst e = true) (hus : es.all unst = true) (hs : PA X (e :: es) (tL Z Eo (evL Fs C as))) :
    PE X (.Call (.Name x p) (e :: es) [] pos) (tE Z Eo (evE Fs C (.cv ks (.var i) as))) := by
  obtain ⟨h1, h2, h3⟩ := varOk_ok ok hv
  refine PE.imp (pe_callS (X := X) (i := i) h1 h2 hs (fun a vs H Q => ∃ k f, a = Z.fa k ∧ Fs[k]? = some f ∧ lvB Γ k = true ∧ spF Z f vs H Q Eo) (fun a hk => ?_) (nm_all h3).1 (nm_all h3).2.1 (star_one hu) (star_all hus)) fun σ H Q q => ?_
  · intro pins s σ H vs us Q I r h
    obtain ⟨k, f, rfl, hf, hl, h⟩ := h
    exact (ok.def hl hf).2 pins s σ H vs us Q I r h
  · obtain ⟨p, rfl, sp, z, hz, d⟩ := q
    unfold evE at hz
    obtain ⟨x, e1, e2⟩ | ⟨c, v, M, e1, _⟩ := bz_some hz
    · have hx := e1
      unfold evE at hx
      have key : ∃ d0, x = ⟨d0, x.m, p.ρ, p.M⟩ ∧ ∃ fl : Bool, p.ρ[i]? = some (some (d0, fl)) := by
        split at hx
        · rename_i d0 e
          have := vl_some hx
          cases this
          exact ⟨d0, rfl, true, e⟩
        · rename_i d0 e
          have := vl_some hx
          cases this
          exact ⟨d0, rfl, false, e⟩
        · cases hx
      obtain ⟨d0, ex, fl, hρ⟩ := key
      rw [ex] at e2
      split at e2
      · rename_i k hd
        have hd : d0 = .fn k := hd
        subst hd
        obtain ⟨hk, e2⟩ := if_some e2
        obtain ⟨f, hf, e2⟩ := ob_some e2
        have hks : lvB Γ k = true := by
          rw [List.all_eq_true] at hl
          exact hl k (List.contains_iff_mem.mp hk)
        cases fl with
        | true =>
          obtain ⟨a, _, r, _⟩ := sp.l.ow i _ hρ
          exact r.elim
        | false =>
          obtain ⟨v, hv, r⟩ := sp.l.sh i _ hρ
          have ev := RepR.fn (Or.inl r)
          subst ev
          refine ⟨Z.fa k, hv, (ok.def hks hf).1, ?_⟩
          refine sqL gdE sp e2 d fun ds q vs e1 via sq rs d1 => ?_
          obtain ⟨f', e3, hcl, e4⟩ := callV_some e1
          rw [hf] at e3
          cases e3
          exact ⟨k, f, rfl, hf, hks, call_done hcl sp via sq rs e4 d⟩
      · cases e2
    · unfold evE at e1
      split at e1 <;> cases e1
end
end Ev

/-! len(set(x)) of a tuple of ints. -/
namespace Ev
open L2 PyProof.Rows PySem PySem.Spec
theorem ddup_mem : ∀ {ns : List Int} {x : Int}, x ∈ ddup ns ↔ x ∈ ns
  | [], _ => Iff.rfl
  | y :: ys, x => by
    unfold ddup
    split
    · rename_i h
      rw [ddup_mem, List.mem_cons]
      exact ⟨.inr, fun z => z.elim (fun e => e ▸ h) id⟩
    · rw [List.mem_cons, List.mem_cons, ddup_mem]
theorem ddup_nodup : ∀ (ns : List Int), (ddup ns).Nodup
  | [] => List.nodup_nil
  | y :: ys => by
    unfold ddup
    split
    · exact ddup_nodup ys
    · rename_i h
      exact List.nodup_cons.mpr ⟨fun z => h (ddup_mem.mp z), ddup_nodup ys⟩
theorem intsOf_some : ∀ {ps : List PyData} {ns : List Int}, intsOf ps = some ns → ps = ns.map PyData.int
  | [], ns, h => by
    cases h
    rfl
  | p :: ps, ns, h => by
    unfold intsOf at h
    cases p with
    | int i =>
      cases e : intsOf ps with
      | none => simp [e] at h
      | some ms =>
        simp [e] at h
        subst h
        rw [intsOf_some e]
        rfl
    | _ => cases h
def tLenSetT (K : PySem.W.Frag) (ta : TE) : TE := fun σ H Q => ta σ H fun x H1 => ∃ (l : Addr) (ns : List Int), x = .ref l ∧ SqT K H1 l (ns.map V.int) ∧ ns.length ≤ 1000 ∧ Q (.int (ddup ns).length) H1
theorem pe_lenSetT {X : Cx} {a : Expr} {ta : TE} {p p2 q pos : Pos} (hg : Gl X "len") (hm : X.mg "len" = none) (hg2 : Gl X "set") (hm2 : X.mg "set" = none) (ha : PE X a ta) (hc : X.calm = true)
    (na : starEach [a] X.env = (false, eval a X.env) :: starEach [] X.env) : PE X (.Call (.Name "len" p) [.Call (.Name "set" p2) [a] [] q] [] pos) (tLenSetT X.K ta) := by
  refine ⟨fun pins s σ H Q I h => ?_⟩
  refine Call_ (ld_blt I hg hm boot_len ?_)
  refine PyProof.Rows.callWith_builtin1 (PyProof.Rows.args_cons ?_ rfl) rfl rfl
  refine Call_ (ld_blt I hg2 hm2 boot_set ?_)
  refine PyProof.Rows.callWith_type1 (PyProof.Rows.args_cons (thn (ha.run pins s σ H _ I h) fun v s1 ⟨x, H1, I1, r1, q1⟩ => PyProof.Rows.args_nil ?_) na) na rfl
  obtain ⟨l, ns, rfl, hq, hl, q1⟩ := q1
  cases r1
  obtain ⟨its, r, pl, hz⟩ := I1.tuple hq
  have hlen : its.toArray.size = ns.length := by rw [List.size_toArray, ← r.length, List.length_map]
  refine call_set_tupI ns (I1.ok.hd hc) (show s1.heap.IsTuple l its.toArray from pl) (by simpa using RZ.intsAre_vals r) (by unfold scanBound; omega) fun h' tk c R1 hcn k => ?_
  refine PyProof.Rows.args_nil ?_
  obtain ⟨o, es, ep, t, ho, hex, hd, g, nd, hm2, hb, hf, hn, hr, hl2⟩ := R1
  have pm : (es.toList.map keyOf).Perm (ddup ns) := (List.perm_ext_iff_of_nodup nd (ddup_nodup ns)).mpr fun j => by
    rw [← hm2 j, decide_eq_true_eq, ddup_mem]
  have hsz : es.size = (ddup ns).length := by
    rw [← pm.length_eq, List.length_map, Array.length_toList]
  have I2 : Inv X pins σ H1 { s1 with heap := h', toks := tk } := I1.kept fun b o e => k b o e
  exact call_len_set ho hex hd hf (by unfold scanBound at hb; omega) ⟨.int (ddup ns).length, H1, I2.tok _, ⟨_, by rw [hsz]⟩, q1⟩
section
variable {X : Cx} {Z : Zt} {Γ : Gam} {Fs : List Fn} {C : Nv → Clo} {Eo : XK}
theorem repPs_ints {F : Addr → Prop} {H : Hp} : ∀ {vs : List V} {ns : List Int}, RepPs F H vs (ns.map PyData.int) → vs = ns.map V.int
  | [], [], _ => rfl
  | [], _ :: _, h => by cases h
  | _ :: _, [], h => by cases h
  | v :: vs, n :: ns, h => by
    cases h with
    | cons h1 h2 =>
      cases h1
      rw [repPs_ints h2]
      rfl
theorem s_lset (ok : XOk X Z Γ Fs Eo) {a : E} {x : Expr} {p p2 q pos : Pos} (h1 : glB Γ "len" .free = true) (h2 : glB Γ "set" .free = true) (hu : unst x = true) (ha : PE X x (tE Z Eo (evE Fs C a))) :
    PE X (.Call (.Name "len" p) [.Call (.Name "set" p2) [x] [] q] [] pos) (tE Z Eo (evE Fs C (.lset a))) := by
  obtain ⟨a1, _, a3⟩ := glB_ok ok h1
  obtain ⟨b1, _, b3⟩ := glB_ok ok h2
  refine PE.imp (pe_lenSetT a1 a3 b1 b3 ha ok.calm (star_one hu)) fun σ H Q q => ?_
  obtain ⟨p, rfl, sp, z, hz, d⟩ := q
  unfold evE at hz
  refine sqE gdE sp hz d fun x m q v e1 via sq rx d1 => ?_
  obtain ⟨n, e2, e3⟩ := ob_some e1
  have ez := vl_some e3
  subst ez
  have e2 : lsetD x = some n := e2
  unfold lsetD at e2
  split at e2
  · split at e2
    · rename_i ps ns hi
      obtain ⟨hl, e2⟩ := if_some e2
      cases e2
      obtain ⟨b, vs, rfl, e, rs⟩ := (rx.r sq.l).tup
      have ei := intsOf_some hi
      subst ei
      have ev := repPs_ints rs
      subst ev
      refine ⟨b, ns, rfl, .inl (.inl e), hl, ?_⟩
      exact d1.sh sq (.py (.int _))
    · cases e2
  · cases e2
end
end Ev

/-! Built-in functions called; isinstance of data. -/
namespace Ev
open L2 PyProof.Rows PySem PySem.Spec
section
variable {X : Cx} {Z : Zt} {Γ : Gam} {Fs : List Fn} {C : Nv → Clo} {Eo : XK}
theorem biN_boot (b : Bi) : bootBuiltins (biN b) = some (biV b) := by
  cases b <;> kernel_rfl
theorem pe_callU {u : Value} {r : List V → Hp → VK → Prop} {x : Str} {p pos : Pos} {e : Expr} {es : List Expr} {t : TA} (hu : (∃ n, u = .builtin n) ∨ ∃ n, u = .type n) (hc : CallR X u r) (hg : Gl X x) (hm : X.mg x = none) (hv : bootBuiltins x = some u) (ha : PA X (e :: es) t) (hn : x ≠ "__name__") (hdb : (x == ("__debug__" : Str)) = false)
    (he : starEach (e :: es) X.env = (false, eval e X.env) :: starEach es X.env) (hpl : (backTo pos (starEach es X.env)).any (·.1) = false) : PE X (.Call (.Name x p) (e :: es) [] pos) (tCB r t) := by
  rcases hu with ⟨n, rfl⟩ | ⟨n, rfl⟩
  · exact pe_callB hc hg hm hv ha hn hdb he hpl
  · exact pe_callTy hc hg hm hv ha hn hdb he hpl
theorem biV_form (b : Bi) : (∃ n, biV b = .builtin n) ∨ ∃ n, biV b = .type n := by
  cases b <;> first | exact .inl ⟨_, rfl⟩ | exact .inr ⟨_, rfl⟩
theorem s_biC (ok : XOk X Z Γ Fs Eo) {b : Bi} {e : Expr} {es : List Expr} {as : Es} {p pos : Pos} (hg : glB Γ (biN b) .free = true) (hu : unst e = true) (hus : es.all unst = true) (hs : PA X (e :: es) (tL Z Eo (evL Fs C as))) :
    PE X (.Call (.Name (biN b) p) (e :: es) [] pos) (tE Z Eo (evE Fs C (.bi b as))) := by
  obtain ⟨h1, h2, h3⟩ := glB_ok ok hg
  have R := s_bi X Z ok.hK ok.calm ok.hh ok.hu ok.hg b
  have hc : CallR X (biV b) fun vs H Q => ∃ F : Addr → Prop, (R F).choose vs H Q := by
    intro pins s σ H vs us Q I r h
    obtain ⟨F, h⟩ := h
    exact (R F).choose_spec.1 pins s σ H vs us Q I r h
  refine PE.imp (pe_callU (biV_form b) hc h1 h3 (biN_boot b) hs (nm_all h2).2.2 (nm_all h2).1 (star_one hu) (star_all hus)) fun σ H Q q => ?_
  obtain ⟨p, rfl, sp, z, hz, d⟩ := q
  unfold evE at hz
  refine sqL gdE sp hz d fun ds q vs e1 via sq rs d1 => ?_
  obtain ⟨n, e2, k⟩ := New.at e1 sq d1
  exact ⟨q.F, (R q.F).choose_spec.2 q.φ q.H vs _ n Q (RepTs.rd sq rs) e2 k⟩
/-! isinstance -/
def tyN : D → Option String
  | .py .none => some "NoneType"
  | .py (.bool _) => some "bool"
  | .py (.int _) => some "int"
  | .py (.str _) => some "str"
  | .py (.tuple _) => some "tuple"
  | .py (.list _) => some "list"
  | .mt _ => some "tuple"
  | .ml _ => some "list"
  | _ => none
def tyS : Ty → Option String
  | .tup => some "tuple"
  | .int => some "int"
  | .bool => some "bool"
  | .str => some "str"
  | .lst => some "list"
  | _ => none
theorem ty_of {K : PySem.W.Frag} {F : Addr → Prop} {φ : List Addr} {H : Hp} {v : V} {d : D} {n : String} (r : RepR Z F φ H v d) (h : tyN d = some n) : L2.TyX K H v (.type n) := by
  unfold tyN at h
  split at h <;> cases h
  · rw [r.non]
    exact .base .non
  · rw [r.bl]
    exact .base (.bl _)
  · rw [r.int]
    exact .base (.int _)
  · rw [r.str]
    exact .base (.str _)
  · obtain ⟨a, vs, rfl, e, _⟩ := r.tup
    exact .base (.tup e)
  · obtain ⟨a, vs, rfl, e, _⟩ := r.lst
    exact .base (.lst e)
  · obtain ⟨a, vs, rfl, e, _⟩ := r.mt
    exact .base (.tup e)
  · obtain ⟨a, vs, rfl, e, _⟩ := r.ml
    exact .base (.lst e)
theorem RepR.nodict {F : Addr → Prop} {φ : List Addr} {H : Hp} {v : V} {kvs : List (PyData × PyData)} (h : RepR Z F φ H v (.py (.dict kvs))) : False := by
  rcases h with h | ⟨_, _, h⟩
  · cases h with | py h => cases h
  · exact h
theorem isi_kit {t : Ty} {d : D} {b : Bool} {s : String} (nd : ∀ kvs, d ≠ .py (.dict kvs)) (hs : tyS t = some s) (h : isi t d = some b) : ∃ n, tyN d = some n ∧ kitB n s = some b := by
  cases t with
  | exc c => cases hs
  | verr => cases hs
  | _ =>
    cases hs
    cases d with
    | py p =>
      cases p <;> first
        | exact absurd rfl (nd _)
        | (cases h; exact ⟨_, rfl, by kernel_rfl⟩)
        | cases h
    | mt xs => first
        | (cases h; exact ⟨_, rfl, by kernel_rfl⟩)
        | cases h
    | _ => cases h
def tyB (s : String) : Str := Str.ofString s
theorem boot_ty {t : Ty} {s : String} (h : tyS t = some s) : bootBuiltins (tyB s) = some (.type s) := by
  unfold tyS at h
  split at h <;> cases h <;> kernel_rfl
theorem s_isi (ok : XOk X Z Γ Fs Eo) {t : Ty} {s : String} {a : E} {e : Expr} {p p2 pos : Pos} (ht : tyS t = some s) (hg : glB Γ "isinstance" .free = true) (hg2 : glB Γ (tyB s) .free = true) (hu : unst e = true) (ha : PE X e (tE Z Eo (evE Fs C a))) :
    PE X (.Call (.Name "isinstance" p) [e, .Name (tyB s) p2] [] pos) (tE Z Eo (evE Fs C (.isi t a))) := by
  obtain ⟨h1, h2, h3⟩ := glB_ok ok hg
  obtain ⟨g1, g2, g3⟩ := glB_ok ok hg2
  have hT : PE X (.Name (tyB s) p2) (tC (.ty s)) := pe_bltn g1 g3 (boot_ty ht) rfl (nm_all g2).2.2 (nm_all g2).1
  refine PE.imp (pe_callB call_isi h1 h3 (by kernel_rfl) (pa_cons ha (pa_cons hT pa_nil) (star_one hu)) (nm_all h2).2.2 (nm_all h2).1 (star_one hu) (star_all rfl)) fun σ H Q q => ?_
  obtain ⟨p, rfl, sp, z, hz, d⟩ := q
  unfold evE at hz
  refine sqE gdE sp hz d fun x m q v h1 via sq rx d1 => ?_
  obtain ⟨b, e1, h1⟩ := ob_some h1
  rw [vl_some h1] at d1
  obtain ⟨n, e2, e3⟩ := isi_kit (fun kvs e => by have e : x = .py (.dict kvs) := e; rw [e] at rx; exact RepR.nodict (rx.r sq.l)) ht e1
  exact ⟨v, .ty s, .type n, .type s, b, rfl, .ty s, ty_of (rx.r sq.l) e2, kit_ty e3, d1.sh sq (rBl _)⟩
end
end Ev

/-! What is walked. -/
namespace Ev
open L2 PyProof.Rows PySem PySem.Spec
/-- a walk: a list or a tuple (numbered or not), numbers, two at once -/
inductive Wk where
  | l (a : Addr)
  | t (a : Addr)
  | el (a : Addr)
  | et (a : Addr)
  | r (lo : Int) (n : Nat)
  | rc (lo st : Int) (n : Nat)
  | zl (a b : Addr)
  | zt (a b : Addr)
def itOf (K : PySem.W.Frag) : Wk → It
  | .l a => Itl K a
  | .t a => Itt K a
  | .el a => Ite K a
  | .et a => IteT K a
  | .r lo n => Itr lo n
  | .rc lo st n => Itc lo st n
  | .zl a b => Itz K a b
  | .zt a b => RZ.ItzT K a b
/-- the lists among what is walked -/
def Wk.ls : Wk → List Addr
  | .l a => [a]
  | .el a => [a]
  | .zl a b => [a, b]
  | _ => []
def numsL (lo st : Int) (n : Nat) : List D := (List.range n).map fun (i : Nat) => .py (.int (lo + (i : Int) * st))
def WkAt (Z : Zt) (F : Addr → Prop) (φ : List Addr) (H : Hp) (xs : List D) : Wk → Prop
  | .l a => ∃ vs, SqL Z.K H a vs ∧ Reps Z F φ H vs xs
  | .t a => ∃ vs, SqT Z.K H a vs ∧ Reps Z F φ H vs xs
  | .el a => ∃ vs ds, SqL Z.K H a vs ∧ Reps Z F φ H vs ds ∧ xs = enuFrom 0 ds
  | .et a => ∃ vs ds, SqT Z.K H a vs ∧ Reps Z F φ H vs ds ∧ xs = enuFrom 0 ds
  | .r lo n => xs = numsL lo 1 n
  | .rc lo st n => xs = numsL lo st n
  | .zl a b => ∃ vs ws ds es, SqL Z.K H a vs ∧ SqL Z.K H b ws ∧ Reps Z F φ H vs ds ∧ Reps Z F φ H ws es ∧ xs = zipL ds es
  | .zt a b => ∃ vs ws ds es, SqT Z.K H a vs ∧ SqT Z.K H b ws ∧ Reps Z F φ H vs ds ∧ Reps Z F φ H ws es ∧ xs = zipL ds es
section
variable {Z : Zt} {F F' : Addr → Prop} {φ φ' : List Addr} {H H' : Hp} {xs : List D}
theorem SqL.kept {a : Addr} {vs : List V} (h : SqL Z.K H a vs) (s : Stay F φ H F' φ' H') (k : ∀ vs, H a = some (.lst vs) → H' a = some (.lst vs)) : SqL Z.K H' a vs := by
  rcases h with (h | ⟨o, h⟩) | h
  · exact .inl (.inl (k vs h))
  · exact .inl (.inr ⟨o, s.fro _ _ _ h⟩)
  · exact .inr h
theorem SqT.kept {a : Addr} {vs : List V} (h : SqT Z.K H a vs) (s : Stay F φ H F' φ' H') : SqT Z.K H' a vs := by
  rcases h with (h | ⟨o, h⟩) | h
  · exact .inl (.inl (s.tup _ _ h))
  · exact .inl (.inr ⟨o, s.fro _ _ _ h⟩)
  · exact .inr h
theorem WkAt.kept {w : Wk} (h : WkAt Z F φ H xs w) (s : Stay F φ H F' φ' H') (k : ∀ a ∈ w.ls, ∀ vs, H a = some (.lst vs) → H' a = some (.lst vs)) : WkAt Z F' φ' H' xs w := by
  cases w with
  | l a =>
    obtain ⟨vs, h1, h2⟩ := h
    exact ⟨vs, SqL.kept h1 s (k a (by simp [Wk.ls])), h2.stay s⟩
  | t a =>
    obtain ⟨vs, h1, h2⟩ := h
    exact ⟨vs, SqT.kept h1 s, h2.stay s⟩
  | el a =>
    obtain ⟨vs, ds, h1, h2, h3⟩ := h
    exact ⟨vs, ds, SqL.kept h1 s (k a (by simp [Wk.ls])), h2.stay s, h3⟩
  | et a =>
    obtain ⟨vs, ds, h1, h2, h3⟩ := h
    exact ⟨vs, ds, SqT.kept h1 s, h2.stay s, h3⟩
  | r lo n => exact h
  | rc lo st n => exact h
  | zl a b =>
    obtain ⟨vs, ws, ds, es, h1, h2, h3, h4, h5⟩ := h
    exact ⟨vs, ws, ds, es, SqL.kept h1 s (k a (by simp [Wk.ls])), SqL.kept h2 s (k b (by simp [Wk.ls])), h3.stay s, h4.stay s, h5⟩
  | zt a b =>
    obtain ⟨vs, ws, ds, es, h1, h2, h3, h4, h5⟩ := h
    exact ⟨vs, ws, ds, es, SqT.kept h1 s, SqT.kept h2 s, h3.stay s, h4.stay s, h5⟩
theorem enu_at : ∀ {ds : List D} {n i : Nat} {x : D}, (enuFrom n ds)[i]? = some x → ∃ d, ds[i]? = some d ∧ x = mkT [.py (.int ((n + i : Nat) : Int)), d]
  | [], n, i, x, h => by simp [enuFrom] at h
  | d :: ds, n, 0, x, h => by
    simp [enuFrom] at h
    exact ⟨d, rfl, h.symm⟩
  | d :: ds, n, i + 1, x, h => by
    obtain ⟨e, h1, h2⟩ := enu_at (ds := ds) (n := n + 1) (i := i) (by simpa [enuFrom] using h)
    exact ⟨e, by simpa using h1, by rw [h2, show n + 1 + i = n + (i + 1) by omega]⟩
theorem enu_len : ∀ (ds : List D) (n : Nat), (enuFrom n ds).length = ds.length
  | [], _ => rfl
  | d :: ds, n => congrArg (· + 1) (enu_len ds (n + 1))
theorem zip_at : ∀ {ds es : List D} {i : Nat} {x : D}, (zipL ds es)[i]? = some x → ∃ d e, ds[i]? = some d ∧ es[i]? = some e ∧ x = mkT [d, e]
  | [], es, i, x, h => by simp [zipL] at h
  | d :: ds, [], i, x, h => by simp [zipL] at h
  | d :: ds, e :: es, 0, x, h => by
    simp [zipL] at h
    exact ⟨d, e, rfl, rfl, h.symm⟩
  | d :: ds, e :: es, i + 1, x, h => by
    obtain ⟨d', e', h1, h2, h3⟩ := zip_at (ds := ds) (es := es) (i := i) (by simpa [zipL] using h)
    exact ⟨d', e', by simpa using h1, by simpa using h2, h3⟩
theorem zip_len : ∀ (ds es : List D), (zipL ds es).length = min ds.length es.length
  | [], es => by simp [zipL]
  | d :: ds, [] => by simp [zipL]
  | d :: ds, e :: es => by simp [zipL, zip_len ds es]
theorem Reps.lenEq {vs : List V} {ds : List D} (h : Reps Z F φ H vs ds) : vs.length = ds.length := h.len
/-- a pair that is made on the way -/
theorem pair_new {T : Addr} {v w : V} {d e : D} (hT : H T = none) (r1 : Rep Z F φ H v d) (r2 : Rep Z F φ H w e) : New Z F φ H (mkT [d, e]) false (.ref T) (upd H T (.tup [v, w])) :=
  .tup hT (Reps.mkT (.cons (r1.stay (stay_upd hT)) (.cons (r2.stay (stay_upd hT)) .nil)) upd_same)
theorem WkAt.item {w : Wk} {i : Nat} {d : D} (h : WkAt Z F φ H xs w) (hd : xs[i]? = some d) : (itOf Z.K w).go i H ∧ ∀ v H', (itOf Z.K w).yld i H v H' → New Z F φ H d false v H' := by
  cases w with
  | l a =>
    obtain ⟨vs, h1, h2⟩ := h
    obtain ⟨u, e, r⟩ := h2.get hd
    refine ⟨⟨vs, u, h1, e⟩, fun v H' ⟨e1, e2⟩ => ?_⟩
    have e3 := e2 vs h1
    rw [e] at e3
    cases e3
    rw [e1]
    exact .same r
  | t a =>
    obtain ⟨vs, h1, h2⟩ := h
    obtain ⟨u, e, r⟩ := h2.get hd
    refine ⟨⟨vs, u, h1, e⟩, fun v H' ⟨e1, e2⟩ => ?_⟩
    have e3 := e2 vs h1
    rw [e] at e3
    cases e3
    rw [e1]
    exact .same r
  | el a =>
    obtain ⟨vs, ds, h1, h2, rfl⟩ := h
    obtain ⟨d', e1, rfl⟩ := enu_at hd
    obtain ⟨u, e, r⟩ := h2.get e1
    refine ⟨⟨vs, u, h1, e⟩, fun v H' ⟨T, x, e2, e3, e4, e5⟩ => ?_⟩
    have e6 := e5 vs h1
    rw [e] at e6
    cases e6
    rw [e2, e4, show ((0 + i : Nat) : Int) = (i : Int) by omega]
    exact pair_new e3 (rInt _) r
  | et a =>
    obtain ⟨vs, ds, h1, h2, rfl⟩ := h
    obtain ⟨d', e1, rfl⟩ := enu_at hd
    obtain ⟨u, e, r⟩ := h2.get e1
    refine ⟨⟨vs, u, h1, e⟩, fun v H' ⟨T, x, e2, e3, e4, e5⟩ => ?_⟩
    have e6 := e5 vs h1
    rw [e] at e6
    cases e6
    rw [e2, e4, show ((0 + i : Nat) : Int) = (i : Int) by omega]
    exact pair_new e3 (rInt _) r
  | r lo n =>
    have h : xs = numsL lo 1 n := h
    subst h
    have hi : i < n := by
      have := (List.getElem?_eq_some_iff.mp hd).1
      simpa [numsL] using this
    have e : d = .py (.int (lo + i)) := by
      simp [numsL, hi] at hd
      exact hd.symm
    subst e
    exact ⟨hi, fun v H' ⟨e1, e2⟩ => by
      rw [e1, e2]
      exact .same (rInt _)⟩
  | rc lo st n =>
    have h : xs = numsL lo st n := h
    subst h
    have hi : i < n := by
      have := (List.getElem?_eq_some_iff.mp hd).1
      simpa [numsL] using this
    have e : d = .py (.int (lo + i * st)) := by
      simp [numsL, hi] at hd
      exact hd.symm
    subst e
    exact ⟨hi, fun v H' ⟨e1, e2⟩ => by
      rw [e1, e2]
      exact .same (rInt _)⟩
  | zl a b =>
    obtain ⟨vs, ws, ds, es, h1, h2, h3, h4, rfl⟩ := h
    obtain ⟨d', e', g1, g2, rfl⟩ := zip_at hd
    obtain ⟨u, e1, r1⟩ := h3.get g1
    obtain ⟨u2, e2, r2⟩ := h4.get g2
    refine ⟨⟨vs, ws, u, u2, h1, h2, e1, e2⟩, fun v H' ⟨T, x, y, e3, e4, e5, e6, e7⟩ => ?_⟩
    have e8 := e6 vs h1
    have e9 := e7 ws h2
    rw [e1] at e8
    rw [e2] at e9
    cases e8
    cases e9
    rw [e3, e5]
    exact pair_new e4 r1 r2
  | zt a b =>
    obtain ⟨vs, ws, ds, es, h1, h2, h3, h4, rfl⟩ := h
    obtain ⟨d', e', g1, g2, rfl⟩ := zip_at hd
    obtain ⟨u, e1, r1⟩ := h3.get g1
    obtain ⟨u2, e2, r2⟩ := h4.get g2
    refine ⟨⟨vs, ws, u, u2, h1, h2, e1, e2⟩, fun v H' ⟨T, x, y, e3, e4, e5, e6, e7⟩ => ?_⟩
    have e8 := e6 vs h1
    have e9 := e7 ws h2
    rw [e1] at e8
    rw [e2] at e9
    cases e8
    cases e9
    rw [e3, e5]
    exact pair_new e4 r1 r2
theorem WkAt.end {w : Wk} (h : WkAt Z F φ H xs w) : (itOf Z.K w).stop xs.length H := by
  cases w with
  | l a =>
    obtain ⟨vs, h1, h2⟩ := h
    exact ⟨vs, h1, Nat.le_of_eq h2.len⟩
  | t a =>
    obtain ⟨vs, h1, h2⟩ := h
    exact ⟨vs, h1, Nat.le_of_eq h2.len⟩
  | el a =>
    obtain ⟨vs, ds, h1, h2, rfl⟩ := h
    exact ⟨vs, h1, by rw [enu_len, h2.len]; exact Nat.le_refl _⟩
  | et a =>
    obtain ⟨vs, ds, h1, h2, rfl⟩ := h
    exact ⟨vs, h1, by rw [enu_len, h2.len]⟩
  | r lo n =>
    have h : xs = numsL lo 1 n := h
    subst h
    show n ≤ _
    simp [numsL]
  | rc lo st n =>
    have h : xs = numsL lo st n := h
    subst h
    show n ≤ _
    simp [numsL]
  | zl a b =>
    obtain ⟨vs, ws, ds, es, h1, h2, h3, h4, rfl⟩ := h
    refine ⟨vs, ws, h1, h2, ?_⟩
    rw [zip_len, h3.len, h4.len]
    omega
  | zt a b =>
    obtain ⟨vs, ws, ds, es, h1, h2, h3, h4, rfl⟩ := h
    refine ⟨vs, ws, h1, h2, ?_⟩
    rw [zip_len, h3.len, h4.len]
    omega
end
end Ev

/-! Sources of walks. -/
namespace Ev
open L2 PyProof.Rows PySem PySem.Spec
def DoneI (Z : Zt) (Eo : XK) (σ : Sx) (p : Pt) (R : It → Hp → Prop) : Rz Vl → Prop
  | .ok s => ∀ (q : Pt) (w : Wk) (xs : List D) (F' : Addr → Prop), q.ρ = s.ρ → q.M = s.M → Via σ p q → q.Sim Z σ → items s.d = some xs → WkAt Z q.F q.φ q.H xs w → (∀ a ∈ w.ls, a ∉ q.φ) → (∀ b, q.F b → F' b) →
    Via σ p ⟨fz s.m q.ρ, q.M, F', q.φ, q.H⟩ → Sim Z (fz s.m q.ρ) q.M F' q.φ σ q.H → (∀ a ∈ w.ls, ∀ vs, q.H a = some (.lst vs) → F' a) → R (itOf Z.K w) q.H
  | .er c v M => ErD Z Eo σ p c v M
def iS (Z : Zt) (Eo : XK) (f : Nv → Mem → RE) : TI := fun σ H R => ∃ p : Pt, p.H = H ∧ p.Sim Z σ ∧ ∃ r, f p.ρ p.M = some r ∧ DoneI Z Eo σ p R r
theorem PI.imp {X : Cx} {tg e : Expr} {t t' : TI} (h : PI X tg e t) (i : ∀ σ H R, t' σ H R → t σ H R) : PI X tg e t' := ⟨fun pins s σ H Q I q => h.run pins s σ H Q I (i _ _ _ q)⟩
section
variable {X : Cx} {Z : Zt} {Γ : Gam} {Fs : List Fn} {C : Nv → Clo} {Eo : XK}
theorem DoneI.rebase {σ : Sx} {p q : Pt} {R : It → Hp → Prop} {z : Rz Vl} (sp : p.Sim Z σ) (sq : q.Sim Z σ) (x : Via σ p q) (d : DoneI Z Eo σ p R z) : DoneI Z Eo σ q R z := by
  cases z with
  | ok r => exact fun s w xs F' e1 e2 y sy it wk h1 h2 v s2 h3 => d s w xs F' e1 e2 (x.trans sp y) sy it wk h1 h2 (x.trans sp v) s2 h3
  | er c v M => exact ErD.rebase sp x d
theorem gdI {σ : Sx} {R : It → Hp → Prop} : Gd Z Eo σ fun p (z : Rz Vl) => DoneI Z Eo σ p R z := ⟨fun _ _ _ _ _ h => h, fun _ _ _ sp sq x d => d.rebase sp sq x⟩
/-- what a frozen or owned list's place is not -/
theorem RepT.nocel {H0 : Hp} {ρ : Nv} {σ : Sx} {M : Mem} {F : Addr → Prop} {φ : List Addr} {H : Hp} {m : Md} {a : Addr} {d : D} {xs : List D} (g : GSim Z M F φ H) (l : LSim Z ρ F φ σ H) (h : RepT Z H0 ρ σ F φ H m (.ref a) d) (hd : items d = some xs) (hl : isLst d = true) : a ∉ φ := by
  have rep : Rep Z F φ H (.ref a) d → a ∉ φ := fun r => by
    cases r with
    | py r =>
      cases r with
      | lst hf _ _ => exact (g.dom a hf).2
      | tup _ _ => cases hl
    | mt _ _ => cases hl
    | ml hf _ _ => exact (g.dom a hf).2
    | fn k => cases hl
    | exc _ _ _ _ _ => cases hl
    | cel _ => cases hl
    | clo _ _ _ => cases hl
    | scr _ => cases hd
  cases m with
  | sh => exact rep h
  | fr =>
    obtain ⟨b, e, _, _, n, _⟩ := h
    cases e
    exact n
  | bo i =>
    obtain ⟨h1, fl, h2⟩ := h
    cases fl with
    | true =>
      obtain ⟨b, e, _, _, n, _⟩ := l.ow i d h2
      rw [h1] at e
      cases e
      exact n
    | false =>
      obtain ⟨v, e, r⟩ := l.sh i d h2
      rw [h1] at e
      cases e
      exact rep r
theorem Rep.lstF {F : Addr → Prop} {φ : List Addr} {H : Hp} {a : Addr} {d : D} {xs : List D} (h : Rep Z F φ H (.ref a) d) (hd : items d = some xs) (hl : isLst d = true) : F a := by
  cases h with
  | py r =>
    cases r with
    | lst hf _ _ => exact hf
    | tup _ _ => cases hl
  | mt _ _ => cases hl
  | ml hf _ _ => exact hf
  | fn k => cases hl
  | exc _ _ _ _ _ => cases hl
  | cel _ => cases hl
  | clo _ _ _ => cases hl
  | scr _ => cases hd
/-- a source at hand -/
theorem srcAt {σ : Sx} {p q : Pt} {x : D} {m : Md} {v : V} {xs : List D} (sp : p.Sim Z σ) (via : Via σ p q) (sq : q.Sim Z σ) (rx : RepT Z p.H q.ρ σ q.F q.φ q.H m v x) (hx : items x = some xs) :
    ∃ (F' : Addr → Prop) (b : Addr) (vs : List V), v = .ref b ∧ Reps Z q.F q.φ q.H vs xs ∧ (∀ b, q.F b → F' b) ∧ Via σ p ⟨fz m q.ρ, q.M, F', q.φ, q.H⟩ ∧ Sim Z (fz m q.ρ) q.M F' q.φ σ q.H ∧ (SqT Z.K q.H b vs ∧ isLst x = false ∨ SqL Z.K q.H b vs ∧ isLst x = true ∧ b ∉ q.φ ∧ F' b) := by
  obtain ⟨b, vs, rfl, hs, rs⟩ := seq_of (rx.r sq.l) hx
  obtain ⟨F', mo, nw, f, x1, s1, r1⟩ := give1 (q := q) via sp sq rx
  refine ⟨F', b, vs, rfl, rs, mo, x1, s1, ?_⟩
  rcases hs with ⟨h1, h2⟩ | ⟨h1, h2⟩
  · exact .inl ⟨h1, h2⟩
  · exact .inr ⟨h1, h2, RepT.nocel sq.g sq.l rx hx h2, r1.lstF hx h2⟩
theorem s_srcIt (hK : X.K = Z.K) {tg e : Expr} {a : E} (ha : PE X e (tE Z Eo (evE Fs C a))) : PI X tg e (iS Z Eo (evSrc Fs C (.it a))) := by
  refine ⟨fun pins s σ H R I h => ?_⟩
  obtain ⟨p, rfl, sp, z, hz, d⟩ := h
  unfold evSrc at hz
  have same : ∀ {x : D} {m : Md} {ρ : Nv} {M : Mem}, (ob (items x) fun _ => some (Rz.ok ⟨x, m, ρ, M⟩)) = some z → ∃ xs, items x = some xs ∧ z = .ok ⟨x, m, ρ, M⟩ := fun {x m ρ M} h => by
    obtain ⟨xs, h1, h2⟩ := ob_some h
    exact ⟨xs, h1, (Option.some.inj h2).symm⟩
  by_cases hl : ∃ r, z = .ok r ∧ isLst r.d = false
  · refine (pi_tup ha).run pins s σ p.H R I (sqE gdI sp hz d fun x m q v h1 via sq rx d1 => ?_)
    obtain ⟨xs, hx, rfl⟩ := same h1
    obtain ⟨r, e, hl⟩ := hl
    cases e
    obtain ⟨F', b, vs, rfl, rs, mo, x1, s1, hs⟩ := srcAt sp via sq rx hx
    rcases hs with ⟨h1, h2⟩ | ⟨_, h2, _⟩
    · rw [hK]
      exact ⟨b, rfl, ⟨vs, h1⟩, d q (.t b) xs F' rfl rfl via sq hx ⟨vs, h1, rs⟩ (fun c hc => by cases hc) mo x1 s1 fun c hc => by cases hc⟩
    · rw [hl] at h2
      cases h2
  · refine (pi_list ha).run pins s σ p.H R I (sqE gdI sp hz d fun x m q v h1 via sq rx d1 => ?_)
    obtain ⟨xs, hx, rfl⟩ := same h1
    obtain ⟨F', b, vs, rfl, rs, mo, x1, s1, hs⟩ := srcAt sp via sq rx hx
    rcases hs with ⟨h1, h2⟩ | ⟨h1, h2, h3, h4⟩
    · exact absurd ⟨_, rfl, h2⟩ hl
    · rw [hK]
      exact ⟨b, rfl, ⟨vs, h1⟩, d q (.l b) xs F' rfl rfl via sq hx ⟨vs, h1, rs⟩ (fun c hc => by
        rw [List.mem_singleton.mp hc]
        exact h3) mo x1 s1 fun c hc ws hw => by
        rw [List.mem_singleton.mp hc]
        exact h4⟩
/-- enumerate(e) -/
theorem s_srcEn (ok : XOk X Z Γ Fs Eo) {elts : List Expr} {kk : Nat} {e : Expr} {a : E} {p tp pos : Pos} (hg : glB Γ "enumerate" .free = true) (hu : unst e = true) (ha : PE X e (tE Z Eo (evE Fs C a))) :
    PI X (.Tuple elts kk tp) (.Call (.Name "enumerate" p) [e] [] pos) (iS Z Eo (evSrc Fs C (.enu a))) := by
  obtain ⟨h1, h2, h3⟩ := glB_ok ok hg
  refine PI.imp (pi_enA h1 h3 (pa_cons ha pa_nil (star_one hu)) (star_one hu)) fun σ H R q => ?_
  obtain ⟨p, rfl, sp, z, hz, d⟩ := q
  unfold evSrc at hz
  refine sqE gdI sp hz d fun x m q v e1 via sq rx d1 => ?_
  obtain ⟨xs, hx, e1⟩ := ob_some e1
  have e2 := vl_some e1
  subst e2
  obtain ⟨F', b, vs, rfl, rs, mo, x1, s1, hs⟩ := srcAt sp via sq rx hx
  rw [ok.hK]
  refine ⟨b, vs, rfl, ?_⟩
  rcases hs with ⟨g1, g2⟩ | ⟨g1, g2, g3, g4⟩
  · exact .inr ⟨g1, d q (.et b) (enuFrom 0 xs) F' rfl rfl via sq rfl ⟨vs, xs, g1, rs, rfl⟩ (fun c hc => by cases hc) mo x1 s1 fun c hc => by cases hc⟩
  · exact .inl ⟨g1, d q (.el b) (enuFrom 0 xs) F' rfl rfl via sq rfl ⟨vs, xs, g1, rs, rfl⟩ (fun c hc => by
      rw [List.mem_singleton.mp hc]
      exact g3) mo x1 s1 fun c hc ws hw => by
      rw [List.mem_singleton.mp hc]
      exact g4⟩
/-- range(..) -/
theorem rngL_some {lo hi st : Int} {xs : List D} (h : rngL lo hi st = some xs) : -(2 ^ 40) ≤ lo ∧ lo < 2 ^ 40 ∧ -(2 ^ 40) ≤ hi ∧ hi < 2 ^ 40 ∧ st ≠ 0 ∧ st.natAbs < 2 ^ 20 ∧ xs = numsL lo st (rngN lo hi st) := by
  unfold rngL at h
  obtain ⟨h1, h2⟩ := if_some h
  simp only [Bool.and_eq_true, decide_eq_true_eq] at h1
  obtain ⟨⟨⟨⟨⟨⟨a, b⟩, c⟩, d⟩, e⟩, f⟩, g⟩ := h1
  exact ⟨a, b, c, d, e, f, (Option.some.inj h2).symm⟩
theorem rngN1 (lo hi : Int) : rngN lo hi 1 = (hi - lo).toNat := by
  unfold rngN
  rw [if_pos (by decide), Int.ediv_one]
  congr 1
  omega
theorem rng_size {lo hi st : Int} (h : st ≠ 0) : Builtin.Range.rangeSize lo hi st = rngN lo hi st := by
  unfold Builtin.Range.rangeSize rngN
  by_cases hp : st > 0
  · rw [if_pos hp, if_pos hp]
    have e : hi - lo + st - 1 = (hi - lo - 1) + 1 * st := by omega
    rw [e, Int.add_mul_ediv_right _ _ (by omega)]
    by_cases hl : lo < hi
    · rw [if_pos hl]
      have := Int.ediv_nonneg (a := hi - lo - 1) (b := st) (by omega) (by omega)
      omega
    · rw [if_neg hl]
      have : (hi - lo - 1) / st < 0 := Int.ediv_neg_of_neg_of_pos (by omega) hp
      omega
  · rw [if_neg hp, if_neg hp]
    have hm : 0 < -st := by omega
    have e : lo - hi + -st - 1 = (lo - hi - 1) + 1 * -st := by omega
    rw [e, Int.add_mul_ediv_right _ _ (by omega)]
    by_cases hl : lo > hi
    · rw [if_pos hl]
      have := Int.ediv_nonneg (a := lo - hi - 1) (b := -st) (by omega) (by omega)
      omega
    · rw [if_neg hl]
      have : (lo - hi - 1) / -st < 0 := Int.ediv_neg_of_neg_of_pos (by omega) hm
      omega
theorem fits_long {x : Int} (h1 : -(2 ^ 62) ≤ x) (h2 : x < 2 ^ 62) : Builtin.Range.rangeFitsLong x = true := by
  unfold Builtin.Range.rangeFitsLong
  simp
  omega
theorem rng_small {lo hi st : Int} (h : st ≠ 0) (h1 : -(2 ^ 40) ≤ lo) (h2 : lo < 2 ^ 40) (h3 : -(2 ^ 40) ≤ hi) (h4 : hi < 2 ^ 40) (h5 : st.natAbs < 2 ^ 20) : Builtin.Range.small lo hi st = true := by
  have hs : 0 ≤ Builtin.Range.rangeSize lo hi st ∧ Builtin.Range.rangeSize lo hi st ≤ 2 ^ 41 := by
    unfold Builtin.Range.rangeSize
    split
    · split
      · have a := Int.ediv_nonneg (a := hi - lo - 1) (b := st) (by omega) (by omega)
        have b := Int.ediv_le_self (a := hi - lo - 1) st (by omega)
        omega
      · omega
    · split
      · have a := Int.ediv_nonneg (a := lo - hi - 1) (b := -st) (by omega) (by omega)
        have b := Int.ediv_le_self (a := lo - hi - 1) (-st) (by omega)
        omega
      · omega
  unfold Builtin.Range.small
  rw [fits_long (by omega) (by omega), fits_long (by omega) (by omega), fits_long (by omega) (by omega), fits_long (by omega) (by omega)]
  simp only [Bool.and_self, Bool.true_and, Bool.or_eq_true]
  right
  split
  · exact fits_long (by omega) (by omega)
  · exact fits_long (by omega) (by omega)
theorem rng_go {σ : Sx} {p q : Pt} {R : It → Hp → Prop} {z : Rz Vl} {w : Wk} {xs : List D} (via : Via σ p q) (sq : q.Sim Z σ) (d : DoneI Z Eo σ p R z) (h : vl (.ml xs) .sh q.ρ q.M = some z) (hw : WkAt Z q.F q.φ q.H xs w) (hl : w.ls = []) : R (itOf Z.K w) q.H := by
  rw [vl_some h] at d
  exact d q w xs q.F rfl rfl via sq rfl hw (by rw [hl]; exact fun a h => by cases h) (fun _ h => h) via sq (by rw [hl]; exact fun a h => by cases h)
theorem s_rng1 (ok : XOk X Z Γ Fs Eo) {tg eb : Expr} {b : E} {p pos : Pos} (hg : glB Γ "range" .free = true) (hu : unst eb = true) (hb : PE X eb (tE Z Eo (evE Fs C b))) : PI X tg (.Call (.Name "range" p) [eb] [] pos) (iS Z Eo (evSrc Fs C (.rng1 b))) := by
  obtain ⟨h1, h2, h3⟩ := glB_ok ok hg
  refine PI.imp (pi_range1 h1 h3 (pa_cons hb pa_nil (star_one hu)) (star_one hu)) fun σ H R q => ?_
  obtain ⟨p, rfl, sp, z, hz, d⟩ := q
  unfold evSrc at hz
  refine sqE gdI sp hz d fun x m q v e1 via sq rx d1 => ?_
  obtain ⟨j, rfl, e1⟩ := gi_some e1
  obtain ⟨xs, e2, e1⟩ := ob_some e1
  obtain ⟨_, _, g3, g4, _, _, rfl⟩ := rngL_some e2
  rw [rngN1] at e1
  refine ⟨j, by rw [(rx.r sq.l).int], by omega, by omega, ?_⟩
  have w := rng_go (w := .r 0 (j - 0).toNat) via sq d e1 rfl rfl
  rw [Int.sub_zero] at w
  exact w
theorem s_rng2 (ok : XOk X Z Γ Fs Eo) {tg ea eb : Expr} {a b : E} {p pos : Pos} (hg : glB Γ "range" .free = true) (hua : unst ea = true) (hu : unst eb = true) (ha : PE X ea (tE Z Eo (evE Fs C a))) (hb : PE X eb (tE Z Eo (evE Fs C b))) :
    PI X tg (.Call (.Name "range" p) [ea, eb] [] pos) (iS Z Eo (evSrc Fs C (.rng2 a b))) := by
  obtain ⟨h1, h2, h3⟩ := glB_ok ok hg
  refine PI.imp (pi_range2 h1 h3 (pa_cons ha (pa_cons hb pa_nil (star_one hu)) (star_one hua)) (by rw [star_one hua, star_one hu]; rfl) (star_one hu)) fun σ H R q => ?_
  obtain ⟨p, rfl, sp, z, hz, d⟩ := q
  unfold evSrc at hz
  refine sqE gdI sp hz d fun x m q v e1 via sq rx d1 => ?_
  obtain ⟨i, rfl, e1⟩ := gi_some e1
  refine sqE gdI sq e1 d1 fun y m2 t w e1 via2 st ry d2 => ?_
  obtain ⟨j, rfl, e1⟩ := gi_some e1
  obtain ⟨xs, e2, e1⟩ := ob_some e1
  obtain ⟨g1, g2, g3, g4, _, _, rfl⟩ := rngL_some e2
  rw [rngN1] at e1
  refine ⟨i, j, by rw [(rx.r sq.l).int, (ry.r st.l).int], ⟨by omega, by omega, by omega, by omega⟩, ?_⟩
  exact rng_go (w := .r i (j - i).toNat) (via.trans sp via2) st d e1 rfl rfl
theorem s_rng3 (ok : XOk X Z Γ Fs Eo) {tg ea eb ec : Expr} {a b c : E} {p pos : Pos} (hg : glB Γ "range" .free = true) (hua : unst ea = true) (hu : unst eb = true) (huc : unst ec = true) (ha : PE X ea (tE Z Eo (evE Fs C a))) (hb : PE X eb (tE Z Eo (evE Fs C b))) (hc : PE X ec (tE Z Eo (evE Fs C c))) :
    PI X tg (.Call (.Name "range" p) [ea, eb, ec] [] pos) (iS Z Eo (evSrc Fs C (.rng3 a b c))) := by
  obtain ⟨h1, h2, h3⟩ := glB_ok ok hg
  refine PI.imp (pi_range3 h1 h3 (pa_cons ha (pa_cons hb (pa_cons hc pa_nil (star_one huc)) (star_one hu)) (star_one hua)) (star_one hua) (star_all (by simp [hu, huc]))) fun σ H R q => ?_
  obtain ⟨p, rfl, sp, z, hz, d⟩ := q
  unfold evSrc at hz
  refine sqE gdI sp hz d fun x m q v e1 via sq rx d1 => ?_
  obtain ⟨i, rfl, e1⟩ := gi_some e1
  refine sqE gdI sq e1 d1 fun y m2 t w e1 via2 st ry d2 => ?_
  obtain ⟨j, rfl, e1⟩ := gi_some e1
  refine sqE gdI st e1 d2 fun y' m3 u w' e1 via3 su rz d3 => ?_
  obtain ⟨k, rfl, e1⟩ := gi_some e1
  obtain ⟨xs, e2, e1⟩ := ob_some e1
  obtain ⟨g1, g2, g3, g4, g5, g6, rfl⟩ := rngL_some e2
  refine ⟨i, j, k, rngN i j k, by rw [(rx.r sq.l).int, (ry.r st.l).int, (rz.r su.l).int], ⟨g5, by omega, rng_small g5 g1 g2 g3 g4 g6, rng_size g5⟩, ?_⟩
  exact rng_go (w := .rc i k (rngN i j k)) ((via.trans sp via2).trans sp via3) su d e1 rfl rfl
/-- zip(a, b), both of one kind -/
theorem s_srcZp (ok : XOk X Z Γ Fs Eo) {elts : List Expr} {kk : Nat} {ea eb : Expr} {a b : E} {p tp pos : Pos} (hg : glB Γ "zip" .free = true) (hua : unst ea = true) (hu : unst eb = true) (ha : PE X ea (tE Z Eo (evE Fs C a))) (hb : PE X eb (tE Z Eo (evE Fs C b))) :
    PI X (.Tuple elts kk tp) (.Call (.Name "zip" p) [ea, eb] [] pos) (iS Z Eo (evSrc Fs C (.zip a b))) := by
  obtain ⟨h1, h2, h3⟩ := glB_ok ok hg
  refine PI.imp (RZ.pi_zipA h1 h3 (pa_cons ha (pa_cons hb pa_nil (star_one hu)) (star_one hua)) (star_one hua) (star_all (by simp [hu]))) fun σ H R q => ?_
  obtain ⟨p, rfl, sp, z, hz, d⟩ := q
  unfold evSrc at hz
  refine sqE gdI sp hz d fun x m q v e1 via sq rx d1 => ?_
  refine sqE gdI sq e1 d1 fun y m2 t w e1 via2 st ry d2 => ?_
  obtain ⟨xs, hx, e1⟩ := ob_some e1
  obtain ⟨ys, hy, e1⟩ := ob_some e1
  have rx2 := RepT.via sq rx via2
  have ry2 : RepT Z p.H t.ρ σ t.F t.φ t.H m2 w y := ry.from via.post.dom
  have hne : (if (isLst x != isLst y) = true then (none : RE) else vl (.ml (zipL xs ys)) .sh (fz m2 (fz m t.ρ)) t.M) = some z := e1
  split at hne
  · cases hne
  rename_i hk
  have e2 := vl_some hne
  subst e2
  have rep : RepTs Z p.H t.ρ σ t.F t.φ t.H [v, w] [(x, m), (y, m2)] := by
    refine ⟨rx2, fun c q1 q2 j d' hj hf hv => ?_, ry2, fun c _ _ j d' hj => by simp at hj, trivial⟩
    cases j with
    | succ j => simp at hj
    | zero =>
      simp at hj hv
      subst hj
      have hf : m2 = .fr := hf
      subst hf
      obtain ⟨c', e3, _, _, _, _, n⟩ := ry
      have q1 : m = .fr := q1
      subst q1
      rw [hv] at e3
      cases e3
      exact RepT.nofr rx q2 n
  obtain ⟨F', mo, x1, s1, rs⟩ := gives (ρ := t.ρ) (F := t.F) (via.trans sp via2) sp st rep
  cases rs with
  | cons r1 rs =>
    cases rs with
    | cons r2 rs =>
      have sq1 : ∀ {d : D} {ds : List D} {v : V}, Rep Z F' t.φ t.H v d → items d = some ds → ∃ b vs, v = .ref b ∧ Reps Z F' t.φ t.H vs ds ∧ (SqT Z.K t.H b vs ∧ isLst d = false ∨ SqL Z.K t.H b vs ∧ isLst d = true ∧ F' b) := fun {d ds v} r hd => by
        obtain ⟨b, vs, rfl, hs, rs⟩ := seq_of (.inl r) hd
        exact ⟨b, vs, rfl, rs, hs.imp id fun h => ⟨h.1, h.2, r.lstF hd h.2⟩⟩
      obtain ⟨b1, vs1, rfl, rs1, k1⟩ := sq1 r1 hx
      obtain ⟨b2, vs2, rfl, rs2, k2⟩ := sq1 r2 hy
      rw [ok.hK]
      refine ⟨b1, b2, vs1, vs2, rfl, ?_⟩
      have go : ∀ w, WkAt Z F' t.φ t.H (zipL xs ys) w → (∀ a ∈ w.ls, F' a) → R (itOf Z.K w) t.H := fun w hw hl => by
        refine d ⟨fzs [(x, m), (y, m2)] t.ρ, t.M, F', t.φ, t.H⟩ w (zipL xs ys) F' rfl rfl x1 s1 rfl hw (fun a ha => (s1.g.dom a (hl a ha)).2) (fun _ h => h) x1 s1 fun a ha _ _ => hl a ha
      rcases k1 with ⟨g1, g2⟩ | ⟨g1, g2, g3⟩
      · rcases k2 with ⟨f1, f2⟩ | ⟨f1, f2, f3⟩
        · exact .inr ⟨g1, f1, go (.zt b1 b2) ⟨vs1, vs2, xs, ys, g1, f1, rs1, rs2, rfl⟩ fun a ha => by cases ha⟩
        · rw [g2, f2] at hk
          exact absurd rfl hk
      · rcases k2 with ⟨f1, f2⟩ | ⟨f1, f2, f3⟩
        · rw [g2, f2] at hk
          exact absurd rfl hk
        · exact .inl ⟨g1, f1, go (.zl b1 b2) ⟨vs1, vs2, xs, ys, g1, f1, rs1, rs2, rfl⟩ fun a ha => by
            rcases (show a = b1 ∨ a = b2 by simpa [Wk.ls] using ha) with e | e
            · rw [e]
              exact g3
            · rw [e]
              exact f3⟩
end
end Ev

/-! list(range(..)) -/
namespace Ev
open L2 PyProof.Rows PySem PySem.Spec
section
variable {X : Cx} {Z : Zt} {Γ : Gam} {Fs : List Fn} {C : Nv → Clo} {Eo : XK}
theorem bz_bz {α β γ : Type} {r : Option (Rz α)} {f : α → Option (Rz β)} {g : β → Option (Rz γ)} : bz (bz r f) g = bz r fun x => bz (f x) g := by
  cases r with
  | none => rfl
  | some y => cases y <;> rfl
theorem gi_bz {β γ : Type} {d : D} {k : Int → Option (Rz β)} {g : β → Option (Rz γ)} : bz (gi d k) g = gi d fun i => bz (k i) g := by
  unfold gi
  split <;> rfl
theorem ob_bz {α β γ : Type} {r : Option α} {k : α → Option (Rz β)} {g : β → Option (Rz γ)} : bz (ob r k) g = ob r fun i => bz (k i) g := by
  cases r <;> rfl
theorem rgs_rep {F : Addr → Prop} {H : Hp} (lo hi : Int) : RepPs F H (rgV lo hi) ((List.range (hi - lo).toNat).map fun (i : Nat) => .int (lo + (i : Int) * 1)) := by
  unfold rgV
  generalize List.range (hi - lo).toNat = l
  induction l with
  | nil => exact .nil
  | cons i l ih =>
    refine .cons ?_ ih
    show RepP F H (.int (lo + (i : Int))) (.int (lo + (i : Int) * 1))
    rw [Int.mul_one]
    exact .int _
theorem mkL_nums (lo hi : Int) : mkL (numsL lo 1 (hi - lo).toNat) = .py (.list ((List.range (hi - lo).toNat).map fun (i : Nat) => .int (lo + (i : Int) * 1))) := by
  unfold mkL numsL
  have e : ∀ l : List Nat, allPy (l.map fun (i : Nat) => D.py (.int (lo + (i : Int) * 1))) = some (l.map fun (i : Nat) => .int (lo + (i : Int) * 1)) := fun l => by
    induction l with
    | nil => rfl
    | cons i l ih =>
      rw [List.map_cons, List.map_cons]
      unfold allPy
      rw [ih]
  rw [e]
theorem lsr_end {σ : Sx} {q : Pt} {Q : VK} {z : Rz Vl} {lo hi : Int} {xs : List D} (sq : q.Sim Z σ) (d : Done Z Eo σ q Q z) (e2 : rngL lo hi 1 = some xs) (e : bz (vl (.ml xs) .sh q.ρ q.M) (fun s => ob (items s.d) fun xs => vl (mkL xs) .fr s.ρ s.M) = some z) :
    RgOk lo hi ∧ ∀ a, q.H a = none → Q (.ref a) (upd q.H a (.lst (rgV lo hi))) := by
  obtain ⟨g1, g2, g3, g4, _, _, rfl⟩ := rngL_some e2
  have hs : rngN lo hi 1 ≤ sizeLine := by
    unfold rngL at e2
    obtain ⟨h1, _⟩ := if_some e2
    simp only [Bool.and_eq_true, decide_eq_true_eq] at h1
    exact h1.2
  rw [rngN1] at e hs
  have hz : z = .ok ⟨mkL (numsL lo 1 (hi - lo).toNat), .fr, q.ρ, q.M⟩ := (Option.some.inj e).symm
  subst hz
  rw [mkL_nums] at d
  have hz : sizeLine ≤ 2 ^ 24 := by decide
  refine ⟨⟨by omega, by omega, by omega, by omega, Nat.le_trans hs hz⟩, fun a ha => ?_⟩
  exact New.done (fr := true) (d := .py (.list _)) (.lst ha ⟨_, upd_same, rgs_rep lo hi⟩) sq d
theorem s_lsr1 (ok : XOk X Z Γ Fs Eo) {eb : Expr} {b : E} {p p2 pos pos2 : Pos} (hl : glB Γ "list" .free = true) (hg : glB Γ "range" .free = true) (hu : unst eb = true) (hb : PE X eb (tE Z Eo (evE Fs C b))) :
    PE X (.Call (.Name "list" p2) [.Call (.Name "range" p) [eb] [] pos] [] pos2) (tE Z Eo (evE Fs C (.lsrc (.rng1 b)))) := by
  obtain ⟨l1, l2, l3⟩ := glB_ok ok hl
  obtain ⟨h1, h2, h3⟩ := glB_ok ok hg
  refine PE.imp (pe_listRg ok.calm l1 l3 (prg_1 h1 h3 hb (star_one hu))) fun σ H Q q => ?_
  obtain ⟨p, rfl, sp, z, hz, d⟩ := q
  unfold evE at hz
  unfold evSrc at hz
  rw [bz_bz] at hz
  refine sqE gdE sp hz d fun x m q v e1 via sq rx d1 => ?_
  rw [gi_bz] at e1
  obtain ⟨j, rfl, e1⟩ := gi_some e1
  rw [ob_bz] at e1
  obtain ⟨xs, e2, e1⟩ := ob_some e1
  exact ⟨j, (rx.r sq.l).int, lsr_end sq d1 e2 e1⟩
theorem s_lsr2 (ok : XOk X Z Γ Fs Eo) {ea eb : Expr} {a b : E} {p p2 pos pos2 : Pos} (hl : glB Γ "list" .free = true) (hg : glB Γ "range" .free = true) (hua : unst ea = true) (hu : unst eb = true) (ha : PE X ea (tE Z Eo (evE Fs C a))) (hb : PE X eb (tE Z Eo (evE Fs C b))) :
    PE X (.Call (.Name "list" p2) [.Call (.Name "range" p) [ea, eb] [] pos] [] pos2) (tE Z Eo (evE Fs C (.lsrc (.rng2 a b)))) := by
  obtain ⟨l1, l2, l3⟩ := glB_ok ok hl
  obtain ⟨h1, h2, h3⟩ := glB_ok ok hg
  refine PE.imp (pe_listRg ok.calm l1 l3 (prg_2 h1 h3 ha hb (star_one hua) (star_one hu) (star_all (by simp [hu])))) fun σ H Q q => ?_
  obtain ⟨p, rfl, sp, z, hz, d⟩ := q
  unfold evE at hz
  unfold evSrc at hz
  rw [bz_bz] at hz
  refine sqE gdE sp hz d fun x m q v e1 via sq rx d1 => ?_
  rw [gi_bz] at e1
  obtain ⟨i, rfl, e1⟩ := gi_some e1
  rw [bz_bz] at e1
  refine sqE gdE sq e1 d1 fun y m2 t w e1 via2 st ry d2 => ?_
  rw [gi_bz] at e1
  obtain ⟨j, rfl, e1⟩ := gi_some e1
  rw [ob_bz] at e1
  obtain ⟨xs, e2, e1⟩ := ob_some e1
  exact ⟨i, j, (rx.r sq.l).int, (ry.r st.l).int, lsr_end st d2 e2 e1⟩
end
end Ev

/-! Slots that are set, forgotten, set back; targets. -/
namespace Ev
open L2 PyProof.Rows PySem PySem.Spec
theorem wipeN_at (j : Nat) : ∀ (vs : List Nat) (ρ : Nv), (wipeN ρ vs)[j]? = if j ∈ vs then (if j < ρ.length then some none else none) else ρ[j]? := by
  intro vs
  have len : ∀ (vs : List Nat) (ρ : Nv), (wipeN ρ vs).length = ρ.length := fun vs ρ => by
    induction vs with
    | nil => rfl
    | cons v vs ih => show ((wipeN ρ vs).set v none).length = _; rw [List.length_set, ih]
  induction vs with
  | nil => intro ρ; simp [wipeN]
  | cons v vs ih =>
    intro ρ
    show ((wipeN ρ vs).set v none)[j]? = _
    rw [List.getElem?_set]
    by_cases h : v = j
    · subst h
      simp [len]
    · rw [if_neg h, ih]
      by_cases h2 : j ∈ vs
      · simp [h2]
      · simp [h2, Ne.symm h]
theorem wipeN_len : ∀ (vs : List Nat) (ρ : Nv), (wipeN ρ vs).length = ρ.length
  | [], _ => rfl
  | v :: vs, ρ => by
    show ((wipeN ρ vs).set v none).length = _
    rw [List.length_set, wipeN_len vs ρ]
theorem wipe_at (j : Nat) : ∀ (vs : List Nat) (σ : Sx), (L2.wipe σ vs)[j]? = if j ∈ vs then (if j < σ.length then some none else none) else σ[j]? := by
  intro vs
  induction vs with
  | nil => intro ρ; simp [L2.wipe]
  | cons v vs ih =>
    intro ρ
    show ((L2.wipe ρ vs).set v none)[j]? = _
    rw [List.getElem?_set]
    by_cases h : v = j
    · subst h
      simp [L2.wipe_length]
    · rw [if_neg h, ih]
      by_cases h2 : j ∈ vs
      · simp [h2]
      · simp [h2, Ne.symm h]
theorem backN_len (ρ0 : Nv) : ∀ (vs : List Nat) (ρ : Nv), (backN ρ0 ρ vs).length = ρ.length
  | [], _ => rfl
  | v :: vs, ρ => by
    show ((backN ρ0 ρ vs).set v _).length = _
    rw [List.length_set, backN_len ρ0 vs ρ]
theorem backN_at (ρ0 : Nv) (j : Nat) : ∀ (vs : List Nat) (ρ : Nv), (backN ρ0 ρ vs)[j]? = if j ∈ vs then (if j < ρ.length then some (ρ0.getD j none) else none) else ρ[j]? := by
  intro vs
  induction vs with
  | nil => intro ρ; simp [backN]
  | cons v vs ih =>
    intro ρ
    show ((backN ρ0 ρ vs).set v (ρ0.getD v none))[j]? = _
    rw [List.getElem?_set]
    by_cases h : v = j
    · subst h
      simp [backN_len]
    · rw [if_neg h, ih]
      by_cases h2 : j ∈ vs
      · simp [h2]
      · simp [h2, Ne.symm h]
theorem back_in {ρ0 ρ : Nv} {vs : List Nat} {j : Nat} {s : Slot} (hl : ρ0.length = ρ.length) (hj : j ∈ vs) (h : (backN ρ0 ρ vs)[j]? = some s) : ρ0[j]? = some s := by
  rw [backN_at, if_pos hj] at h
  split at h
  · rename_i hlt
    rw [← hl] at hlt
    rw [List.getElem?_eq_getElem hlt]
    simpa [List.getD, hlt] using h
  · cases h
theorem back_out {ρ0 ρ : Nv} {vs : List Nat} {j : Nat} (hj : j ∉ vs) : (backN ρ0 ρ vs)[j]? = ρ[j]? := by
  rw [backN_at, if_neg hj]
theorem wipe_eq {σ σ' : Sx} {vs : List Nat} (hl : σ'.length = σ.length) (h : ∀ j, j ∉ vs → σ'[j]? = σ[j]?) : L2.wipe σ' vs = L2.wipe σ vs := by
  apply List.ext_getElem?
  intro j
  rw [wipe_at, wipe_at]
  by_cases hj : j ∈ vs
  · simp [hj, hl]
  · simp [hj, h j hj]
section
variable {Z : Zt} {σ σ' : Sx} {ρ ρ' : Nv} {M : Mem} {F F' : Addr → Prop} {φ φ' : List Addr} {H H' : Hp}
theorem LSim.wiped (l : LSim Z ρ F φ σ H) (vs : List Nat) : LSim Z (wipeN ρ vs) F φ (L2.wipe σ vs) H := by
  have out : ∀ {j : Nat} {s : D × Bool}, (wipeN ρ vs)[j]? = some (some s) → ρ[j]? = some (some s) ∧ j ∉ vs := fun {j s} h => by
    rw [wipeN_at] at h
    split at h
    · split at h <;> cases h
    · exact ⟨h, ‹_›⟩
  have inn : ∀ {j : Nat}, j ∉ vs → (L2.wipe σ vs)[j]? = σ[j]? := fun {j} h => by rw [wipe_at, if_neg h]
  refine ⟨by rw [wipeN_len, L2.wipe_length, l.len], fun i d h => ?_, fun i d h => ?_, l.ent, fun i j d e a h1 h2 h3 h4 => ?_⟩
  · obtain ⟨h1, h2⟩ := out h
    rw [inn h2]
    exact l.sh i d h1
  · obtain ⟨h1, h2⟩ := out h
    rw [inn h2]
    exact l.ow i d h1
  · obtain ⟨g1, g2⟩ := out h1
    obtain ⟨g3, g4⟩ := out h2
    rw [inn g2] at h3
    rw [inn g4] at h4
    exact l.inj i j d e a g1 g3 h3 h4
theorem own_wiped {vs : List Nat} {b : Addr} (h : Own (wipeN ρ vs) (L2.wipe σ vs) b) : ∃ (i : Nat) (d : D), i ∉ vs ∧ ρ[i]? = some (some (d, true)) ∧ σ[i]? = some (some (.ref b)) := by
  obtain ⟨i, d, h1, h2⟩ := h
  rw [wipeN_at] at h1
  split at h1
  · split at h1 <;> cases h1
  · rename_i hj
    rw [wipe_at, if_neg hj] at h2
    exact ⟨i, d, hj, h1, h2⟩
/-- behind a block its names stand as they stood -/
theorem LSim.back {vs : List Nat} (l : LSim Z ρ F φ σ H) (g : GSim Z M F φ H) (x : Post (Own (wipeN ρ vs) (L2.wipe σ vs)) no1 F φ H F' φ' H') (l' : LSim Z ρ' F' φ' (L2.wipe σ vs) H') (f : Fz (wipeN ρ vs) ρ') : LSim Z (backN ρ ρ' vs) F' φ' σ H' := by
  have st := x.stayE g
  have hl : ρ.length = ρ'.length := by rw [f.1, wipeN_len]
  have inn : ∀ {j : Nat}, j ∉ vs → (L2.wipe σ vs)[j]? = σ[j]? := fun {j} h => by rw [wipe_at, if_neg h]
  refine ⟨by rw [backN_len, ← hl, l.len], fun i d h => ?_, fun i d h => ?_, fun b h => l.ent b (x.dom b h), fun i j d e a h1 h2 h3 h4 => ?_⟩
  · by_cases hj : i ∈ vs
    · obtain ⟨v, e, r⟩ := l.sh i d (back_in hl hj h)
      exact ⟨v, e, r.stay st⟩
    · rw [back_out hj] at h
      have w := l'.sh i d h
      rw [inn hj] at w
      exact w
  · by_cases hj : i ∈ vs
    · have h0 := back_in hl hj h
      obtain ⟨a, e, r, n1, n2, n3⟩ := l.ow i d h0
      obtain ⟨us, hv⟩ := r.lst
      refine ⟨a, e, r.stay st fun us h => x.keep a _ h n2 (fun z => z) (fun _ z => nomatch z), fun z => ?_, fun z => ?_, n3⟩
      · rcases x.new a z with q | q | q
        · exact n1 q
        · rw [q] at hv
          cases hv
        · obtain ⟨i', d', g1, g2, g3⟩ := own_wiped q
          have e2 := l.inj i i' d d' a h0 g2 e g3
          exact g1 (e2 ▸ hj)
      · obtain ⟨ψ, e2, hψ⟩ := x.ext
        rw [e2] at z
        rcases List.mem_append.mp z with z | z
        · exact n2 z
        · rw [hψ a z] at hv
          cases hv
    · rw [back_out hj] at h
      have w := l'.ow i d h
      rw [inn hj] at w
      exact w
  · have was : ∀ {i : Nat} {d : D}, (backN ρ ρ' vs)[i]? = some (some (d, true)) → ∃ d', ρ[i]? = some (some (d', true)) := fun {i d} h => by
      by_cases hj : i ∈ vs
      · exact ⟨d, back_in hl hj h⟩
      · rw [back_out hj] at h
        have hi : i < (wipeN ρ vs).length := by
          rw [← f.1]
          exact (List.getElem?_eq_some_iff.mp h).1
        cases e : (wipeN ρ vs)[i]? with
        | none => rw [List.getElem?_eq_none_iff] at e; omega
        | some s =>
          cases s with
          | none =>
            rw [(f.2 i).1 e] at h
            cases h
          | some q =>
            obtain ⟨d', fl⟩ := q
            obtain ⟨fl', h3, gg⟩ := (f.2 i).2 d' fl e
            rw [h3] at h
            cases h
            have z := gg rfl
            subst z
            rw [wipeN_at, if_neg hj] at e
            exact ⟨_, e⟩
    obtain ⟨d1, g1⟩ := was h1
    obtain ⟨d2, g2⟩ := was h2
    exact l.inj i j d1 d2 a g1 g2 h3 h4
/-- a slot is set to a value that stands -/
theorem LSim.set (l : LSim Z ρ F φ σ H) {i : Nat} {v : V} {d : D} (r : Rep Z F φ H v d) : LSim Z (ρ.set i (some (d, false))) F φ (σ.set i (some v)) H := by
  refine ⟨by rw [List.length_set, List.length_set, l.len], fun j e h => ?_, fun j e h => ?_, l.ent, fun j k d1 d2 a h1 h2 h3 h4 => ?_⟩
  · rw [List.getElem?_set] at h ⊢
    split at h
    · rename_i q
      split at h
      · cases h
        rename_i q2
        rw [l.len] at q2
        rw [if_pos q, if_pos q2]
        exact ⟨v, rfl, r⟩
      · cases h
    · rename_i q
      rw [if_neg q]
      exact l.sh j e h
  · rw [List.getElem?_set] at h ⊢
    split at h
    · split at h <;> cases h
    · rename_i q
      rw [if_neg q]
      exact l.ow j e h
  · rw [List.getElem?_set] at h1 h2 h3 h4
    split at h1
    · split at h1 <;> cases h1
    · split at h2
      · split at h2 <;> cases h2
      · rename_i q1 q2
        rw [if_neg q1] at h3
        rw [if_neg q2] at h4
        exact l.inj j k d1 d2 a h1 h2 h3 h4
/-- a slot is set to a list that stands alone -/
theorem LSim.setO (l : LSim Z ρ F φ σ H) {i : Nat} {a : Addr} {d : D} (r : OwnR Z F φ H a d) (n1 : ¬ F a) (n2 : a ∉ φ) (n3 : Z.H0 a = none) (n4 : ∀ (j : Nat) (e : D), j ≠ i → ρ[j]? = some (some (e, true)) → σ[j]? ≠ some (some (V.ref a))) :
    LSim Z (ρ.set i (some (d, true))) F φ (σ.set i (some (.ref a))) H := by
  refine ⟨by rw [List.length_set, List.length_set, l.len], fun j e h => ?_, fun j e h => ?_, l.ent, fun j k d1 d2 b h1 h2 h3 h4 => ?_⟩
  · rw [List.getElem?_set] at h ⊢
    split at h
    · split at h <;> cases h
    · rename_i q
      rw [if_neg q]
      exact l.sh j e h
  · rw [List.getElem?_set] at h ⊢
    split at h
    · rename_i q
      split at h
      · cases h
        rename_i q2
        rw [l.len] at q2
        rw [if_pos q, if_pos q2]
        exact ⟨a, rfl, r, n1, n2, n3⟩
      · cases h
    · rename_i q
      rw [if_neg q]
      exact l.ow j e h
  · rw [List.getElem?_set] at h1 h2 h3 h4
    by_cases q1 : i = j
    · by_cases q2 : i = k
      · exact q1.symm.trans q2
      · rw [if_neg q2] at h2 h4
        rw [if_pos q1] at h3
        split at h3
        · cases h3
          exact absurd h4 (n4 k d2 (Ne.symm q2) h2)
        · cases h3
    · rw [if_neg q1] at h1 h3
      by_cases q2 : i = k
      · rw [if_pos q2] at h4
        split at h4
        · cases h4
          exact absurd h3 (n4 j d1 (Ne.symm q1) h1)
        · cases h4
      · rw [if_neg q2] at h2 h4
        exact l.inj j k d1 d2 b h1 h2 h3 h4
end
/-! ### targets -/
mutual
def slotsT : T → List Nat
  | .nm i => [i]
  | .tp ts => slotsTs ts
def slotsTs : List T → List Nat
  | [] => []
  | t :: ts => slotsT t ++ slotsTs ts
end
def locB (Γ : Gam) (i : Nat) (x : Str) : Bool := decide (Γ.N[i]? = some x) && (decide (Γ.sc.names.lookup x = some .local) || decide (Γ.sc.names.lookup x = some .cell))
mutual
def ckT (Γ : Gam) : T → Expr → Bool
  | .nm i, .Name x _ => locB Γ i x
  | .tp ts, .Tuple es _ _ => es.all unst && ckTs Γ ts es
  | _, _ => false
def ckTs (Γ : Gam) : List T → List Expr → Bool
  | [], [] => true
  | t :: ts, e :: es => ckT Γ t e && ckTs Γ ts es
  | _, _ => false
end
def gT (Z : Zt) (t : T) : TG := fun v σ H Q => ∃ (p : Pt) (d : D) (ρ' : Nv), p.H = H ∧ p.Sim Z σ ∧ Rep Z p.F p.φ p.H v d ∧ bindT t d p.ρ = some ρ' ∧ ∀ σ', σ'.length = σ.length → (∀ j, j ∉ slotsT t → σ'[j]? = σ[j]?) → LSim Z ρ' p.F p.φ σ' p.H → Q σ' H
def gTs (Z : Zt) (ts : List T) : TGs := fun vs σ H Q => ∃ (p : Pt) (ds : List D) (ρ' : Nv), p.H = H ∧ p.Sim Z σ ∧ Reps Z p.F p.φ p.H vs ds ∧ bindTs ts ds p.ρ = some ρ' ∧ ∀ σ', σ'.length = σ.length → (∀ j, j ∉ slotsTs ts → σ'[j]? = σ[j]?) → LSim Z ρ' p.F p.φ σ' p.H → Q σ' H
theorem PG.imp {X : Cx} {tg : Expr} {t t' : TG} (h : PG X tg t) (i : ∀ v σ H Q, t' v σ H Q → t v σ H Q) : PG X tg t' := ⟨fun pins s σ H v u Q I r q => h.run pins s σ H v u Q I r (i _ _ _ _ q)⟩
theorem PGs.imp {X : Cx} {tg : List Expr} {t t' : TGs} (h : PGs X tg t) (i : ∀ v σ H Q, t' v σ H Q → t v σ H Q) : PGs X tg t' := ⟨fun pins s σ H v u Q I r q => h.run pins s σ H v u Q I r (i _ _ _ _ q)⟩
end Ev

/-! Targets; comprehensions. -/
namespace Ev
open L2 PyProof.Rows PySem PySem.Spec
section
variable {X : Cx} {Z : Zt} {Γ : Gam} {Fs : List Fn} {C : Nv → Clo} {Eo : XK}
theorem locB_ok {i : Nat} {x : Str} (ok : XOk X Z Γ Fs Eo) (h : locB Γ i x = true) : X.N[i]? = some x ∧ Loc X.env.scope x ∧ (X.fn x = true ∨ X.env.scope.names.lookup x = some .local) := by
  unfold locB at h
  simp only [Bool.and_eq_true, Bool.or_eq_true, decide_eq_true_eq] at h
  obtain ⟨h1, h2⟩ := ok.loc x h.2
  exact ⟨by rw [ok.hN]; exact h.1, h1, h2⟩
theorem Reps.itT {F : Addr → Prop} {φ : List Addr} {H : Hp} {v : V} {d : D} {ds : List D} (r : Rep Z F φ H v d) (h : itemsT d = some ds) : ∃ a vs, v = .ref a ∧ SqT Z.K H a vs ∧ Reps Z F φ H vs ds := by
  unfold itemsT at h
  split at h
  · cases h
    obtain ⟨a, vs, rfl, e, rs⟩ := RepR.tup (.inl r)
    exact ⟨a, vs, rfl, SqT.of e, rs.reps⟩
  · cases h
    obtain ⟨a, vs, rfl, e, rs⟩ := RepR.mt (.inl r)
    exact ⟨a, vs, rfl, SqT.of e, rs⟩
  · cases h
theorem bindTs_len : ∀ {ts : List T} {ds : List D} {ρ ρ' : Nv}, bindTs ts ds ρ = some ρ' → ts.length = ds.length
  | [], [], _, _, _ => rfl
  | t :: ts, d :: ds, ρ, ρ', h => by
    unfold bindTs at h
    obtain ⟨ρ1, _, h2⟩ := ob_some h
    exact congrArg (· + 1) (bindTs_len h2)
  | [], _ :: _, _, _, h => by cases h
  | _ :: _, [], _, _, h => by cases h
theorem ckTs_len : ∀ {ts : List T} {es : List Expr}, ckTs Γ ts es = true → ts.length = es.length
  | [], [], _ => rfl
  | t :: ts, e :: es, h => by
    unfold ckTs at h
    rw [Bool.and_eq_true] at h
    exact congrArg (· + 1) (ckTs_len h.2)
  | [], _ :: _, h => by cases h
  | _ :: _, [], h => by cases h
theorem assign_len {env : Env} : ∀ (es : List Expr), (assignEach es env).length = es.length
  | [] => rfl
  | e :: es => by
    have := assign_len (env := env) es
    cases e <;> exact congrArg (· + 1) this
theorem assign_nost {env : Env} : ∀ {es : List Expr}, es.all unst = true → (assignEach es env).findIdx? (·.1) = none
  | [], _ => rfl
  | e :: es, h => by
    simp only [List.all_cons, Bool.and_eq_true] at h
    rw [assign_one h.1, List.findIdx?_cons]
    simp [assign_nost h.2]
mutual
theorem s_tgt (ok : XOk X Z Γ Fs Eo) : ∀ (t : T) (e : Expr), ckT Γ t e = true → PG X e (gT Z t)
  | .nm i, e, h => by
    cases e with
    | Name x pos =>
      have h : locB Γ i x = true := h
      obtain ⟨h1, h2, h3⟩ := locB_ok ok h
      refine PG.imp (pg_name (by rw [ok.hN]; exact ok.nd) h1 h2 h3) fun v σ H Q q => ?_
      obtain ⟨p, d, ρ', rfl, sp, r, hb, k⟩ := q
      have hb : some (p.ρ.set i (some (d, false))) = some ρ' := hb
      cases hb
      exact k _ (by rw [List.length_set]) (fun j hj => by
        rw [List.getElem?_set_ne]
        exact fun z => hj (by simp [slotsT, z])) (sp.l.set r)
    | _ => cases h
  | .tp ts, e, h => by
    cases e with
    | Tuple es k pos =>
      have h : (es.all unst && ckTs Γ ts es) = true := h
      rw [Bool.and_eq_true] at h
      have hl := ckTs_len h.2
      refine PG.imp (pg_tup (n := es.length) ok.calm (s_tgts ok ts es h.2 h.1) (assign_len es) (assign_nost h.1)) fun v σ H Q q => ?_
      obtain ⟨p, d, ρ', rfl, sp, r, hb, k⟩ := q
      have hb : ob (itemsT d) (fun ds => bindTs ts ds p.ρ) = some ρ' := hb
      obtain ⟨ds, h1, h2⟩ := ob_some hb
      obtain ⟨a, vs, rfl, hs, rs⟩ := Reps.itT r h1
      exact ⟨a, vs, rfl, by rw [ok.hK]; exact hs, by rw [rs.len, ← bindTs_len h2, hl], p, ds, ρ', rfl, sp, rs, h2, k⟩
    | _ => cases h
theorem s_tgts (ok : XOk X Z Γ Fs Eo) : ∀ (ts : List T) (es : List Expr), ckTs Γ ts es = true → es.all unst = true → PGs X es (gTs Z ts)
  | [], [], _, _ => PGs.imp pgs_nil fun vs σ H Q q => by
    obtain ⟨p, ds, ρ', rfl, sp, r, hb, k⟩ := q
    cases ds with
    | nil =>
      cases r
      have hb : some p.ρ = some ρ' := hb
      cases hb
      exact ⟨rfl, k σ rfl (fun _ _ => rfl) sp.l⟩
    | cons d ds => cases hb
  | t :: ts, e :: es, h, hu => by
    have h : (ckT Γ t e && ckTs Γ ts es) = true := h
    rw [Bool.and_eq_true] at h
    simp only [List.all_cons, Bool.and_eq_true] at hu
    refine PGs.imp (pgs_cons (s_tgt ok t e h.1) (s_tgts ok ts es h.2 hu.2) (by rw [assign_one hu.1]; rfl)) fun vs σ H Q q => ?_
    obtain ⟨p, ds, ρ', rfl, sp, r, hb, k⟩ := q
    cases r with
    | nil => cases hb
    | @cons v vs d ds r1 r2 =>
      have hb : ob (bindT t d p.ρ) (fun ρ1 => bindTs ts ds ρ1) = some ρ' := hb
      obtain ⟨ρ1, h1, h2⟩ := ob_some hb
      refine ⟨v, vs, rfl, p, d, ρ1, rfl, sp, r1, h1, fun σ1 l1 k1 sl => ?_⟩
      refine ⟨⟨ρ1, p.M, p.F, p.φ, p.H⟩, ds, ρ', rfl, ⟨sp.g, sl⟩, r2, h2, fun σ2 l2 k2 sl2 => k σ2 (l2.trans l1) (fun j hj => ?_) sl2⟩
      have hj : j ∉ slotsT t ++ slotsTs ts := hj
      rw [List.mem_append, not_or] at hj
      rw [k2 j hj.2, k1 j hj.1]
  | [], _ :: _, h, _ => by cases h
  | _ :: _, [], h, _ => by cases h
end
end
end Ev

/-! Comprehensions. -/
namespace Ev
open L2 PyProof.Rows PySem PySem.Spec
abbrev noX : XK := fun _ _ _ => False
section
variable {X : Cx} {Z : Zt} {Γ : Gam} {Fs : List Fn} {C : Nv → Clo} {Eo : XK}
theorem sqI {σ : Sx} {p : Pt} {β : Type} {G : Pt → Rz β → Prop} (g : Gd Z Eo σ G) {f : Nv → Mem → RE} {k : Vl → Option (Rz β)} {z : Rz β} {R : It → Hp → Prop} (sp : p.Sim Z σ) (h : bz (f p.ρ p.M) k = some z) (d : G p z)
    (hk : ∀ (d : D) (m : Md) (q : Pt) (w : Wk) (xs : List D) (F' : Addr → Prop), k ⟨d, m, q.ρ, q.M⟩ = some z → Via σ p q → q.Sim Z σ → items d = some xs → WkAt Z q.F q.φ q.H xs w → (∀ a ∈ w.ls, a ∉ q.φ) → (∀ b, q.F b → F' b) →
      Via σ p ⟨fz m q.ρ, q.M, F', q.φ, q.H⟩ → Sim Z (fz m q.ρ) q.M F' q.φ σ q.H → (∀ a ∈ w.ls, ∀ vs, q.H a = some (.lst vs) → F' a) → R (itOf Z.K w) q.H) : iS Z Eo f σ p.H R := by
  cases e : f p.ρ p.M with
  | none => rw [e] at h; cases h
  | some y =>
    rw [e] at h
    refine ⟨p, rfl, sp, y, e, ?_⟩
    cases y with
    | ok x =>
      obtain ⟨x1, x2, x3, x4⟩ := x
      intro q w xs F' e1 e2 y sy it wk h1 h2 v s2 h3
      cases e1
      cases e2
      exact hk _ _ q w xs F' h y sy it wk h1 h2 v s2 h3
    | er c v M =>
      have hz : z = .er c v M := (Option.some.inj h).symm
      subst hz
      exact g.er _ _ _ _ sp d
mutual
theorem bind_out : ∀ {t : T} {d : D} {ρ ρ' : Nv}, bindT t d ρ = some ρ' → ρ'.length = ρ.length ∧ (∀ j, j ∉ slotsT t → ρ'[j]? = ρ[j]?) ∧ ∀ (j : Nat) (e : D), ρ'[j]? = some (some (e, true)) → ρ[j]? = some (some (e, true)) ∧ j ∉ slotsT t
  | .nm i, d, ρ, ρ', h => by
    have h : some (ρ.set i (some (d, false))) = some ρ' := h
    cases h
    refine ⟨by rw [List.length_set], fun j hj => ?_, fun j e he => ?_⟩
    · rw [List.getElem?_set_ne]
      exact fun z => hj (by simp [slotsT, z])
    · rw [List.getElem?_set] at he
      split at he
      · split at he <;> cases he
      · rename_i q
        exact ⟨he, by simp [slotsT, Ne.symm q]⟩
  | .tp ts, d, ρ, ρ', h => by
    have h : ob (itemsT d) (fun ds => bindTs ts ds ρ) = some ρ' := h
    obtain ⟨ds, _, h⟩ := ob_some h
    exact binds_out h
theorem binds_out : ∀ {ts : List T} {ds : List D} {ρ ρ' : Nv}, bindTs ts ds ρ = some ρ' → ρ'.length = ρ.length ∧ (∀ j, j ∉ slotsTs ts → ρ'[j]? = ρ[j]?) ∧ ∀ (j : Nat) (e : D), ρ'[j]? = some (some (e, true)) → ρ[j]? = some (some (e, true)) ∧ j ∉ slotsTs ts
  | [], [], ρ, ρ', h => by
    have h : some ρ = some ρ' := h
    cases h
    exact ⟨rfl, fun _ _ => rfl, fun j e he => ⟨he, by simp [slotsTs]⟩⟩
  | t :: ts, d :: ds, ρ, ρ', h => by
    have h : ob (bindT t d ρ) (fun ρ1 => bindTs ts ds ρ1) = some ρ' := h
    obtain ⟨ρ1, h1, h2⟩ := ob_some h
    obtain ⟨a1, a2, a3⟩ := bind_out h1
    obtain ⟨b1, b2, b3⟩ := binds_out h2
    refine ⟨b1.trans a1, fun j hj => ?_, fun j e he => ?_⟩
    · have hj : j ∉ slotsT t ++ slotsTs ts := hj
      rw [List.mem_append, not_or] at hj
      rw [b2 j hj.2, a2 j hj.1]
    · obtain ⟨c1, c2⟩ := b3 j e he
      obtain ⟨c3, c4⟩ := a3 j e c1
      refine ⟨c3, ?_⟩
      show j ∉ slotsT t ++ slotsTs ts
      rw [List.mem_append, not_or]
      exact ⟨c4, c2⟩
  | [], _ :: _, _, _, h => by cases h
  | _ :: _, [], _, _, h => by cases h
end
theorem wipe_wipe {σ : Sx} {vs : List Nat} : L2.wipe (L2.wipe σ vs) vs = L2.wipe σ vs := wipe_eq (L2.wipe_length _ _) fun j hj => by rw [wipe_at, if_neg hj]
/-- a list that no one else knows is changed -/
theorem Sim.priv {ρ : Nv} {M : Mem} {F : Addr → Prop} {φ : List Addr} {σ : Sx} {H : Hp} {D : Addr} {xs ys : List V} (s : Sim Z ρ M F φ σ H) (e : H D = some (.lst xs)) (n1 : ¬ F D) (n2 : D ∉ φ) (n3 : ¬ Own ρ σ D) :
    Stay F φ H F φ (upd H D (.lst ys)) ∧ Sim Z ρ M F φ σ (upd H D (.lst ys)) := by
  have st : Stay F φ H F φ (upd H D (.lst ys)) := by
    refine ⟨fun _ h => h, fun b o hf h _ => ?_, fun b us h => ?_, fun b o u h => ?_, fun b f h => ?_, ⟨[], by simp⟩⟩
    · rw [upd_ne (fun (z : b = D) => n1 (z ▸ hf))]
      exact h
    · rw [upd_ne (fun z => by rw [z, e] at h; cases h)]
      exact h
    · rw [upd_ne (fun z => by rw [z, e] at h; cases h)]
      exact h
    · rw [upd_ne (fun z => by rw [z, e] at h; cases h)]
      exact h
  have dm : ∀ b, upd H D (.lst ys) b = none → H b = none := fun b h => by
    by_cases hb : b = D
    · rw [hb, upd_same] at h
      cases h
    · rw [upd_ne hb] at h
      exact h
  refine ⟨st, s.g.next st rfl (fun b hb => upd_ne fun z => n2 (z ▸ hb)) (fun b hb => ?_) ?_, s.l.len, fun i d h => ?_, fun i d h => ?_, fun b h => s.l.ent b (dm b h), s.l.inj⟩
  · obtain ⟨h1, h2⟩ := s.g.dom b hb
    exact ⟨fun z => h1 (dm b z), h2⟩
  · refine fun q hq => ?_
    obtain ⟨ps, h1, h2, h3⟩ := s.g.tab q hq
    refine ⟨ps, by rw [upd_ne (fun z => by rw [z, e] at h1; cases h1)]; exact h1, h2, fun pos cv hc => ?_⟩
    obtain ⟨c, e1, e2⟩ := h3 pos cv hc
    exact ⟨c, e1, by rw [upd_ne (fun z => by rw [z, e] at e2; unfold LamX.CodeO at e2; cases e2)]; exact e2⟩
  · obtain ⟨v, e1, r⟩ := s.l.sh i d h
    exact ⟨v, e1, r.stay st⟩
  · obtain ⟨a, e1, r, g1, g2, g3⟩ := s.l.ow i d h
    refine ⟨a, e1, r.stay st fun us hu => ?_, g1, g2, g3⟩
    rw [upd_ne (fun z => n3 ⟨i, d, h, by rw [← z]; exact e1⟩)]
    exact hu
theorem New.pt {σ : Sx} {p : Pt} {d : D} {v : V} {H' : Hp} (n : New Z p.F p.φ p.H d false v H') (sp : p.Sim Z σ) : Rep Z p.F p.φ H' v d ∧ Sim Z p.ρ p.M p.F p.φ σ H' ∧ Post no1 no1 p.F p.φ p.H p.F p.φ H' := by
  cases n with
  | same r => exact ⟨r, sp, Post.refl⟩
  | tup e r => exact ⟨r, Sim.new sp e, post_new _ e⟩

theorem Stay.trans {F F1 F2 : Addr → Prop} {φ φ1 φ2 : List Addr} {H H1 H2 : Hp} (a : Stay F φ H F1 φ1 H1) (b : Stay F1 φ1 H1 F2 φ2 H2) : Stay F φ H F2 φ2 H2 where
  mono := fun x h => b.mono x (a.mono x h)
  frz := fun x o h e n => b.frz x o (a.mono x h) (a.frz x o h e n) n
  tup := fun x vs h => b.tup x vs (a.tup x vs h)
  fro := fun x o u h => b.fro x o u (a.fro x o u h)
  ext := fun x f h => b.ext x f (a.ext x f h)
  cel := by
    obtain ⟨ψ, e⟩ := a.cel
    obtain ⟨ψ', e'⟩ := b.cel
    exact ⟨ψ ++ ψ', by rw [e', e, List.append_assoc]⟩
/-- a list that is being filled, known to no one else -/
structure Prv (ρ : Nv) (σ : Sx) (F : Addr → Prop) (φ : List Addr) (H : Hp) (D : Addr) (acc : List V) : Prop where
  hD : H D = some (.lst acc)
  nF : ¬ F D
  nφ : D ∉ φ
  nO : ¬ Own ρ σ D
theorem Prv.post {ρ ρ' : Nv} {σ : Sx} {F F' : Addr → Prop} {φ φ' : List Addr} {H H' : Hp} {D : Addr} {acc : List V} {O : Addr → Prop} (P : Prv ρ σ F φ H D acc) (x : Post O no1 F φ H F' φ' H') (ho : ¬ O D) (hw : ¬ Own ρ' σ D) : Prv ρ' σ F' φ' H' D acc := by
  refine ⟨x.keep D _ P.hD P.nφ (fun z => z) (fun _ z => nomatch z), fun z => ?_, fun z => ?_, hw⟩
  · rcases x.new D z with q | q | q
    · exact P.nF q
    · rw [P.hD] at q
      cases q
    · exact ho q
  · obtain ⟨ψ, e, h⟩ := x.ext
    rw [e] at z
    rcases List.mem_append.mp z with z | z
    · exact P.nφ z
    · have := h D z
      rw [P.hD] at this
      cases this
theorem Prv.via {σ : Sx} {p q : Pt} {D : Addr} {acc : List V} (P : Prv p.ρ σ p.F p.φ p.H D acc) (x : Via σ p q) (hl : p.ρ.length = σ.length) : Prv q.ρ σ q.F q.φ q.H D acc :=
  P.post x.post P.nO fun z => P.nO (x.fz.own hl z)
theorem fz_wipe {ρ ρa ρ1 ρ3 : Nv} {vs : List Nat} (f : Fz (wipeN ρ vs) ρa) (hl : ρ1.length = ρa.length) (e : ∀ j, j ∉ vs → ρ1[j]? = ρa[j]?) (g : Fz ρ1 ρ3) : Fz (wipeN ρ vs) (wipeN ρ3 vs) := by
  have hlen : ρ3.length = ρ.length := by rw [g.1, hl, f.1, wipeN_len]
  refine ⟨by rw [wipeN_len, wipeN_len, hlen], fun j => ?_⟩
  by_cases hj : j ∈ vs
  · rw [wipeN_at, wipeN_at, if_pos hj, if_pos hj, hlen]
    refine ⟨fun h => h, fun d fl h => ?_⟩
    split at h <;> cases h
  · have a := f.2 j
    have b := g.2 j
    rw [e j hj] at b
    rw [wipeN_at (vs := vs) (ρ := ρ3), if_neg hj]
    refine ⟨fun h => b.1 (a.1 h), fun d fl h => ?_⟩
    obtain ⟨f1, h1, g1⟩ := a.2 d fl h
    obtain ⟨f2, h2, g2⟩ := b.2 d f1 h1
    exact ⟨f2, h2, fun z => g1 (g2 z)⟩
/-- one turn of a comprehension's walk -/
structure CSt (Z : Zt) (σ : Sx) (q : Pt) (vs : List Nat) (D : Addr) (f : List Ev.D → Nv → Mem → Option Cv) (xs : List Ev.D) (z : Ev.D → Nv → Mem → Prop) (i : Nat) (H : Hp) (pt : Pt) (acc : List V) (ds : List Ev.D) : Prop where
  hH : pt.H = H
  le : i ≤ xs.length
  s : Sim Z pt.ρ pt.M pt.F pt.φ (L2.wipe σ vs) pt.H
  po : Post (Own (wipeN q.ρ vs) (L2.wipe σ vs)) no1 q.F q.φ q.H pt.F pt.φ pt.H
  fz : Fz (wipeN q.ρ vs) pt.ρ
  wp : ∀ j ∈ vs, pt.ρ[j]? = (wipeN q.ρ vs)[j]?
  hD : pt.H D = some (.lst acc)
  r : Reps Z pt.F pt.φ pt.H acc ds
  nF : ¬ pt.F D
  nφ : D ∉ pt.φ
  nO : ¬ Own pt.ρ (L2.wipe σ vs) D
  sz : ds.length ≤ i
  run : ∃ r, f (xs.drop i) pt.ρ pt.M = some r ∧ z (mkL (ds ++ r.xs)) (backN q.ρ r.ρ vs) r.M
theorem comp_go {own : List (Str × Nat)} {t : T} {src : Src} {cond elt : E} (hsl : ∀ j ∈ slotsT t, j ∈ own.map (·.2)) : ∀ (σ : Sx) (H : Hp) (Q : VK), tE Z Eo (evE Fs C (.comp own t src cond elt)) σ H Q →
    tLc (iS Z Eo (evSrc Fs C src)) (gT Z t) (tT Z noX (evE Fs C cond)) (tE Z noX (evE Fs C elt)) (own.map (·.2)) σ H Q := by
  intro σ H Q h
  obtain ⟨p, rfl, sp, z, hz, d⟩ := h
  unfold evE at hz
  generalize hvs : own.map (·.2) = vs at hz hsl ⊢
  refine sqI gdE sp hz d fun dd m q w xs F' h1 via sq hit hw hls mo via' s' hlF D hD => ?_
  have hit' : items dd = some xs := hit
  have h1 : (ob (items dd) fun xs => if xs.length ≤ sizeLine then ob (compL (bindT t) (fun ρ M => evE Fs C cond ρ M) (fun ρ M => evE Fs C elt ρ M) vs xs (wipeN q.ρ vs) q.M) fun r => vl (mkL r.xs) .fr (backN q.ρ r.ρ vs) r.M else none) = some z := h1
  rw [hit'] at h1
  have h1 : (if xs.length ≤ sizeLine then ob (compL (bindT t) (fun ρ M => evE Fs C cond ρ M) (fun ρ M => evE Fs C elt ρ M) vs xs (wipeN q.ρ vs) q.M) fun r => vl (mkL r.xs) .fr (backN q.ρ r.ρ vs) r.M else none) = some z := h1
  obtain ⟨hsz, h1⟩ := if_some h1
  obtain ⟨r0, hr0, hz0⟩ := ob_some h1
  have ez := vl_some hz0
  have fD := sq.g.free hD
  have nOw : ∀ {σ'}, LSim Z q.ρ q.F q.φ σ' q.H → ¬ Own q.ρ σ' D := fun {σ'} l => l.free hD
  let f := compL (bindT t) (fun ρ M => evE Fs C cond ρ M) (fun ρ M => evE Fs C elt ρ M) vs
  let zz : Ev.D → Nv → Mem → Prop := fun d' ρ' M' => z = .ok ⟨d', .fr, ρ', M'⟩
  refine ⟨fun i m H => ∃ pt acc ds, CSt Z σ q vs D f xs zz i H pt acc ds ∧ m = xs.length - i, ⟨xs.length, ?_⟩, fun i m H hW => ?_⟩
  · -- the first turn
    have s0 : Sim Z (wipeN q.ρ vs) q.M q.F q.φ (L2.wipe σ vs) q.H := ⟨sq.g, sq.l.wiped vs⟩
    refine ⟨⟨wipeN q.ρ vs, q.M, q.F, q.φ, upd q.H D (.lst [])⟩, [], [], ⟨rfl, Nat.zero_le _, Sim.new s0 hD, post_new _ hD, Fz.refl _, fun _ _ => rfl, upd_same, .nil, fD.1, fD.2, s0.l.free hD, Nat.le_refl _, r0, hr0, ?_⟩, by omega⟩
    show z = _
    rw [ez]
    rfl
  · obtain ⟨pt, acc, ds, S, rfl⟩ := hW
    obtain rfl := S.hH
    have st : Stay q.F q.φ q.H pt.F pt.φ pt.H := S.po.stayE sq.g
    have hw2 : WkAt Z pt.F pt.φ pt.H xs w := hw.kept st fun a ha vs' hv => S.po.keep a _ hv (hls a ha) (fun z => z) fun _ z => nomatch z
    obtain ⟨r, hr, hz2⟩ := S.run
    by_cases hlt : i < xs.length
    · -- a turn
      right
      have hx : xs[i]? = some xs[i] := List.getElem?_eq_getElem hlt
      rw [List.drop_eq_getElem_cons hlt] at hr
      generalize xs[i] = x at hr hx
      obtain ⟨hgo, hyl⟩ := hw2.item hx
      refine ⟨hgo, fun H' => ∃ pt acc ds, CSt Z σ q vs D f xs zz (i + 1) H' pt acc ds, fun H' ⟨pt', acc', ds', S'⟩ => ⟨xs.length - (i + 1), by omega, pt', acc', ds', S', rfl⟩, fun v H1 hy => ?_⟩
      obtain ⟨rv, s1, po1⟩ := (hyl v H1 hy).pt S.s
      have hr : (ob (bindT t x pt.ρ) fun ρ1 => (match evE Fs C cond ρ1 pt.M with
        | some (.ok c) => ob (tru c.d) fun b => if b = true then (match evE Fs C elt c.ρ c.M with
            | some (.ok y) => ob (f (xs.drop (i + 1)) (wipeN (fz y.m y.ρ) vs) y.M) fun r => some ⟨y.d :: r.xs, r.ρ, r.M⟩
            | _ => none)
          else f (xs.drop (i + 1)) (wipeN c.ρ vs) c.M
        | _ => none)) = some r := hr
      obtain ⟨ρ1, hb, hr⟩ := ob_some hr
      obtain ⟨b1, b2, b3⟩ := bind_out hb
      refine ⟨⟨pt.ρ, pt.M, pt.F, pt.φ, H1⟩, x, ρ1, rfl, s1, rv, hb, fun σ2 l2 k2 sl2 => ⟨?_, ?_⟩⟩
      · exact (wipe_eq l2 fun j hj => k2 j fun z => hj (hsl j z)).trans wipe_wipe
      -- the test
      have ow2 : ∀ b, Own ρ1 σ2 b → Own (wipeN q.ρ vs) (L2.wipe σ vs) b := fun b hb => by
        obtain ⟨j, e, g1, g2⟩ := hb
        obtain ⟨g3, g4⟩ := b3 j e g1
        refine S.fz.own (by rw [wipeN_len, L2.wipe_length, sq.l.len]) ⟨j, e, g3, ?_⟩
        rw [← k2 j g4]
        exact g2
      have s2 : Sim Z ρ1 pt.M pt.F pt.φ σ2 H1 := ⟨s1.g, sl2⟩
      have P0 : Prv ρ1 σ2 pt.F pt.φ H1 D acc := by
        refine (Prv.mk (ρ := ρ1) (σ := σ2) S.hD S.nF S.nφ fun z => ?_).post po1 (fun z => z) fun z => ?_
        all_goals
          obtain ⟨j, e, g1, g2⟩ := z
          obtain ⟨g3, g4⟩ := b3 j e g1
          exact S.nO ⟨j, e, g3, by rw [← k2 j g4]; exact g2⟩
      have hl2 : ρ1.length = σ2.length := sl2.len
      have hw2' : L2.wipe σ2 vs = L2.wipe σ vs := (wipe_eq l2 fun j hj => k2 j fun z => hj (hsl j z)).trans wipe_wipe
      have sm : ∀ j, j ∉ vs → ρ1[j]? = pt.ρ[j]? := fun j hj => b2 j fun z => hj (hsl j z)
      have wp3 : ∀ {ρ3 : Nv}, Fz ρ1 ρ3 → ∀ j ∈ vs, (wipeN ρ3 vs)[j]? = (wipeN q.ρ vs)[j]? := fun {ρ3} g j hj => by
        have hlen : ρ3.length = q.ρ.length := by rw [g.1, b1, S.fz.1, wipeN_len]
        rw [wipeN_at, wipeN_at, if_pos hj, if_pos hj, hlen]
      cases e : evE Fs C cond ρ1 pt.M with
      | none =>
        rw [e] at hr
        cases hr
      | some y =>
        rw [e] at hr
        cases y with
        | er c v M => cases hr
        | ok c =>
          obtain ⟨b, hb2, hr⟩ := ob_some hr
          refine ⟨⟨ρ1, pt.M, pt.F, pt.φ, H1⟩, rfl, s2, .ok c, e, b, hb2, fun q3 e3 e4 via3 s3 => ?_⟩
          have po3 : Post (Own (wipeN q.ρ vs) (L2.wipe σ vs)) no1 q.F q.φ q.H q3.F q3.φ q3.H := (S.po.trans po1 (fun _ h => h.elim) (fun _ h => h.elim)).trans via3.post (fun b h => .inl (ow2 b h)) (fun _ h => h.elim)
          have P3 : Prv q3.ρ σ2 q3.F q3.φ q3.H D acc := Prv.via (p := ⟨ρ1, pt.M, pt.F, pt.φ, H1⟩) P0 via3 hl2
          have st3 : Stay pt.F pt.φ pt.H q3.F q3.φ q3.H := (po1.stayE S.s.g).trans (via3.post.stayE s2.g)
          cases b with
          | false =>
            rw [if_neg (by simp), ← e3, ← e4] at hr
            show ∃ pt acc ds, CSt Z σ q vs D f xs zz (i + 1) q3.H pt acc ds
            refine ⟨⟨wipeN q3.ρ vs, q3.M, q3.F, q3.φ, q3.H⟩, acc, ds, ⟨rfl, hlt, ⟨s3.g, by rw [← hw2']; exact s3.l.wiped vs⟩, po3, fz_wipe S.fz b1 sm via3.fz, wp3 via3.fz, P3.hD, S.r.stay st3, P3.nF, P3.nφ, fun z => ?_, Nat.le_succ_of_le S.sz, r, hr, hz2⟩⟩
            rw [← hw2'] at z
            obtain ⟨j, e, _, g2, g3⟩ := own_wiped z
            exact P3.nO ⟨j, e, g2, g3⟩
          | true =>
            rw [if_pos rfl] at hr
            show tE Z noX (evE Fs C elt) σ2 q3.H _
            cases e' : evE Fs C elt c.ρ c.M with
            | none =>
              rw [e'] at hr
              cases hr
            | some y =>
              rw [e'] at hr
              cases y with
              | er c v M => cases hr
              | ok y =>
                obtain ⟨r2, hr2, hr3⟩ := ob_some hr
                refine ⟨q3, rfl, s3, .ok y, by rw [e3, e4]; exact e', fun q4 u e5 e6 via4 s4 rep => ?_⟩
                rw [← e5] at rep
                obtain ⟨F4, mo4, nw4, f4, x4, s4', r4⟩ := give1 via4 s3 s4 rep
                have P4 : Prv (fz y.m q4.ρ) σ2 F4 q4.φ q4.H D acc := Prv.via (q := ⟨fz y.m q4.ρ, q4.M, F4, q4.φ, q4.H⟩) P3 x4 s3.l.len
                have fzx : Fz ρ1 (fz y.m q4.ρ) := via3.fz.trans x4.fz
                have sw : Sim Z (wipeN (fz y.m q4.ρ) vs) q4.M F4 q4.φ (L2.wipe σ vs) q4.H := ⟨s4'.g, by rw [← hw2']; exact s4'.l.wiped vs⟩
                have nOw4 : ¬ Own (wipeN (fz y.m q4.ρ) vs) (L2.wipe σ vs) D := fun z => by
                  rw [← hw2'] at z
                  obtain ⟨j, e, _, g2, g3⟩ := own_wiped z
                  exact P4.nO ⟨j, e, g2, g3⟩
                obtain ⟨st5, s5⟩ := Sim.priv (ys := acc ++ [u]) sw P4.hD P4.nF P4.nφ nOw4
                have po4 : Post (Own (wipeN q.ρ vs) (L2.wipe σ vs)) no1 q.F q.φ q.H F4 q4.φ q4.H := po3.trans x4.post (fun b h => .inl (ow2 b (via3.fz.own hl2 h))) (fun _ h => h.elim)
                have po5 : Post (Own (wipeN q.ρ vs) (L2.wipe σ vs)) no1 q.F q.φ q.H F4 q4.φ (upd q4.H D (.lst (acc ++ [u]))) := by
                  refine ⟨po4.ext, fun b o h h1 h2 h3 => ?_, po4.mono, po4.new, fun b h => ?_⟩
                  · rw [upd_ne (ne_of_none h hD)]
                    exact po4.keep b o h h1 h2 h3
                  · by_cases hb : b = D
                    · rw [hb, upd_same] at h
                      cases h
                    · rw [upd_ne hb] at h
                      exact po4.dom b h
                have racc : Reps Z F4 q4.φ q4.H acc ds := (S.r.stay st3).stay (x4.post.stayE s3.g)
                have hlen : acc.length < sizeLine := by
                  have h1 := racc.len
                  have h2 := S.sz
                  omega
                refine ⟨acc, s4.g.tab |> fun _ => P4.hD, hlen, ⟨wipeN (fz y.m q4.ρ) vs, q4.M, F4, q4.φ, upd q4.H D (.lst (acc ++ [u]))⟩, acc ++ [u], ds ++ [y.d], ⟨rfl, hlt, s5, po5, fz_wipe S.fz b1 sm fzx, wp3 fzx, upd_same, (racc.app (.cons r4 .nil)).stay st5, P4.nF, P4.nφ, nOw4, by rw [List.length_append]; exact Nat.succ_le_succ S.sz, r2, ?_, ?_⟩⟩
                · rw [e5, e6]
                  exact hr2
                · cases hr3
                  have w := hz2
                  rw [List.append_assoc]
                  exact w
    · -- the end
      left
      have hn : i = xs.length := by have := S.le; omega
      subst hn
      refine ⟨hw2.end, ?_⟩
      rw [List.drop_length] at hr
      have hr : some (⟨[], pt.ρ, pt.M⟩ : Cv) = some r := hr
      cases hr
      have hz2 : z = .ok ⟨mkL (ds ++ []), .fr, backN q.ρ pt.ρ vs, pt.M⟩ := hz2
      rw [List.append_nil] at hz2
      rw [hz2] at d
      have owq : ∀ b, Own (wipeN q.ρ vs) (L2.wipe σ vs) b → Own q.ρ σ b := fun b hb => by
        obtain ⟨j, e, _, g2, g3⟩ := own_wiped hb
        exact ⟨j, e, g2, g3⟩
      have fzb : Fz q.ρ (backN q.ρ pt.ρ vs) := by
        have hl : q.ρ.length = pt.ρ.length := by rw [S.fz.1, wipeN_len]
        refine ⟨by rw [backN_len, hl], fun j => ?_⟩
        by_cases hj : j ∈ vs
        · have e : ∀ s, q.ρ[j]? = some s → (backN q.ρ pt.ρ vs)[j]? = some s := fun s hs => by
            have hlt : j < q.ρ.length := (List.getElem?_eq_some_iff.mp hs).1
            rw [backN_at, if_pos hj, if_pos (by rw [← hl]; exact hlt)]
            rw [List.getElem?_eq_getElem hlt] at hs
            simp [List.getD, hlt, Option.some.inj hs]
          exact ⟨fun h => e _ h, fun d fl h => ⟨fl, e _ h, fun h => h⟩⟩
        · rw [back_out hj]
          have w := S.fz.2 j
          rw [wipeN_at, if_neg hj] at w
          exact w
      refine d ⟨backN q.ρ pt.ρ vs, pt.M, pt.F, pt.φ, pt.H⟩ (.ref D) rfl rfl ⟨via.post.trans S.po (fun b hb => .inl (via.fz.own sp.l.len (owq b hb))) (fun _ h => h.elim), via.fz.trans fzb⟩ ⟨S.s.g, sq.l.back sq.g S.po S.s.l S.fz⟩ ⟨D, rfl, S.r.mkL S.hD, S.nF, S.nφ, fun hO => ?_, via.post.dom D hD⟩
      obtain ⟨j, e, g1, g2⟩ := hO
      by_cases hj : j ∈ vs
      · exact nOw sq.l ⟨j, e, back_in (by rw [S.fz.1, wipeN_len]) hj g1, g2⟩
      · rw [back_out hj] at g1
        exact S.nO ⟨j, e, g1, by rw [wipe_at, if_neg hj]; exact g2⟩
theorem s_comp {own : List (Str × Nat)} {t : T} {src : Src} {cond elt : E} {tg iter eelt : Expr} {ifs : List Expr} {scope : Scope} {pos : Pos} (ok : XOk X Z Γ Fs Eo) (hi : PI X tg iter (iS Z Eo (evSrc Fs C src))) (hB : BlkOk X.N X.env.scope scope own) (hsl : ∀ j ∈ slotsT t, j ∈ own.map (·.2))
    (hg : ∀ (s : Shared) (H : Hp) (Ca : Addr) (cl : List (Str × Addr)) (fp : List Addr), PG (X.blk s H scope (compEnvC scope cl Ca X.env) fp) tg (gT Z t))
    (ht : ∀ (s : Shared) (H : Hp) (Ca : Addr) (cl : List (Str × Addr)) (fp : List Addr), PTs (X.blk s H scope (compEnvC scope cl Ca X.env) fp) ifs (tT Z noX (evE Fs C cond)))
    (he : ∀ (s : Shared) (H : Hp) (Ca : Addr) (cl : List (Str × Addr)) (fp : List Addr), PE (X.blk s H scope (compEnvC scope cl Ca X.env) fp) eelt (tE Z noX (evE Fs C elt)))
    (hs : ∀ x, foldedSetIterable iter X.env x = pure x) : PE X (.ListComp eelt [⟨tg, iter, ifs, 0⟩] scope pos) (tE Z Eo (evE Fs C (.comp own t src cond elt))) :=
  PE.imp (pe_lc ok.calm (by rw [ok.hN]; exact ok.nd) hi hB hg ht he hs) (comp_go hsl)
end
end Ev

/-! Statements. -/
namespace Ev
open L2 PyProof.Rows PySem PySem.Spec
/-- a place within a def's body: F0, φ0 stood at its entry -/
structure Inb (Z : Zt) (F0 : Addr → Prop) (φ0 : List Addr) (σ : Sx) (p : Pt) : Prop where
  s : p.Sim Z σ
  po : Post no1 no1 F0 φ0 Z.H0 p.F p.φ p.H
def DoneS (Z : Zt) (Eo : XK) (F0 : Addr → Prop) (φ0 : List Addr) (p : Pt) (D : Ends) : Rz Fl → Prop
  | .ok (.nx ρ M) => ∀ σ' (q : Pt), q.ρ = ρ → q.M = M → Inb Z F0 φ0 σ' q → Stay p.F p.φ p.H q.F q.φ q.H → D.nx σ' q.H
  | .ok (.br ρ M) => ∀ σ' (q : Pt), q.ρ = ρ → q.M = M → Inb Z F0 φ0 σ' q → Stay p.F p.φ p.H q.F q.φ q.H → D.bk σ' q.H
  | .ok (.ct ρ M) => ∀ σ' (q : Pt), q.ρ = ρ → q.M = M → Inb Z F0 φ0 σ' q → Stay p.F p.φ p.H q.F q.φ q.H → D.ct σ' q.H
  | .ok (.rt o) => ∀ (F' : Addr → Prop) φ' H' v, Post no1 no1 F0 φ0 Z.H0 F' φ' H' → GSim Z o.M F' φ' H' → RepO Z Z.H0 F' φ' H' o.fr v o.d → D.rt v H'
  | .er c v M => ∀ (q : Pt) da, Post no1 no1 F0 φ0 Z.H0 q.F q.φ q.H → Err Z c v M q da → Eo (.ref (Z.ca c)) (some da) q.H
def tS (Z : Zt) (Eo : XK) (F0 : Addr → Prop) (φ0 : List Addr) (g : Nv → Mem → RS) : TS := fun D σ H => ∃ p : Pt, p.H = H ∧ Inb Z F0 φ0 σ p ∧ ∃ r, g p.ρ p.M = some r ∧ DoneS Z Eo F0 φ0 p D r
section
variable {Z : Zt} {Eo : XK} {F0 : Addr → Prop} {φ0 : List Addr} {σ σ' : Sx} {p q : Pt} {D : Ends}
theorem Inb.own (I : Inb Z F0 φ0 σ p) {b : Addr} (h : Own p.ρ σ b) : Z.H0 b = none := by
  obtain ⟨i, d, h1, h2⟩ := h
  obtain ⟨a, e, _, _, _, n⟩ := I.s.l.ow i d h1
  rw [h2] at e
  cases e
  exact n
theorem Inb.post (I : Inb Z F0 φ0 σ p) {F : Addr → Prop} {φ : List Addr} {H : Hp} (x : Post (Own p.ρ σ) no1 p.F p.φ p.H F φ H) : Post no1 no1 F0 φ0 Z.H0 F φ H :=
  I.po.trans x (fun b h => .inr (I.own h)) (fun _ h => h.elim)
theorem Inb.via (I : Inb Z F0 φ0 σ p) (sq : q.Sim Z σ) (x : Via σ p q) : Inb Z F0 φ0 σ q := ⟨sq, I.post x.post⟩
theorem Inb.stay (I : Inb Z F0 φ0 σ p) (x : Via σ p q) : Stay p.F p.φ p.H q.F q.φ q.H := x.post.stayE I.s.g
theorem DoneS.rebase {z : Rz Fl} (st : Stay p.F p.φ p.H q.F q.φ q.H) (d : DoneS Z Eo F0 φ0 p D z) : DoneS Z Eo F0 φ0 q D z := by
  cases z with
  | er c v M => exact d
  | ok f =>
    cases f with
    | nx ρ M => exact fun σ' r e1 e2 I s => d σ' r e1 e2 I (st.trans s)
    | br ρ M => exact fun σ' r e1 e2 I s => d σ' r e1 e2 I (st.trans s)
    | ct ρ M => exact fun σ' r e1 e2 I s => d σ' r e1 e2 I (st.trans s)
    | rt o => exact d
theorem gdS : Gd Z Eo σ fun p (z : Rz Fl) => Inb Z F0 φ0 σ p ∧ DoneS Z Eo F0 φ0 p D z :=
  ⟨fun p c v M _ h q da po er => h.2 q da (h.1.post po) er, fun p q z sp sq x h => ⟨h.1.via sq x, h.2.rebase (h.1.stay x)⟩⟩
theorem nx_some {ρ : Nv} {M : Mem} {z : Rz Fl} (h : nx ρ M = some z) : z = .ok (.nx ρ M) := (Option.some.inj h).symm
/-- a value of a term as it leaves the def -/
theorem RepT.out {H1 : Hp} {m : Md} {v : V} {d : Ev.D} (I : Inb Z F0 φ0 σ q) (h : RepT Z H1 q.ρ σ q.F q.φ q.H m v d) (k : ∀ b, H1 b = none → Z.H0 b = none) : RepO Z Z.H0 q.F q.φ q.H (frOf q.ρ m) v d := by
  cases m with
  | sh => exact h
  | fr =>
    obtain ⟨a, e, r, n1, n2, _, n4⟩ := h
    exact ⟨a, e, r, n1, n2, k a n4⟩
  | bo i =>
    obtain ⟨h1, fl, h2⟩ := h
    have e0 : frOf q.ρ (.bo i) = fl := by
      show (match q.ρ[i]? with
        | some (some (_, true)) => true
        | _ => false) = fl
      rw [h2]
      cases fl <;> rfl
    rw [e0]
    cases fl with
    | true =>
      obtain ⟨a, e, r, n1, n2, n3⟩ := I.s.l.ow i d h2
      rw [h1] at e
      cases e
      exact ⟨a, rfl, r, n1, n2, n3⟩
    | false =>
      obtain ⟨v', e, r⟩ := I.s.l.sh i d h2
      rw [h1] at e
      cases e
      exact r
end
section
variable {X : Cx} {Z : Zt} {Γ : Gam} {Fs : List Fn} {C : Nv → Clo} {Eo : XK} {F0 : Addr → Prop} {φ0 : List Addr}
theorem s_ret {e : Expr} {a : E} {pos : Pos} (ha : PE X e (tE Z Eo (evE Fs C a))) : PS X (.Return (some e) pos) (tS Z Eo F0 φ0 (evS Fs C (.ret a))) := by
  refine PS.imp (ps_ret ha) fun D σ H q => ?_
  obtain ⟨p, rfl, I, z, hz, d⟩ := q
  unfold evS at hz
  refine sqE (gdS (F0 := F0) (φ0 := φ0) (D := D)) I.s hz ⟨I, d⟩ fun x m q v h1 via sq rx d1 => ?_
  cases h1
  exact d1.2 q.F q.φ q.H v d1.1.po sq.g (RepT.out d1.1 rx fun b h => I.s.l.ent b h)
theorem s_retn {pos : Pos} : PS X (.Return none pos) (tS Z Eo F0 φ0 (evS Fs C .retn)) := by
  refine PS.imp ps_retN fun D σ H q => ?_
  obtain ⟨p, rfl, I, z, hz, d⟩ := q
  unfold evS at hz
  cases hz
  exact d p.F p.φ p.H .non I.po I.s.g (.py .non)
theorem s_pas {pos : Pos} : PS X (.Pass pos) (tS Z Eo F0 φ0 (evS Fs C .pas)) := by
  refine PS.imp ps_pass fun D σ H q => ?_
  obtain ⟨p, rfl, I, z, hz, d⟩ := q
  unfold evS at hz
  rw [nx_some hz] at d
  exact d σ p rfl rfl I (stay_grow fun _ h => h)
theorem s_brk {pos : Pos} : PS X (.Break pos) (tS Z Eo F0 φ0 (evS Fs C .brk)) := by
  refine PS.imp ps_break fun D σ H q => ?_
  obtain ⟨p, rfl, I, z, hz, d⟩ := q
  unfold evS at hz
  cases hz
  exact d σ p rfl rfl I (stay_grow fun _ h => h)
theorem s_cnt {pos : Pos} : PS X (.Continue pos) (tS Z Eo F0 φ0 (evS Fs C .cnt)) := by
  refine PS.imp ps_continue fun D σ H q => ?_
  obtain ⟨p, rfl, I, z, hz, d⟩ := q
  unfold evS at hz
  cases hz
  exact d σ p rfl rfl I (stay_grow fun _ h => h)
/-- no comprehension at its head -/
def noComp : Expr → Bool
  | .ListComp _ _ _ _ => false
  | .SetComp _ _ _ _ => false
  | .DictComp _ _ _ _ _ => false
  | _ => true
theorem noComp_sw {e : Expr} {t : Option Expr} {n : Nat} {env : Env} (h : noComp e = true) : swapsWith e t n env = pure false := by
  cases e <;> first | rfl | cases h
theorem s_ex {e : Expr} {a : E} {pos : Pos} (hn : noComp e = true) (ha : PE X e (tE Z Eo (evE Fs C a))) : PS X (.Expr e pos) (tS Z Eo F0 φ0 (evS Fs C (.ex a))) := by
  refine PS.imp (ps_expr ha (noComp_sw hn)) fun D σ H q => ?_
  obtain ⟨p, rfl, I, z, hz, d⟩ := q
  unfold evS at hz
  refine sqE (gdS (F0 := F0) (φ0 := φ0) (D := D)) I.s hz ⟨I, d⟩ fun x m q v h1 via sq rx d1 => ?_
  have d2 := d1.2
  rw [nx_some h1] at d2
  exact d2 σ q rfl rfl d1.1 (stay_grow fun _ h => h)
theorem s_ifs {c : Expr} {bs es : List Stmt} {a : E} {b e : Ss} {pos : Pos} (hc : PT X c (tT Z Eo (evE Fs C a))) (hb : PSs X bs (tS Z Eo F0 φ0 (evSs Fs C b))) (he : PSs X es (tS Z Eo F0 φ0 (evSs Fs C e))) : PS X (.If c bs es pos) (tS Z Eo F0 φ0 (evS Fs C (.ifs a b e))) := by
  refine PS.imp (ps_if hc hb he) fun D σ H q => ?_
  obtain ⟨p, rfl, I, z, hz, d⟩ := q
  unfold evS at hz
  refine sqT (gdS (F0 := F0) (φ0 := φ0) (D := D)) I.s hz ⟨I, d⟩ fun x m t q _ h1 via sq d1 => ?_
  cases t with
  | true => exact ⟨q, rfl, d1.1, z, h1, d1.2⟩
  | false => exact ⟨q, rfl, d1.1, z, h1, d1.2⟩
theorem s_snil : PSs X [] (tS Z Eo F0 φ0 (evSs Fs C .nil)) := by
  refine PSs.imp pss_nil fun D σ H q => ?_
  obtain ⟨p, rfl, I, z, hz, d⟩ := q
  unfold evSs at hz
  rw [nx_some hz] at d
  exact d σ p rfl rfl I (stay_grow fun _ h => h)
theorem s_scons {s : Stmt} {ss : List Stmt} {a : S} {as : Ss} (h1 : PS X s (tS Z Eo F0 φ0 (evS Fs C a))) (h2 : PSs X ss (tS Z Eo F0 φ0 (evSs Fs C as))) : PSs X (s :: ss) (tS Z Eo F0 φ0 (evSs Fs C (.cons a as))) := by
  refine PSs.imp (pss_cons h1 h2) fun D σ H q => ?_
  obtain ⟨p, rfl, I, z, hz, d⟩ := q
  unfold evSs at hz
  show tS Z Eo F0 φ0 (evS Fs C a) { D with nx := tS Z Eo F0 φ0 (evSs Fs C as) D } σ p.H
  cases e : evS Fs C a p.ρ p.M with
  | none =>
    rw [e] at hz
    cases hz
  | some y =>
    rw [e] at hz
    refine ⟨p, rfl, I, y, e, ?_⟩
    cases y with
    | er c v M =>
      have : z = .er c v M := (Option.some.inj hz).symm
      subst this
      exact d
    | ok f =>
      cases f with
      | nx ρ M =>
        intro σ' q e1 e2 I' st
        exact ⟨q, rfl, I', z, by rw [e1, e2]; exact hz, d.rebase st⟩
      | br ρ M =>
        have : z = .ok (.br ρ M) := (Option.some.inj hz).symm
        subst this
        exact d
      | ct ρ M =>
        have : z = .ok (.ct ρ M) := (Option.some.inj hz).symm
        subst this
        exact d
      | rt o =>
        have : z = .ok (.rt o) := (Option.some.inj hz).symm
        subst this
        exact d
end
end Ev

/-! Stores. -/
namespace Ev
open L2 PyProof.Rows PySem PySem.Spec
section
variable {Z : Zt} {Eo : XK} {F0 : Addr → Prop} {φ0 : List Addr} {σ σ' : Sx} {p q : Pt}
theorem post_same {F F' : Addr → Prop} {φ : List Addr} {H : Hp} {O : Addr → Prop} (mo : ∀ b, F b → F' b) (nw : ∀ b, F' b → F b ∨ H b = none ∨ O b) : Post O no1 F φ H F' φ H := ⟨⟨[], by simp, by simp⟩, fun _ _ h _ _ _ => h, mo, nw, fun _ h => h⟩
/-- a term's value into one slot -/
theorem store_nm {d : Ev.D} {m : Md} {v : V} {i : Nat} {ρ2 : Nv} (I : Inb Z F0 φ0 σ p) (via : Via σ p q) (sq : q.Sim Z σ) (rx : RepT Z p.H q.ρ σ q.F q.φ q.H m v d) (h : store (.nm i) d m q.ρ = some ρ2) :
    ∃ F', Inb Z F0 φ0 (σ.set i (some v)) ⟨ρ2, q.M, F', q.φ, q.H⟩ ∧ Stay p.F p.φ p.H F' q.φ q.H := by
  have other : ∀ {ρ'}, store (.nm i) d m q.ρ = some ((fz m q.ρ).set i (some (d, false))) → ρ' = ρ2 → ∃ F', Inb Z F0 φ0 (σ.set i (some v)) ⟨ρ2, q.M, F', q.φ, q.H⟩ ∧ Stay p.F p.φ p.H F' q.φ q.H := fun {ρ'} e _ => by
    rw [e] at h
    cases h
    obtain ⟨F', mo, nw, f, x1, s1, r1⟩ := give1 (q := q) via I.s sq rx
    exact ⟨F', ⟨⟨s1.g, s1.l.set r1⟩, I.post x1.post⟩, x1.post.stayE I.s.g⟩
  cases m with
  | sh => exact other rfl rfl
  | bo j => exact other rfl rfl
  | fr =>
    have h : some (q.ρ.set i (some (d, true))) = some ρ2 := h
    cases h
    obtain ⟨a, rfl, r, n1, n2, n3, n4⟩ := rx
    exact ⟨q.F, ⟨⟨sq.g, sq.l.setO r n1 n2 (I.s.l.ent a n4) fun j e _ h1 h2 => n3 ⟨j, e, h1, h2⟩⟩, I.post via.post⟩, via.post.stayE I.s.g⟩
def frM : Md → Md
  | .fr => .fr
  | _ => .sh
/-- all but the new lists are given away -/
theorem gives_bo {M : Mem} {φ : List Addr} {H : Hp} : ∀ {ds : List (Ev.D × Md)} {vs : List V} {ρ : Nv} {F : Addr → Prop}, Via σ p ⟨ρ, M, F, φ, H⟩ → p.Sim Z σ → Sim Z ρ M F φ σ H → RepTs Z p.H ρ σ F φ H vs ds →
    ∃ F' : Addr → Prop, (∀ b, F b → F' b) ∧ (∀ b, F' b → F b ∨ Own ρ σ b) ∧ Fz ρ (fzs ds ρ) ∧ Via σ p ⟨fzs ds ρ, M, F', φ, H⟩ ∧ Sim Z (fzs ds ρ) M F' φ σ H ∧ RepTs Z p.H (fzs ds ρ) σ F' φ H vs (ds.map fun x => (x.1, frM x.2))
  | [], [], ρ, F, x, _, sq, _ => ⟨F, fun _ h => h, fun _ h => .inl h, Fz.refl _, x, sq, trivial⟩
  | d :: ds, v :: vs, ρ, F, x, sp, sq, h => by
    obtain ⟨h1, h2, h3⟩ := h
    have hd : ∀ {ρ1 : Nv} {F1 : Addr → Prop}, fz d.2 ρ = ρ1 → (∀ b, F b → F1 b) → (∀ b, F1 b → F b ∨ Own ρ σ b) → Fz ρ ρ1 → Via σ p ⟨ρ1, M, F1, φ, H⟩ → Sim Z ρ1 M F1 φ σ H → RepT Z p.H ρ1 σ F1 φ H (frM d.2) v d.1 → RepTs Z p.H ρ1 σ F1 φ H vs ds →
        ∃ F' : Addr → Prop, (∀ b, F b → F' b) ∧ (∀ b, F' b → F b ∨ Own ρ σ b) ∧ Fz ρ (fzs (d :: ds) ρ) ∧ Via σ p ⟨fzs (d :: ds) ρ, M, F', φ, H⟩ ∧ Sim Z (fzs (d :: ds) ρ) M F' φ σ H ∧ RepTs Z p.H (fzs (d :: ds) ρ) σ F' φ H (v :: vs) ((d :: ds).map fun x => (x.1, frM x.2)) := by
      intro ρ1 F1 e mo nw f x1 s1 r1 r2
      obtain ⟨F2, mo2, nw2, f2, x2, s2, rs⟩ := gives_bo x1 sp s1 r2
      have e2 : fzs (d :: ds) ρ = fzs ds ρ1 := by
        show fzs ds (fz d.2 ρ) = _
        rw [e]
      rw [e2]
      refine ⟨F2, fun b h => mo2 b (mo b h), fun b h => ?_, f.trans f2, x2, s2, ?_, fun a e1 e3 j d' hj hf hv => ?_, rs⟩
      · rcases nw2 b h with z | z
        · exact nw b z
        · exact .inr (f.own sq.l.len z)
      · exact r1.grow f2 mo2 nw2 s1.l.len fun a _ _ n => n
      · have e1 : frM d.2 = .fr := e1
        have hd2 : d.2 = .fr := by
          revert e1
          cases d.2 <;> intro z <;> first | rfl | cases z
        rw [List.getElem?_map] at hj
        cases q : ds[j]? with
        | none =>
          rw [q] at hj
          cases hj
        | some d0 =>
          rw [q] at hj
          cases hj
          have hf : frM d0.2 = .fr := hf
          have hd0 : d0.2 = .fr := by
            revert hf
            cases d0.2 <;> intro z <;> first | rfl | cases z
          exact h2 a hd2 e3 j d0 q hd0 hv
    cases hm : d.2 with
    | fr =>
      refine hd (ρ1 := ρ) (F1 := F) (by rw [hm]; rfl) (fun _ h => h) (fun _ h => .inl h) (Fz.refl _) x sq ?_ h3
      rw [hm] at h1 ⊢
      exact h1
    | sh =>
      refine hd (ρ1 := ρ) (F1 := F) (by rw [hm]; rfl) (fun _ h => h) (fun _ h => .inl h) (Fz.refl _) x sq ?_ h3
      rw [hm] at h1 ⊢
      exact h1
    | bo i =>
      rw [hm] at h1
      obtain ⟨F1, mo, nw, f, x1, s1, r1⟩ := give1 (q := ⟨ρ, M, F, φ, H⟩) x sp sq h1
      have nw1 : ∀ b, F1 b → F b ∨ Own ρ σ b := fun b h => by
        rcases nw b h with z | ⟨z, _⟩ | z
        · exact .inl z
        · cases z
        · exact .inr z
      refine hd (by rw [hm]) mo nw1 f x1 s1 ?_ (RepTs.grow f mo nw1 sq.l.len h3 fun j d' a _ _ _ n => n)
      rw [hm]
      exact r1
  | [], _ :: _, _, _, _, _, _, h => h.elim
  | _ :: _, [], _, _, _, _, _, h => h.elim
def setV : List Nat → List V → Sx → Sx
  | i :: is, v :: vs, σ => setV is vs (σ.set i (some v))
  | _, _, σ => σ
/-- slots set one behind another -/
theorem LSim.setAll {H1 : Hp} {F : Addr → Prop} {φ : List Addr} {H : Hp} (en : ∀ b, H1 b = none → Z.H0 b = none) : ∀ {is : List Nat} {ds : List (Ev.D × Md)} {vs : List V} {ρ ρ2 : Nv} {σ : Sx}, LSim Z ρ F φ σ H → RepTs Z H1 ρ σ F φ H vs (ds.map fun x => (x.1, frM x.2)) → is.Nodup → setAll is ds ρ = some ρ2 → LSim Z ρ2 F φ (setV is vs σ) H
  | [], [], vs, ρ, ρ2, σ, l, r, _, h => by
    have h : some ρ = some ρ2 := h
    cases h
    cases vs <;> exact l
  | i :: is, d :: ds, v :: vs, ρ, ρ2, σ, l, r, nd, h => by
    obtain ⟨r1, r2, r3⟩ := r
    have nd2 := List.nodup_cons.mp nd
    have h : Ev.setAll is ds (ρ.set i (some (d.1, match d.2 with
      | .fr => true
      | _ => false))) = some ρ2 := h
    have tail : ∀ {b : Bool}, (∀ a, (b = true → v = .ref a → frM d.2 = .fr)) → RepTs Z H1 (ρ.set i (some (d.1, b))) (σ.set i (some v)) F φ H vs (ds.map fun x => (x.1, frM x.2)) := fun {b} hb => by
      have go : ∀ {vs : List V} {ds : List (Ev.D × Md)}, RepTs Z H1 ρ σ F φ H vs (ds.map fun x => (x.1, frM x.2)) → (∀ a, frM d.2 = .fr → v = .ref a → ∀ (j : Nat) (d' : Ev.D × Md), (ds.map fun x => (x.1, frM x.2))[j]? = some d' → d'.2 = .fr → vs[j]? ≠ some (V.ref a)) → RepTs Z H1 (ρ.set i (some (d.1, b))) (σ.set i (some v)) F φ H vs (ds.map fun x => (x.1, frM x.2)) := by
        intro vs
        induction vs with
        | nil =>
          intro ds r _
          cases ds with
          | nil => trivial
          | cons _ _ => exact r.elim
        | cons w ws ih =>
          intro ds r hq
          cases ds with
          | nil => exact r.elim
          | cons d0 ds =>
            refine ⟨?_, r.2.1, ih r.2.2 fun a e1 e2 j d' hj => hq a e1 e2 (j + 1) d' (by simpa using hj)⟩
            have r1 := r.1
            have hq0 := hq
            show RepT Z H1 _ _ F φ H (frM d0.2) w d0.1
            have r1 : RepT Z H1 ρ σ F φ H (frM d0.2) w d0.1 := r1
            cases hm : frM d0.2 with
            | sh =>
              rw [hm] at r1
              exact r1
            | bo k =>
              revert hm
              cases d0.2 <;> intro z <;> cases z
            | fr =>
              rw [hm] at r1
              obtain ⟨a, rfl, q1, q2, q3, q4, q5⟩ := r1
              refine ⟨a, rfl, q1, q2, q3, fun z => ?_, q5⟩
              obtain ⟨j, e, g1, g2⟩ := z
              rw [List.getElem?_set] at g1 g2
              split at g1
              · rename_i hij
                split at g1
                · cases g1
                  rw [if_pos hij] at g2
                  split at g2
                  · have ev : v = .ref a := Option.some.inj (Option.some.inj g2)
                    exact hq a (hb a rfl ev) ev 0 (d0.1, frM d0.2) rfl hm rfl
                  · cases g2
                · cases g1
              · rename_i hij
                rw [if_neg hij] at g2
                exact q4 ⟨j, e, g1, g2⟩
      exact go r3 r2
    have r1 : RepT Z H1 ρ σ F φ H (frM d.2) v d.1 := r1
    show LSim Z ρ2 F φ (setV is vs (σ.set i (some v))) H
    cases hm : d.2 with
    | fr =>
      rw [hm] at h r1
      obtain ⟨a, rfl, q1, q2, q3, q4, q5⟩ := r1
      exact LSim.setAll en (l.setO q1 q2 q3 (en a q5) fun j e _ h1 h2 => q4 ⟨j, e, h1, h2⟩) (tail fun _ _ _ => by rw [hm]; rfl) nd2.2 h
    | sh =>
      rw [hm] at h r1
      exact LSim.setAll en (l.set r1) (tail fun _ z _ => by cases z) nd2.2 h
    | bo k =>
      rw [hm] at h r1
      exact LSim.setAll en (l.set r1) (tail fun _ z _ => by cases z) nd2.2 h
  | [], _ :: _, _, _, _, _, _, _, _, h => by cases h
  | _ :: _, [], _, _, _, _, _, _, _, h => by cases h
  | _ :: _, _ :: _, [], _, _, _, _, r, _, _ => r.elim
end
end Ev

/-! Assignments. -/
namespace Ev
open L2 PyProof.Rows PySem PySem.Spec
section
variable {X : Cx} {Z : Zt} {Γ : Gam} {Fs : List Fn} {C : Nv → Clo} {Eo : XK} {F0 : Addr → Prop} {φ0 : List Addr}
theorem asg_nm {i : Nat} {a : E} {D : Ends} {σ : Sx} {p : Pt} {z : Rz Fl} (I : Inb Z F0 φ0 σ p) (hz : evS Fs C (.asg (.nm i) a) p.ρ p.M = some z) (d : DoneS Z Eo F0 φ0 p D z) : tE Z Eo (evE Fs C a) σ p.H fun v H => gName i v σ H D.nx := by
  unfold evS at hz
  refine sqE (gdS (F0 := F0) (φ0 := φ0) (D := D)) I.s hz ⟨I, d⟩ fun x m q v h1 via sq rx d1 => ?_
  obtain ⟨ρ2, h2, h1⟩ := ob_some h1
  have d2 := d
  rw [nx_some h1] at d2
  obtain ⟨F', J, st⟩ := store_nm I via sq rx h2
  exact d2 _ ⟨ρ2, q.M, F', q.φ, q.H⟩ rfl rfl J st
theorem s_asgN {i : Nat} {x : Str} {e : Expr} {a : E} {px pos : Pos} (ok : XOk X Z Γ Fs Eo) (hl : locB Γ i x = true) (hs : swapsWith e (some (.Name x px)) pos.line X.env = pure false) (ha : PE X e (tE Z Eo (evE Fs C a))) :
    PS X (.Assign [.Name x px] e pos) (tS Z Eo F0 φ0 (evS Fs C (.asg (.nm i) a))) := by
  obtain ⟨h1, h2, h3⟩ := locB_ok ok hl
  refine PS.imp (ps_set (i := i) (by rw [ok.hN]; exact ok.nd) h1 h2 ha hs h3) fun D σ H q => ?_
  obtain ⟨p, rfl, I, z, hz, d⟩ := q
  exact asg_nm I hz d
/-- name = [..] with the store in the block's own end -/
def swB (Γ : Gam) (scope : Scope) (x : Str) (l1 l2 : Nat) : Bool := decide (Γ.sc.names.lookup x = some .local) && l1 == l2 && !(scope.names.any fun (n, k) => n == x && (k == .local || k == .cell))
theorem sw_lc (ok : XOk X Z Γ Fs Eo) {x : Str} {px pos : Pos} {elt : Expr} {gens : List Comprehension} {scope : Scope} {n : Nat} (hc : Γ.sc.names.lookup x = some .local ∨ Γ.sc.names.lookup x = some .cell) :
    swapsWith (.ListComp elt gens scope pos) (some (.Name x px)) n X.env = pure (swB Γ scope x px.line pos.line) := by
  have e : X.env.kindOf x = Γ.sc.names.lookup x := by
    rcases hc with h | h
    · rw [h, ok.ko x _ h (.inl rfl)]
    · rw [h, ok.ko x _ h (.inr rfl)]
  show (pure (X.env.blockKind == .function && X.env.kindOf x == some .local && px.line == pos.line && !(scope.names.any fun (n, k) => n == x && (k == .local || k == .cell))) : Sem Bool) = _
  rw [ok.bk, e]
  unfold swB
  congr 1
  rcases hc with h | h <;> rw [h] <;> rfl
theorem s_asgL {i : Nat} {x : Str} {own : List (Str × Nat)} {t : T} {src : Src} {cond elt : E} {tg iter eelt : Expr} {ifs : List Expr} {scope : Scope} {px pos spos : Pos} (ok : XOk X Z Γ Fs Eo) (hl : locB Γ i x = true) (hsw : swB Γ scope x px.line pos.line = true)
    (hi : PI X tg iter (iS Z Eo (evSrc Fs C src))) (hB : BlkOk X.N X.env.scope scope own) (hsl : ∀ j ∈ slotsT t, j ∈ own.map (·.2))
    (hg : ∀ (s : Shared) (H : Hp) (Ca : Addr) (cl : List (Str × Addr)) (fp : List Addr), PG (X.blk s H scope (compEnvC scope cl Ca X.env) fp) tg (gT Z t))
    (ht : ∀ (s : Shared) (H : Hp) (Ca : Addr) (cl : List (Str × Addr)) (fp : List Addr), PTs (X.blk s H scope (compEnvC scope cl Ca X.env) fp) ifs (tT Z noX (evE Fs C cond)))
    (he : ∀ (s : Shared) (H : Hp) (Ca : Addr) (cl : List (Str × Addr)) (fp : List Addr), PE (X.blk s H scope (compEnvC scope cl Ca X.env) fp) eelt (tE Z noX (evE Fs C elt)))
    (hs : ∀ x, foldedSetIterable iter X.env x = pure x) : PS X (.Assign [.Name x px] (.ListComp eelt [⟨tg, iter, ifs, 0⟩] scope pos) spos) (tS Z Eo F0 φ0 (evS Fs C (.asg (.nm i) (.comp own t src cond elt)))) := by
  obtain ⟨h1, h2, h3⟩ := locB_ok ok hl
  have hloc : Γ.sc.names.lookup x = some .local := by
    unfold swB at hsw
    simp only [Bool.and_eq_true, decide_eq_true_eq] at hsw
    exact hsw.1.1
  have hyl : X.env.scope.names.lookup x = some .local := ok.ko x _ hloc (.inl rfl)
  refine PS.imp (ps_setLc ok.calm (by rw [ok.hN]; exact ok.nd) h1 hyl (by rw [sw_lc ok (.inl hloc), hsw]) hi hB hg ht he hs) fun D σ H q => ?_
  obtain ⟨p, rfl, I, z, hz, d⟩ := q
  exact comp_go hsl σ p.H _ (asg_nm I hz d)
/-! several at once -/
def tupV : Expr → Option (List Expr)
  | .Tuple vs _ _ => some vs
  | _ => none
/-- a name that is no plain local -/
def cellN (Γ : Gam) : Expr → Bool
  | .Name x _ => Γ.sc.names.lookup x == some .cell
  | _ => false
/-- stored one behind another, from a row -/
def plainV (Γ : Gam) (ts : List Expr) (e : Expr) : Bool := match tupV e with
  | none => true
  | some vs => !(ts.length == 2 || ts.length == 3) || vs.all (foldedForSure 8) || ts.any (cellN Γ)
theorem fm_lt {α β : Type} {f : α → Option β} : ∀ {ts : List α}, (∃ t ∈ ts, f t = none) → (ts.filterMap f).length < ts.length
  | [], ⟨t, h, _⟩ => by cases h
  | x :: xs, ⟨t, h, e⟩ => by
    have le : (xs.filterMap f).length ≤ xs.length := List.length_filterMap_le _ _
    cases hx : f x with
    | none =>
      rw [List.filterMap_cons_none hx, List.length_cons]
      omega
    | some y =>
      rw [List.filterMap_cons_some hx, List.length_cons, List.length_cons]
      rcases List.mem_cons.mp h with q | q
      · rw [← q, e] at hx
        cases hx
      · have := fm_lt (f := f) ⟨t, q, e⟩
        omega
theorem plainV_ok (ok : XOk X Z Γ Fs Eo) {ts : List Expr} {e : Expr} {k : Nat} {tp : Pos} (h : plainV Γ ts e = true) : swappedStores [.Tuple ts k tp] e X.env = pure none := by
  cases e with
  | Tuple vs k2 p2 =>
    have h : (!(ts.length == 2 || ts.length == 3) || vs.all (foldedForSure 8) || ts.any (cellN Γ)) = true := h
    unfold swappedStores
    simp only
    split
    · rfl
    · split
      · rfl
      · split
        · rfl
        · split
          · rfl
          · rename_i h1 _ h3 h4
            simp only [Bool.or_eq_true, Bool.not_eq_true'] at h h1
            rcases h with (h | h) | h
            · simp [h] at h1
            · exact absurd h h4
            · obtain ⟨t, ht, hc⟩ := List.any_eq_true.mp h
              refine absurd ?_ h3
              have lt := fm_lt (ts := ts) (f := fun
                | .Name id pos => if X.env.kindOf id == some .local && pos.line == (ts.head?.map (·.pos.line)).getD 0 then some id else none
                | _ => none) ⟨t, ht, by
                  cases t with
                  | Name x p =>
                    have hk := ok.ko x .cell (eq_of_beq hc) (.inr rfl)
                    show (if _ then some x else none) = none
                    rw [hk]
                    rfl
                  | _ => rfl⟩
              rw [Bool.or_eq_true]
              left
              rw [bne_iff_ne]
              exact Nat.ne_of_lt lt
  | _ => rfl
theorem s_asgT {ts : List T} {es : List Expr} {e : Expr} {a : E} {k : Nat} {tp pos : Pos} (ok : XOk X Z Γ Fs Eo) (hc : ckT Γ (.tp ts) (.Tuple es k tp) = true) (hp : plainV Γ es e = true) (ha : PE X e (tE Z Eo (evE Fs C a))) :
    PS X (.Assign [.Tuple es k tp] e pos) (tS Z Eo F0 φ0 (evS Fs C (.asg (.tp ts) a))) := by
  refine PS.imp (ps_asg ha (s_tgt ok (.tp ts) _ hc) (by show swapsWith e (some (.Tuple es k tp)) pos.line X.env = pure false; cases e <;> rfl) (plainV_ok ok hp) rfl) fun D σ H q => ?_
  obtain ⟨p, rfl, I, z, hz, d⟩ := q
  unfold evS at hz
  refine sqE (gdS (F0 := F0) (φ0 := φ0) (D := D)) I.s hz ⟨I, d⟩ fun x m q v h1 via sq rx d1 => ?_
  obtain ⟨ρ2, h2, h1⟩ := ob_some h1
  have d2 := d
  rw [nx_some h1] at d2
  obtain ⟨F', mo, nw, f, x1, s1, r1⟩ := give1 (q := q) via I.s sq rx
  have h2 : bindT (.tp ts) x (fz m q.ρ) = some ρ2 := by
    cases m <;> exact h2
  exact ⟨⟨fz m q.ρ, q.M, F', q.φ, q.H⟩, x, ρ2, rfl, s1, r1, h2, fun σ' _ _ l => d2 σ' ⟨ρ2, q.M, F', q.φ, q.H⟩ rfl rfl ⟨⟨s1.g, l⟩, I.post x1.post⟩ (x1.post.stayE I.s.g)⟩
end
end Ev

/-! Several slots; lists that are changed. -/
namespace Ev
open L2 PyProof.Rows PySem PySem.Spec
section
variable {X : Cx} {Z : Zt} {Γ : Gam} {Fs : List Fn} {C : Nv → Clo} {Eo : XK} {F0 : Addr → Prop} {φ0 : List Addr}
/-- a, b = x, y stored from the right -/
def parOk (Γ : Gam) (ns : List (Str × Pos)) (vs : List Expr) : Bool := ns.length == vs.length && (ns.length == 2 || ns.length == 3) && vs.all unst && ns.all (fun n => decide (Γ.sc.names.lookup n.1 = some .local) && n.2.line == ((ns.head?.map (·.2.line)).getD 0)) && decide ((ns.map (·.1)).eraseDups.length = ns.length) && !vs.all (foldedForSure 8) && !vs.all (constantsAlone 8)
def nmE (ns : List (Str × Pos)) : List Expr := ns.map fun n => .Name n.1 n.2
theorem unst_any {vs : List Expr} (h : vs.all unst = true) : (vs.any fun | .Starred .. => true | _ => false) = false := by
  induction vs with
  | nil => rfl
  | cons v vs ih =>
    simp only [List.all_cons, Bool.and_eq_true] at h
    rw [List.any_cons, ih h.2]
    revert h
    cases v <;> intro h <;> first | rfl | cases h.1
theorem par_sw (ok : XOk X Z Γ Fs Eo) {ns : List (Str × Pos)} {vs : List Expr} {k k2 : Nat} {tp p2 : Pos} (h : parOk Γ ns vs = true) : swappedStores [.Tuple (nmE ns) k tp] (.Tuple vs k2 p2) X.env = pure (some (ns.map (·.1))) := by
  unfold parOk at h
  simp only [Bool.and_eq_true, Bool.not_eq_true', decide_eq_true_eq, List.all_eq_true] at h
  obtain ⟨⟨⟨⟨⟨⟨h1, h2⟩, h3⟩, h4⟩, h5⟩, h6⟩, h7⟩ := h
  have hl : (nmE ns).length = ns.length := by simp [nmE]
  have hn : ∀ n ∈ ns, X.env.kindOf n.1 = some .local := fun n hn => ok.ko _ _ (h4 n hn).1 (.inl rfl)
  have hf : ∀ (l : Nat) (ms : List (Str × Pos)), (∀ n ∈ ms, X.env.kindOf n.1 = some .local ∧ (n.2.line == l) = true) → (nmE ms).filterMap (fun
    | .Name id pos => if X.env.kindOf id == some .local && pos.line == l then some id else none
    | _ => none) = ms.map (·.1) := by
    intro l ms
    induction ms with
    | nil => intro _; rfl
    | cons n ms ih =>
      intro hm
      obtain ⟨q1, q2⟩ := hm n List.mem_cons_self
      show List.filterMap _ (.Name n.1 n.2 :: nmE ms) = _
      rw [List.filterMap_cons]
      simp only [q1, q2]
      rw [ih fun m h => hm m (List.mem_cons_of_mem _ h)]
      rfl
  have hline : ((nmE ns).head?.map (·.pos.line)).getD 0 = (ns.head?.map (·.2.line)).getD 0 := by
    cases ns <;> rfl
  have hfm := hf ((ns.head?.map (·.2.line)).getD 0) ns fun n hm => ⟨hn n hm, (h4 n hm).2⟩
  have c1 : (!((nmE ns).length == 2 || (nmE ns).length == 3) || vs.length != (nmE ns).length || X.env.blockKind != .function) = false := by
    rw [hl, ok.bk, beq_iff_eq.mp h1]
    rw [beq_iff_eq.mp h1] at h2
    rw [h2]
    simp
  have c2 := unst_any (vs := vs) (by rw [List.all_eq_true]; exact h3)
  have c3 : ∀ l : List Str, l = ns.map (·.1) → (l.length != (nmE ns).length || l.eraseDups.length != l.length) = false := fun l e => by
    rw [e, h5, hl, List.length_map]
    simp
  unfold swappedStores
  simp only [c1, hline, Bool.false_eq_true, if_false]
  refine (if_neg fun hh => absurd (hh.symm.trans c2) (by simp)).trans ?_
  refine (if_neg fun hh => absurd (hh.symm.trans (c3 _ hfm)) (by simp)).trans ?_
  simp only [h6, h7, Bool.false_eq_true, if_false]
  exact congrArg (fun l => pure (some l)) hfm
theorem RepTs.len {H0 : Hp} {ρ : Nv} {σ : Sx} {F : Addr → Prop} {φ : List Addr} {H : Hp} : ∀ {vs : List V} {ds : List (Ev.D × Md)}, RepTs Z H0 ρ σ F φ H vs ds → vs.length = ds.length
  | [], [], _ => rfl
  | _ :: _, _ :: _, h => congrArg (· + 1) (RepTs.len h.2.2)
  | [], _ :: _, h => h.elim
  | _ :: _, [], h => h.elim
theorem setAll_len : ∀ {is : List Nat} {ds : List (Ev.D × Md)} {ρ ρ2 : Nv}, setAll is ds ρ = some ρ2 → is.length = ds.length
  | [], [], _, _, _ => rfl
  | i :: is, d :: ds, ρ, ρ2, h => congrArg (· + 1) (setAll_len (show setAll is ds _ = some ρ2 from h))
  | [], _ :: _, _, _, h => by cases h
  | _ :: _, [], _, _, h => by cases h
theorem par_go {is : List Nat} {as : Es} {D : Ends} {σ : Sx} {p : Pt} {z : Rz Fl} (nd : is.Nodup) (I : Inb Z F0 φ0 σ p) (hz : evS Fs C (.par is as) p.ρ p.M = some z) (d : DoneS Z Eo F0 φ0 p D z) :
    tL Z Eo (evL Fs C as) σ p.H fun vs H1 => vs.length = is.length ∧ D.nx (setV is vs σ) H1 := by
  unfold evS at hz
  refine sqL (gdS (F0 := F0) (φ0 := φ0) (D := D)) I.s hz ⟨I, d⟩ fun ds q vs h1 via sq rs d1 => ?_
  obtain ⟨ρ2, h2, h1⟩ := ob_some h1
  have d2 := d
  rw [nx_some h1] at d2
  obtain ⟨F', mo, nw, f, x1, s1, r1⟩ := gives_bo (ρ := q.ρ) (F := q.F) via I.s sq rs
  have h2 : setAll is ds (fzs ds q.ρ) = some ρ2 := h2
  refine ⟨by rw [rs.len, setAll_len h2], ?_⟩
  exact d2 _ ⟨ρ2, q.M, F', q.φ, q.H⟩ rfl rfl ⟨⟨s1.g, LSim.setAll I.s.l.ent s1.l r1 nd h2⟩, I.post x1.post⟩ (x1.post.stayE I.s.g)
theorem s_par2 {i j : Nat} {x y : Str} {a b : Expr} {as : Es} {px py pt pt2 pos : Pos} {kt k2 : Nat} (ok : XOk X Z Γ Fs Eo) (hi : locB Γ i x = true) (hj : locB Γ j y = true) (hij : i ≠ j) (hp : parOk Γ [(x, px), (y, py)] [a, b] = true) (ha : PA X [a, b] (tL Z Eo (evL Fs C as))) :
    PS X (.Assign [.Tuple [.Name x px, .Name y py] kt pt] (.Tuple [a, b] k2 pt2) pos) (tS Z Eo F0 φ0 (evS Fs C (.par [i, j] as))) := by
  have lc : ∀ n ∈ [(x, px), (y, py)], X.env.scope.names.lookup n.1 = some .local := fun n hn => by
    have h := hp
    unfold parOk at h
    simp only [Bool.and_eq_true, List.all_eq_true, decide_eq_true_eq] at h
    exact ok.ko _ _ (h.1.1.1.2 n hn).1 (.inl rfl)
  refine PS.imp (ps_par (i := i) (j := j) ok.calm (by rw [ok.hN]; exact ok.nd) (locB_ok ok hi).1 (locB_ok ok hj).1 hij (lc (x, px) (by simp)) (lc (y, py) (by simp)) ha (par_sw ok hp) rfl) fun D σ H q => ?_
  obtain ⟨p, rfl, I, z, hz, d⟩ := q
  have w := par_go (nd := by simp [hij]) I hz d
  refine (show tL Z Eo (evL Fs C as) σ p.H _ from ?_)
  obtain ⟨p', e, s', r, hr, dn⟩ := w
  refine ⟨p', e, s', r, hr, ?_⟩
  cases r with
  | er c v M => exact dn
  | ok l =>
    intro q vs e1 e2 y sy rep
    obtain ⟨hl, k⟩ := dn q vs e1 e2 y sy rep
    match vs, hl with
    | [v, w], _ => exact ⟨v, w, rfl, k⟩
theorem s_par3 {i j l : Nat} {x y z : Str} {a b c : Expr} {as : Es} {px py pz pt pt2 pos : Pos} {kt k2 : Nat} (ok : XOk X Z Γ Fs Eo) (hi : locB Γ i x = true) (hj : locB Γ j y = true) (hl : locB Γ l z = true) (hij : i ≠ j) (hil : i ≠ l) (hjl : j ≠ l) (hp : parOk Γ [(x, px), (y, py), (z, pz)] [a, b, c] = true) (ha : PA X [a, b, c] (tL Z Eo (evL Fs C as))) :
    PS X (.Assign [.Tuple [.Name x px, .Name y py, .Name z pz] kt pt] (.Tuple [a, b, c] k2 pt2) pos) (tS Z Eo F0 φ0 (evS Fs C (.par [i, j, l] as))) := by
  have lc : ∀ n ∈ [(x, px), (y, py), (z, pz)], X.env.scope.names.lookup n.1 = some .local := fun n hn => by
    have h := hp
    unfold parOk at h
    simp only [Bool.and_eq_true, List.all_eq_true, decide_eq_true_eq] at h
    exact ok.ko _ _ (h.1.1.1.2 n hn).1 (.inl rfl)
  refine PS.imp (ps_par3 (i := i) (j := j) (l := l) ok.calm (by rw [ok.hN]; exact ok.nd) (locB_ok ok hi).1 (locB_ok ok hj).1 (locB_ok ok hl).1 hij hil hjl (lc (x, px) (by simp)) (lc (y, py) (by simp)) (lc (z, pz) (by simp)) ha (par_sw ok hp) rfl) fun D σ H q => ?_
  obtain ⟨p, rfl, I, z, hz, d⟩ := q
  have w := par_go (nd := by simp [hij, hil, hjl]) I hz d
  refine (show tL Z Eo (evL Fs C as) σ p.H _ from ?_)
  obtain ⟨p', e, s', r, hr, dn⟩ := w
  refine ⟨p', e, s', r, hr, ?_⟩
  cases r with
  | er c v M => exact dn
  | ok l =>
    intro q vs e1 e2 y sy rep
    obtain ⟨hl, k⟩ := dn q vs e1 e2 y sy rep
    match vs, hl with
    | [u, v, w], _ => exact ⟨u, v, w, rfl, k⟩
/-! ### a list that stands alone is changed -/
/-- a def's own list gets other items -/
theorem Inb.upd {σ : Sx} {p : Pt} {i : Nat} {d e : Ev.D} {a : Addr} {vs : List V} (I : Inb Z F0 φ0 σ p) (h1 : p.ρ[i]? = some (some (d, true))) (h2 : σ[i]? = some (some (.ref a))) (r : ∀ F' φ' H', Stay p.F p.φ p.H F' φ' H' → H' a = some (.lst vs) → OwnR Z F' φ' H' a e) :
    Inb Z F0 φ0 σ ⟨p.ρ.set i (some (e, true)), p.M, p.F, p.φ, L2.upd p.H a (.lst vs)⟩ ∧ Stay p.F p.φ p.H p.F p.φ (L2.upd p.H a (.lst vs)) := by
  obtain ⟨a', e2, ro, n1, n2, n3⟩ := I.s.l.ow i d h1
  rw [h2] at e2
  cases e2
  obtain ⟨xs, hx⟩ := ro.lst
  have hi : i < p.ρ.length := (List.getElem?_eq_some_iff.mp h1).1
  -- without the slot the list is private
  have sim0 : Sim Z (p.ρ.set i none) p.M p.F p.φ (σ.set i none) p.H := by
    refine ⟨I.s.g, by rw [List.length_set, List.length_set, I.s.l.len], fun j x h => ?_, fun j x h => ?_, I.s.l.ent, fun j k x y b g1 g2 g3 g4 => ?_⟩
    · rw [List.getElem?_set] at h ⊢
      split at h
      · first
          | cases h
          | (split at h <;> cases h)
      · rename_i q
        rw [if_neg q]
        exact I.s.l.sh j x h
    · rw [List.getElem?_set] at h ⊢
      split at h
      · first
          | cases h
          | (split at h <;> cases h)
      · rename_i q
        rw [if_neg q]
        exact I.s.l.ow j x h
    · rw [List.getElem?_set] at g1 g2 g3 g4
      split at g1
      · first
          | cases g1
          | (split at g1 <;> cases g1)
      · split at g2
        · first
            | cases g2
            | (split at g2 <;> cases g2)
        · rename_i q1 q2
          rw [if_neg q1] at g3
          rw [if_neg q2] at g4
          exact I.s.l.inj j k x y b g1 g2 g3 g4
  have nO : ¬ Own (p.ρ.set i none) (σ.set i none) a := fun z => by
    obtain ⟨j, x, g1, g2⟩ := z
    rw [List.getElem?_set] at g1 g2
    split at g1
    · first
        | cases g1
        | (split at g1 <;> cases g1)
    · rename_i q
      rw [if_neg q] at g2
      exact q (I.s.l.inj i j d x a h1 g1 h2 g2)
  obtain ⟨st, s1⟩ := Sim.priv (ys := vs) sim0 hx n1 n2 nO
  refine ⟨⟨?_, ?_⟩, st⟩
  · have w := s1.l.setO (i := i) (r _ _ _ st upd_same) n1 n2 n3 fun j x _ g1 g2 => nO ⟨j, x, g1, g2⟩
    rw [List.set_set, List.set_set] at w
    have es : σ.set i (some (V.ref a)) = σ := by
      apply List.ext_getElem?
      intro j
      by_cases q : i = j
      · subst q
        have hlt := (List.getElem?_eq_some_iff.mp h2).1
        rw [List.getElem?_set_self hlt, h2]
      · rw [List.getElem?_set_ne q]
    rw [es] at w
    exact ⟨s1.g, w⟩
  · refine ⟨I.po.ext, fun b o g1 g2 g3 g4 => ?_, I.po.mono, I.po.new, fun b h => ?_⟩
    · exact (upd_ne (ne_of_none g1 n3)).trans (I.po.keep b o g1 g2 g3 g4)
    · by_cases hb : b = a
      · rw [hb]
        exact n3
      · exact I.po.dom b ((upd_ne hb).symm.trans h)
end
end Ev

/-! append, extend, pop, items set. -/
namespace Ev
open L2 PyProof.Rows PySem PySem.Spec
section
variable {X : Cx} {Z : Zt} {Γ : Gam} {Fs : List Fn} {C : Nv → Clo} {Eo : XK} {F0 : Addr → Prop} {φ0 : List Addr}
theorem owned_some {ρ : Nv} {i : Nat} {d : Ev.D} (h : owned ρ i = some d) : ρ[i]? = some (some (d, true)) := by
  unfold owned at h
  split at h
  · rename_i e
    cases h
    exact e
  · cases h
theorem few_one {e : Expr} {env : Env} {cpos : Pos} (hu : unst e = true) : ((backTo cpos (starEach [e] env)).all (fun x => !x.1) && (backToKw cpos (keywordEach [] env)).all (fun x => x.1.isSome) && decide ([e].length + ([] : List Keyword).length + (if ([] : List Keyword).isEmpty then 0 else 1) < 30)) = true := by
  rw [star_one hu]
  rfl
/-- x.m(e) of a list in a slot -/
theorem pe_lm {id : String} {name : Str} {r : V → List V → Hp → VK → Prop} {i : Nat} {x : Str} {e : Expr} {px apos cpos : Pos} {te : TE} (ok : XOk X Z Γ Fs Eo) (hv : varOk Γ i x = true) (slot : PySem.Slot "list" name id) (hty : typeOf (.builtin id) = pure (.type "method_descriptor")) (hm : MtR X id r) (hu : unst e = true) (hl : (apos.endLine == cpos.line) = true) (he : PE X e te) :
    PE X (.Call (.Attribute (.Name x px) name apos) [e] [] cpos) (tBM X.K "list" r (tVar i) (tCons te tNil)) := by
  obtain ⟨h1, h2, h3⟩ := varOk_ok ok hv
  exact pe_bm F.plainAttrs_list slot hty hm (pe_var (i := i) h1 h2 (nm_all h3).1 (nm_all h3).2.1) (pa_cons he pa_nil (star_one hu)) rfl (few_one hu) hl (star_one hu) rfl
/-- the list of slot i behind a term -/
theorem own_at {σ : Sx} {p : Pt} {i : Nat} {l : Ev.D} (I : Inb Z F0 φ0 σ p) (h : owned p.ρ i = some l) : ∃ a vs, σ[i]? = some (some (.ref a)) ∧ p.H a = some (.lst vs) ∧ OwnR Z p.F p.φ p.H a l := by
  obtain ⟨a, e, r, _⟩ := I.s.l.ow i l (owned_some h)
  obtain ⟨vs, hv⟩ := r.lst
  exact ⟨a, vs, e, hv, r⟩
theorem app_own {F : Addr → Prop} {φ : List Addr} {H : Hp} {a : Addr} {l x l' : Ev.D} {v : V} (r : OwnR Z F φ H a l) (rx : Rep Z F φ H v x) (h : appD l x = some l') : ∃ vs, H a = some (.lst vs) ∧ vs.length < sizeLine ∧ ∀ F' φ' H', Stay F φ H F' φ' H' → H' a = some (.lst (vs ++ [v])) → OwnR Z F' φ' H' a l' := by
  unfold appD at h
  split at h
  · obtain ⟨hz, h⟩ := if_some h
    cases h
    obtain ⟨vs, e, rs⟩ := r
    cases rx with
    | py rp => exact ⟨vs, e, by rw [rs.len]; exact hz, fun F' φ' H' st e' => ⟨_, e', (rs.stay st).app (.cons (rp.stay st) .nil)⟩⟩
  · obtain ⟨hz, h⟩ := if_some h
    cases h
    obtain ⟨vs, e, rs⟩ := r
    exact ⟨vs, e, by rw [rs.len]; exact hz, fun F' φ' H' st e' => ⟨_, e', (rs.reps.stay st).app (.cons (rx.stay st) .nil)⟩⟩
  · obtain ⟨hz, h⟩ := if_some h
    cases h
    obtain ⟨vs, e, rs⟩ := r
    exact ⟨vs, e, by rw [rs.len]; exact hz, fun F' φ' H' st e' => ⟨_, e', (rs.stay st).app (.cons (rx.stay st) .nil)⟩⟩
  · cases h
theorem s_app {i : Nat} {x : Str} {e : Expr} {a : E} {px apos cpos pos : Pos} (ok : XOk X Z Γ Fs Eo) (hv : varOk Γ i x = true) (hu : unst e = true) (hl : (apos.endLine == cpos.line) = true) (ha : PE X e (tE Z Eo (evE Fs C a))) :
    PS X (.Expr (.Call (.Attribute (.Name x px) "append" apos) [e] [] cpos) pos) (tS Z Eo F0 φ0 (evS Fs C (.app i a))) := by
  refine PS.imp (ps_expr (pe_lm ok hv F.slot_list_append F.type_list_append mt_append hu hl ha) rfl) fun D σ H q => ?_
  obtain ⟨p, rfl, I, z, hz, d⟩ := q
  unfold evS at hz
  obtain ⟨l0, h0, hz⟩ := ob_some hz
  obtain ⟨b, vs0, e0, hb0, r0⟩ := own_at I h0
  refine ⟨.ref b, e0, .inl ⟨rfl, vs0, SqL.of hb0⟩, ?_⟩
  show tE Z Eo (evE Fs C a) σ p.H _
  refine sqE (gdS (F0 := F0) (φ0 := φ0) (D := D)) I.s hz ⟨I, d⟩ fun x m q v h1 via sq rx d1 => ?_
  obtain ⟨F', mo, nw, f, x1, s1, r1⟩ := give1 (q := q) via I.s sq rx
  obtain ⟨l, h2, h1⟩ := ob_some h1
  obtain ⟨l', h3, h1⟩ := ob_some h1
  have J : Inb Z F0 φ0 σ ⟨fz m q.ρ, q.M, F', q.φ, q.H⟩ := ⟨s1, I.post x1.post⟩
  obtain ⟨b', vs1, e1, hb1, r2⟩ := own_at J h2
  rw [e0] at e1
  cases e1
  obtain ⟨vs, hb, hsz, k⟩ := app_own r2 r1 h3
  refine ⟨b, vs, v, rfl, rfl, hb, hsz, ?_⟩
  obtain ⟨J2, st2⟩ := J.upd (owned_some h2) e0 k
  have d2 := d
  rw [nx_some h1] at d2
  exact d2 σ ⟨(fz m q.ρ).set i (some (l', true)), q.M, F', q.φ, L2.upd q.H b (.lst (vs ++ [v]))⟩ rfl rfl J2 ((x1.post.stayE I.s.g).trans st2)
theorem ext_own {F : Addr → Prop} {φ : List Addr} {H : Hp} {a : Addr} {l x l' : Ev.D} {v : V} (r : OwnR Z F φ H a l) (rx : Rep Z F φ H v x) (h : extD l x = some l') : ∃ vs b ws, v = .ref b ∧ H a = some (.lst vs) ∧ H b = some (.lst ws) ∧ vs.length + ws.length ≤ sizeLine ∧ ∀ F' φ' H', Stay F φ H F' φ' H' → H' a = some (.lst (vs ++ ws)) → OwnR Z F' φ' H' a l' := by
  unfold extD at h
  split at h
  · obtain ⟨hz, h⟩ := if_some h
    cases h
    obtain ⟨vs, e, rs⟩ := r
    obtain ⟨b, ws, rfl, e2, rs2⟩ := RepR.lst (.inl rx)
    exact ⟨vs, b, ws, rfl, e, e2, by rw [rs.len, rs2.len]; exact hz, fun F' φ' H' st e' => ⟨_, e', (rs.stay st).app (rs2.stay st)⟩⟩
  · obtain ⟨hz, h⟩ := if_some h
    cases h
    obtain ⟨vs, e, rs⟩ := r
    obtain ⟨b, ws, rfl, e2, rs2⟩ := RepR.ml (.inl rx)
    exact ⟨vs, b, ws, rfl, e, e2, by rw [rs.len, rs2.len]; exact hz, fun F' φ' H' st e' => ⟨_, e', (rs.reps.stay st).app (rs2.stay st)⟩⟩
  · obtain ⟨hz, h⟩ := if_some h
    cases h
    obtain ⟨vs, e, rs⟩ := r
    obtain ⟨b, ws, rfl, e2, rs2⟩ := RepR.lst (.inl rx)
    exact ⟨vs, b, ws, rfl, e, e2, by rw [rs.len, rs2.len]; exact hz, fun F' φ' H' st e' => ⟨_, e', (rs.stay st).app (rs2.reps.stay st)⟩⟩
  · obtain ⟨hz, h⟩ := if_some h
    cases h
    obtain ⟨vs, e, rs⟩ := r
    obtain ⟨b, ws, rfl, e2, rs2⟩ := RepR.ml (.inl rx)
    exact ⟨vs, b, ws, rfl, e, e2, by rw [rs.len, rs2.len]; exact hz, fun F' φ' H' st e' => ⟨_, e', (rs.stay st).app (rs2.stay st)⟩⟩
  · cases h
theorem s_ext {i : Nat} {x : Str} {e : Expr} {a : E} {px apos cpos pos : Pos} (ok : XOk X Z Γ Fs Eo) (hv : varOk Γ i x = true) (hu : unst e = true) (hl : (apos.endLine == cpos.line) = true) (ha : PE X e (tE Z Eo (evE Fs C a))) :
    PS X (.Expr (.Call (.Attribute (.Name x px) "extend" apos) [e] [] cpos) pos) (tS Z Eo F0 φ0 (evS Fs C (.ext i a))) := by
  refine PS.imp (ps_expr (pe_lm ok hv F.slot_list_extend F.type_list_extend mt_extend hu hl ha) rfl) fun D σ H q => ?_
  obtain ⟨p, rfl, I, z, hz, d⟩ := q
  unfold evS at hz
  obtain ⟨l0, h0, hz⟩ := ob_some hz
  obtain ⟨b, vs0, e0, hb0, r0⟩ := own_at I h0
  refine ⟨.ref b, e0, .inl ⟨rfl, vs0, SqL.of hb0⟩, ?_⟩
  show tE Z Eo (evE Fs C a) σ p.H _
  refine sqE (gdS (F0 := F0) (φ0 := φ0) (D := D)) I.s hz ⟨I, d⟩ fun x m q v h1 via sq rx d1 => ?_
  obtain ⟨F', mo, nw, f, x1, s1, r1⟩ := give1 (q := q) via I.s sq rx
  obtain ⟨l, h2, h1⟩ := ob_some h1
  obtain ⟨l', h3, h1⟩ := ob_some h1
  have J : Inb Z F0 φ0 σ ⟨fz m q.ρ, q.M, F', q.φ, q.H⟩ := ⟨s1, I.post x1.post⟩
  obtain ⟨b', vs1, e1, hb1, r2⟩ := own_at J h2
  rw [e0] at e1
  cases e1
  obtain ⟨vs, c, ws, rfl, hb, hc, hsz, k⟩ := ext_own r2 r1 h3
  refine ⟨b, c, vs, ws, rfl, rfl, hb, hc, hsz, ?_⟩
  obtain ⟨J2, st2⟩ := J.upd (owned_some h2) e0 k
  have d2 := d
  rw [nx_some h1] at d2
  exact d2 σ ⟨(fz m q.ρ).set i (some (l', true)), q.M, F', q.φ, L2.upd q.H b (.lst (vs ++ ws))⟩ rfl rfl J2 ((x1.post.stayE I.s.g).trans st2)
/-! ### items set -/
theorem hasX_some {ρ : Nv} {i : Nat} {u : Unit} (h : hasX ρ i = some u) : (∃ n, ρ[i]? = some (some (.cel n, false))) ∨ ∃ d, ρ[i]? = some (some (d, true)) := by
  unfold hasX at h
  split at h
  · rename_i n e
    exact .inl ⟨n, e⟩
  · rename_i d e
    exact .inr ⟨d, e⟩
  · cases h
theorem ixN_lt {n : Nat} {k : Int} {j : Nat} (h : ixN n k = some j) : j < n := (ixN_seq h).2.1
theorem nodup_ix {α : Type} : ∀ {l : List α} {i j : Nat} {a : α}, l.Nodup → l[i]? = some a → l[j]? = some a → i = j
  | x :: l, 0, 0, _, _, _, _ => rfl
  | x :: l, 0, j + 1, a, n, h1, h2 => by
    have h1 : some x = some a := by simpa using h1
    cases h1
    exact absurd (List.mem_of_getElem? (by simpa using h2 : l[j]? = some x)) (List.nodup_cons.mp n).1
  | x :: l, i + 1, 0, a, n, h1, h2 => by
    have h2 : some x = some a := by simpa using h2
    cases h2
    exact absurd (List.mem_of_getElem? (by simpa using h1 : l[i]? = some x)) (List.nodup_cons.mp n).1
  | x :: l, i + 1, j + 1, a, n, h1, h2 => congrArg (· + 1) (nodup_ix (List.nodup_cons.mp n).2 (by simpa using h1) (by simpa using h2))
  | [], _, _, _, _, h, _ => by simp at h
/-- a cell gets other items -/
theorem Inb.cel {σ : Sx} {p : Pt} {n : Nat} {a : Addr} {vs ws : List V} {ps : List PyData} (I : Inb Z F0 φ0 σ p) (hφ : p.φ[n]? = some a) (ha : p.H a = some (.lst vs)) (r : ∀ F' φ' H', Stay p.F p.φ p.H F' φ' H' → RepPs F' H' ws ps) :
    Inb Z F0 φ0 σ ⟨p.ρ, p.M.set n ps, p.F, p.φ, L2.upd p.H a (.lst ws)⟩ ∧ Stay p.F p.φ p.H p.F p.φ (L2.upd p.H a (.lst ws)) := by
  have ain : a ∈ p.φ := List.mem_of_getElem? hφ
  have nF : ¬ p.F a := fun z => (I.s.g.dom a z).2 ain
  have st : Stay p.F p.φ p.H p.F p.φ (L2.upd p.H a (.lst ws)) := by
    refine ⟨fun _ h => h, fun b o hf h _ => ?_, fun b us h => ?_, fun b o u h => ?_, fun b f h => ?_, ⟨[], by simp⟩⟩
    · rw [upd_ne (fun (z : b = a) => nF (z ▸ hf))]
      exact h
    · rw [upd_ne (fun z => by rw [z, ha] at h; cases h)]
      exact h
    · rw [upd_ne (fun z => by rw [z, ha] at h; cases h)]
      exact h
    · rw [upd_ne (fun z => by rw [z, ha] at h; cases h)]
      exact h
  have dm : ∀ b, L2.upd p.H a (.lst ws) b = none → p.H b = none := fun b h => by
    by_cases hb : b = a
    · rw [hb, upd_same] at h
      cases h
    · exact (upd_ne hb).symm.trans h
  refine ⟨⟨⟨⟨fun b hb => ?_, by rw [List.length_set]; exact I.s.g.len, fun k qs hk => ?_, I.s.g.nd, ?_⟩, I.s.l.len, fun j d h => ?_, fun j d h => ?_, fun b h => I.s.l.ent b (dm b h), I.s.l.inj⟩, ?_⟩, st⟩
  · obtain ⟨h1, h2⟩ := I.s.g.dom b hb
    exact ⟨fun z => h1 (dm b z), h2⟩
  · rw [List.getElem?_set] at hk
    split at hk
    · rename_i q
      subst q
      first
        | (split at hk
           · cases hk
             exact ⟨a, ws, hφ, upd_same, r _ _ _ st⟩
           · cases hk)
        | (cases hk
           exact ⟨a, ws, hφ, upd_same, r _ _ _ st⟩)
    · rename_i q
      obtain ⟨b, us, g1, g2, g3⟩ := I.s.g.cell k qs hk
      refine ⟨b, us, g1, (upd_ne fun z => ?_).trans g2, g3.stay st⟩
      rw [z] at g1
      exact q (nodup_ix I.s.g.nd hφ g1)
  · refine fun q hq => ?_
    obtain ⟨ps', h1, h2, h3⟩ := I.s.g.tab q hq
    refine ⟨ps', (upd_ne (fun z => by rw [z, ha] at h1; cases h1)).trans h1, h2, fun pos cv hc => ?_⟩
    obtain ⟨c, e1, e2⟩ := h3 pos cv hc
    exact ⟨c, e1, (upd_ne (fun z => by rw [z, ha] at e2; unfold LamX.CodeO at e2; cases e2)).trans e2⟩
  · obtain ⟨v, e1, r⟩ := I.s.l.sh j d h
    exact ⟨v, e1, r.stay st⟩
  · obtain ⟨b, e1, r, g1, g2, g3⟩ := I.s.l.ow j d h
    exact ⟨b, e1, r.stay st fun us hu => (upd_ne (fun (z : b = a) => g2 (z ▸ ain))).trans hu, g1, g2, g3⟩
  · obtain ⟨ψ, e, hψ⟩ := I.po.ext
    refine ⟨⟨ψ, e, hψ⟩, fun b o g1 g2 g3 g4 => ?_, I.po.mono, I.po.new, fun b h => I.po.dom b (dm b h)⟩
    refine (upd_ne (fun z => ?_)).trans (I.po.keep b o g1 g2 g3 g4)
    have ain2 := ain
    rw [e, ← z] at ain2
    rcases List.mem_append.mp ain2 with w | w
    · exact g2 w
    · rw [hψ b w] at g1
      cases g1
theorem s_set {i : Nat} {x : Str} {e ix : Expr} {a b : E} {px sp pos : Pos} (ok : XOk X Z Γ Fs Eo) (hv : varOk Γ i x = true) (hx : noSlice ix = true) (ha : PE X e (tE Z Eo (evE Fs C a))) (hb : PE X ix (tE Z Eo (evE Fs C b))) :
    PS X (.Assign [.Subscript (.Name x px) ix sp] e pos) (tS Z Eo F0 φ0 (evS Fs C (.set i b a))) := by
  obtain ⟨n1, n2, n3⟩ := varOk_ok ok hv
  refine PS.imp (ps_asg ha (pg_sub (pe_var (i := i) (pos := px) n1 n2 (nm_all n3).1 (nm_all n3).2.1) hb set_list (by cases ix <;> first | (intro _; rfl) | cases hx)) (by show swapsWith e (some (.Subscript (.Name x px) ix sp)) pos.line X.env = pure false; cases e <;> rfl) (by cases e <;> rfl) rfl) fun D σ H q => ?_
  obtain ⟨p, rfl, I, z, hz, d⟩ := q
  unfold evS at hz
  obtain ⟨u0, h0, hz⟩ := ob_some hz
  obtain ⟨b0, e0⟩ : ∃ b0, σ[i]? = some (some (.ref b0)) := by
    rcases hasX_some h0 with ⟨n, h⟩ | ⟨l, h⟩
    · obtain ⟨v, e, r⟩ := I.s.l.sh i _ h
      obtain ⟨a, rfl, _⟩ := RepR.cel (.inl r)
      exact ⟨a, e⟩
    · obtain ⟨a, e, _⟩ := I.s.l.ow i _ h
      exact ⟨a, e⟩
  refine sqE (gdS (F0 := F0) (φ0 := φ0) (D := D)) I.s hz ⟨I, d⟩ fun x m q v h1 via sq rx d1 => ?_
  obtain ⟨F', mo, nw, f, x1, s1, r1⟩ := give1 (q := q) via I.s sq rx
  have J : Inb Z F0 φ0 σ ⟨fz m q.ρ, q.M, F', q.φ, q.H⟩ := ⟨s1, I.post x1.post⟩
  refine ⟨.ref b0, e0, ?_⟩
  refine sqE (p := ⟨fz m q.ρ, q.M, F', q.φ, q.H⟩) (gdS (F0 := F0) (φ0 := φ0) (D := D)) s1 h1 ⟨J, d.rebase (x1.post.stayE I.s.g)⟩ fun y m2 t w h2 via2 st ry d2 => ?_
  obtain ⟨k, rfl, h2⟩ := gi_some h2
  have ew := (ry.r st.l).int
  subst ew
  have r2 : Rep Z t.F t.φ t.H v x := r1.stay (via2.post.stayE s1.g)
  unfold putX at h2
  split at h2
  · rename_i n hn
    have hn : t.ρ[i]? = some (some (.cel n, false)) := hn
    have hxp : ∃ p0, x = .py p0 := by
      revert h2
      cases x <;> intro h2 <;> first | exact ⟨_, rfl⟩ | cases h2
    obtain ⟨p0, rfl⟩ := hxp
    have h2 : (ob t.M[n]? fun ps => ob (ixN ps.length k) fun j => nx t.ρ (t.M.set n (ps.set j p0))) = some z := h2
    obtain ⟨ps, h3, h2⟩ := ob_some h2
    obtain ⟨j, h4, h2⟩ := ob_some h2
    obtain ⟨v', e1, r3⟩ := st.l.sh i _ hn
    obtain ⟨a', rfl, hφ⟩ := RepR.cel (.inl r3)
    rw [e0] at e1
    cases e1
    obtain ⟨a2, vs, g1, g2, g3⟩ := st.g.cell n ps h3
    rw [hφ] at g1
    cases g1
    have rp : RepP t.F t.H v p0 := by
      cases r2 with
      | py r => exact r
    refine ⟨b0, vs, k, j, rfl, rfl, g2, by rw [g3.len]; exact h4, ?_⟩
    obtain ⟨J2, st2⟩ := d2.1.cel (ws := vs.set j v) (ps := ps.set j p0) hφ g2 fun F' φ' H' s => RepPs.set (rp.stay s) j (g3.stay s)
    have d3 := d2.2
    rw [nx_some h2] at d3
    exact d3 σ ⟨t.ρ, t.M.set n (ps.set j p0), t.F, t.φ, L2.upd t.H b0 (.lst (vs.set j v))⟩ rfl rfl J2 st2
  · rename_i l hn
    have hn : t.ρ[i]? = some (some (l, true)) := hn
    obtain ⟨l', h3, h2⟩ := ob_some h2
    obtain ⟨a', e1, r3, _⟩ := st.l.ow i _ hn
    rw [e0] at e1
    cases e1
    have key : ∃ vs j, t.H b0 = some (.lst vs) ∧ ixN vs.length k = some j ∧ ∀ F' φ' H', Stay t.F t.φ t.H F' φ' H' → H' b0 = some (.lst (vs.set j v)) → OwnR Z F' φ' H' b0 l' := by
      have h3 : setD l k x = some l' := h3
      unfold setD at h3
      split at h3
      · obtain ⟨j, h4, rfl⟩ := Option.map_eq_some_iff.mp h3
        obtain ⟨vs, e, rs⟩ := r3
        cases r2 with
        | py rp => exact ⟨vs, j, e, by rw [rs.len]; exact h4, fun F' φ' H' s e' => ⟨_, e', RepPs.set (rp.stay s) j (rs.stay s)⟩⟩
      · cases h3
    obtain ⟨vs, j, g1, g2, g3⟩ := key
    refine ⟨b0, vs, k, j, rfl, rfl, g1, g2, ?_⟩
    obtain ⟨J2, st2⟩ := d2.1.upd hn e0 g3
    have d3 := d2.2
    rw [nx_some h2] at d3
    exact d3 σ ⟨t.ρ.set i (some (l', true)), t.M, t.F, t.φ, L2.upd t.H b0 (.lst (vs.set j v))⟩ rfl rfl J2 st2
  · cases h2
end
end Ev

/-! Loops, raise. -/
namespace Ev
open L2 PyProof.Rows PySem PySem.Spec
/-- what an error's own __init__ does -/
def spI : Sp := fun vs H Q E => ∃ (a Ca : Addr) (K : PySem.W.Frag) (v : V), vs = [.ref a, v] ∧ OexC K Ca ∧ PySem.W.findIn K (.ref Ca) valK = some none ∧ H a = some (exo a Ca none) ∧ ∀ dx, H dx = none → dx ≠ a → Q .non (upd (upd H dx (exd dx [(valK, v)])) a (exo a Ca (some dx)))
/-- a class of errors that can be raised -/
structure Raz (P : Program) (w : World) (K : PySem.W.Frag) (mg : Str → Option Value) (base : Heap) (Ca : Addr) (lv : Nat) : Prop where
  ox : OexC K Ca
  nv : PySem.W.findIn K (.ref Ca) valK = some none
  ini : ∃ (fI : Addr) (fd : FuncData) (ps : List Str) (sp : Sp), PySem.W.findIn K (.ref Ca) "__init__" = some (some (.ref fI)) ∧ PySem.W.typeIn K (.ref fI) = some (.type "function") ∧ FnOk P w K mg base (L2.CX P w) lv fI fd ps sp ∧ Binds K fd ps [] ∧
    ∀ (a : Addr) (v : V) (H : Hp) (Q : VK) (E : XK), H a = some (exo a Ca none) → (∀ dx, H dx = none → dx ≠ a → Q .non (upd (upd H dx (exd dx [(valK, v)])) a (exo a Ca (some dx)))) → sp [.ref a, v] H Q E
structure XSt (X : Cx) (Z : Zt) (Γ : Gam) (Fs : List Fn) (Eo : XK) (rz : List Nat) : Prop where
  ok : XOk X Z Γ Fs Eo
  tk : Takes X fun cls d _ H => Eo cls d H
  ps : PassesOwn (model X.prog X.w) X.A X.env X.xe
  rz : ∀ c ∈ rz, ∃ l, l + 1 ≤ Γ.lv ∧ Raz X.prog X.w X.K X.mg X.base (Z.ca c) l
theorem pass_no {X : Cx} : Passes (L2.CX X.prog X.w) X fun _ _ _ => False := fun _ _ _ _ _ _ _ h => by
  obtain ⟨_, _, _, _, _, _, _, _, _, _, _, _, z⟩ := h
  exact z.elim
section
variable {X : Cx} {Z : Zt} {Γ : Gam} {Fs : List Fn} {C : Nv → Clo} {Eo : XK} {F0 : Addr → Prop} {φ0 : List Addr} {rz : List Nat}
/-- a new error's dict -/
theorem err_new {σ : Sx} {p : Pt} {v : V} {pd : PyData} {dx : Addr} {c : Nat} (s : p.Sim Z σ) (r : RepP p.F p.H v pd) (hd : p.H dx = none) :
    Post no1 no1 p.F p.φ p.H (fun b => p.F b ∨ b = dx) p.φ (upd p.H dx (.xd [(valK, v)])) ∧ Err Z c pd p.M ⟨p.ρ, p.M, fun b => p.F b ∨ b = dx, p.φ, upd p.H dx (.xd [(valK, v)])⟩ dx := by
  have st : Stay p.F p.φ p.H (fun b => p.F b ∨ b = dx) p.φ (upd p.H dx (.xd [(valK, v)])) := (stay_upd hd).trans (stay_grow fun _ h => .inl h)
  obtain ⟨f1, f2⟩ := s.g.free hd
  refine ⟨⟨⟨[], by simp, by simp⟩, fun b o h _ _ _ => by rw [upd_ne (ne_of_none h hd)]; exact h, fun _ h => .inl h, fun b h => h.imp id fun e => .inl (by rw [e]; exact hd), fun b h => ?_⟩, ?_, .inr rfl, v, upd_same, r.stay st⟩
  · by_cases hb : b = dx
    · rw [hb, upd_same] at h
      cases h
    · rw [upd_ne hb] at h
      exact h
  · show GSim Z p.M (fun b => p.F b ∨ b = dx) p.φ (upd p.H dx (.xd [(valK, v)]))
    refine s.g.next st rfl (fun b hb => upd_ne fun z => f2 (z ▸ hb)) (fun b hb => ?_) (s.g.tab.ext fun b o e => by rw [upd_ne (ne_of_none e hd)]; exact e)
    rcases hb with hb | hb
    · obtain ⟨h1, h2⟩ := s.g.dom b hb
      refine ⟨fun z => ?_, h2⟩
      by_cases hbd : b = dx
      · rw [hbd, upd_same] at z
        cases z
      · exact h1 ((upd_ne hbd).symm.trans z)
    · rw [hb]
      exact ⟨fun z => (by rw [upd_same] at z; cases z), f2⟩
theorem s_rai {c : Nat} {x : Str} {e : Expr} {a : E} {p1 p2 pos : Pos} (xs : XSt X Z Γ Fs Eo rz) (hc : c ∈ rz) (hg : glB Γ x (.cls c) = true) (hu : unst e = true) (ha : PE X e (tE Z Eo (evE Fs C a))) :
    PS X (.Raise (some (.Call (.Name x p1) [e] [] p2)) none pos) (tS Z Eo F0 φ0 (evS Fs C (.rai c a))) := by
  obtain ⟨h1, h2, h3⟩ := glB_ok xs.ok hg
  obtain ⟨l, hl, R⟩ := xs.rz c hc
  obtain ⟨fI, fd, ps, sp, iC, tI, F1, hb, hsp⟩ := R.ini
  have mk := pmk_oex (X := X) (x := x) (p := p1) (pos := p2) R.ox iC tI F1 (xs.ok.room.mono hl) hb .nil pass_no h1 h3 (pa_cons ha pa_nil (star_one hu)) (nm_all h2).1 (star_one hu) rfl
  refine PS.imp (ps_raise xs.ok.calm xs.tk mk) fun D σ H q => ?_
  obtain ⟨p, rfl, I, z, hz, d⟩ := q
  unfold evS at hz
  show tE Z Eo (evE Fs C a) σ p.H _
  refine sqE (gdS (F0 := F0) (φ0 := φ0) (D := D)) I.s hz ⟨I, d⟩ fun x m q v h1 via sq rx d1 => ?_
  have hxp : ∃ p0, x = .py p0 ∧ z = .er c p0 q.M := by
    revert h1
    cases x <;> intro h1 <;> first | exact ⟨_, rfl, (Option.some.inj h1).symm⟩ | cases h1
  obtain ⟨p0, rfl, rfl⟩ := hxp
  obtain ⟨F', mo, nw, f, x1, s1, r1⟩ := give1 (q := q) via I.s sq rx
  have rp : RepP F' q.H v p0 := by
    cases r1 with
    | py r => exact r
  refine ⟨(by show 1 ≤ 1000; decide), fun b hb => hsp b v _ _ _ upd_same fun dx hdx hne => ⟨rfl, dx, [(valK, v)], upd_same, ?_, ?_, ?_⟩⟩
  · rw [upd_ne hne, upd_same]
  · rw [upd_ne hne] at hdx
    exact hdx
  · rw [upd_ne hne] at hdx
    have eh : upd (del (upd (upd (upd q.H b (exo b (Z.ca c) none)) dx (exd dx [(valK, v)])) b (exo b (Z.ca c) (some dx))) b) dx (.xd [(valK, v)]) = upd q.H dx (.xd [(valK, v)]) := by
      funext y
      by_cases h1 : y = dx
      · rw [h1, upd_same, upd_same]
      · rw [upd_ne h1, upd_ne h1]
        by_cases h2 : y = b
        · rw [h2, del_same]
          exact hb.symm
        · rw [del_ne h2, upd_ne h2, upd_ne h1, upd_ne h2]
    rw [eh]
    obtain ⟨po, er⟩ := err_new (p := ⟨fz m q.ρ, q.M, F', q.φ, q.H⟩) (c := c) s1 rp hdx
    exact d _ dx (I.post (x1.post.trans po (fun _ h => h.elim) (fun _ h => h.elim))) er
theorem New.inb {σ : Sx} {p : Pt} {d : Ev.D} {v : V} {H' : Hp} (n : New Z p.F p.φ p.H d false v H') (I : Inb Z F0 φ0 σ p) : Rep Z p.F p.φ H' v d ∧ Inb Z F0 φ0 σ ⟨p.ρ, p.M, p.F, p.φ, H'⟩ ∧ Stay p.F p.φ p.H p.F p.φ H' := by
  obtain ⟨r, s, po⟩ := n.pt I.s
  exact ⟨r, ⟨s, I.po.trans po (fun _ h => h.elim) (fun _ h => h.elim)⟩, po.stayE I.s.g⟩
theorem s_for {t : T} {src : Src} {body : Ss} {tg iter : Expr} {bs : List Stmt} {pos : Pos} (xs : XSt X Z Γ Fs Eo rz) (hi : PI X tg iter (iS Z Eo (evSrc Fs C src))) (hg : PG X tg (gT Z t)) (hb : PSs X bs (tS Z Eo F0 φ0 (evSs Fs C body)))
    (hs : ∀ x, foldedSetIterable iter X.env x = pure x) : PS X (.For tg iter bs [] pos) (tS Z Eo F0 φ0 (evS Fs C (.for_ t src body))) := by
  refine PS.imp (ps_for xs.ps xs.ok.calm hi hg hb hs) fun D σ H q => ?_
  obtain ⟨p, rfl, I, z, hz, d⟩ := q
  unfold evS at hz
  refine sqI (gdS (F0 := F0) (φ0 := φ0) (D := D)) I.s hz ⟨I, d⟩ fun dd m q w xs F' h1 via sq hit hw hls mo x1 s1 hlF => ?_
  have hit' : items dd = some xs := hit
  have h1 : (ob (items dd) fun xs => forL (bindT t) (fun ρ M => evSs Fs C body ρ M) xs (fz m q.ρ) q.M) = some z := h1
  rw [hit'] at h1
  have h1 : forL (bindT t) (fun ρ M => evSs Fs C body ρ M) xs (fz m q.ρ) q.M = some z := h1
  have J0 : Inb Z F0 φ0 σ ⟨fz m q.ρ, q.M, F', q.φ, q.H⟩ := ⟨s1, I.post x1.post⟩
  have wk0 : WkAt Z F' q.φ q.H xs w := hw.kept (stay_grow mo) fun a _ vs h => h
  refine ⟨fun i m' σ H => ∃ pt : Pt, pt.H = H ∧ Inb Z F0 φ0 σ pt ∧ Stay F' q.φ q.H pt.F pt.φ pt.H ∧ i ≤ xs.length ∧ m' = xs.length - i ∧ forL (bindT t) (fun ρ M => evSs Fs C body ρ M) (xs.drop i) pt.ρ pt.M = some z, ⟨xs.length, ⟨⟨fz m q.ρ, q.M, F', q.φ, q.H⟩, rfl, J0, stay_grow fun _ h => h, Nat.zero_le _, rfl, h1⟩⟩, fun i m' σ' H hW => ?_⟩
  obtain ⟨pt, rfl, J, st, hle, rfl, hr⟩ := hW
  have stp : Stay p.F p.φ p.H pt.F pt.φ pt.H := (x1.post.stayE I.s.g).trans st
  have hw2 : WkAt Z pt.F pt.φ pt.H xs w := wk0.kept st fun a ha vs hv => st.frz a _ (hlF a ha vs hv) hv fun _ z => nomatch z
  by_cases hlt : i < xs.length
  · right
    have hx : xs[i]? = some xs[i] := List.getElem?_eq_getElem hlt
    rw [List.drop_eq_getElem_cons hlt] at hr
    generalize xs[i] = x at hr hx
    obtain ⟨hgo, hyl⟩ := hw2.item hx
    refine ⟨hgo, fun σ' H' => ∃ pt : Pt, pt.H = H' ∧ Inb Z F0 φ0 σ' pt ∧ Stay F' q.φ q.H pt.F pt.φ pt.H ∧ forL (bindT t) (fun ρ M => evSs Fs C body ρ M) (xs.drop (i + 1)) pt.ρ pt.M = some z, fun σ' H' ⟨pt', e, J', st', r'⟩ => ⟨xs.length - (i + 1), by omega, pt', e, J', st', hlt, rfl, r'⟩, fun v H1 hy => ?_⟩
    obtain ⟨rv, J1, st1⟩ := (hyl v H1 hy).inb J
    have hr : (ob (bindT t x pt.ρ) fun ρ1 => bz (evSs Fs C body ρ1 pt.M) fun f => (match f with
      | .nx ρ2 M2 => forL (bindT t) (fun ρ M => evSs Fs C body ρ M) (xs.drop (i + 1)) ρ2 M2
      | .ct ρ2 M2 => forL (bindT t) (fun ρ M => evSs Fs C body ρ M) (xs.drop (i + 1)) ρ2 M2
      | .br ρ2 M2 => some (.ok (.nx ρ2 M2))
      | .rt o => some (.ok (.rt o)))) = some z := hr
    obtain ⟨ρ1, hbd, hr⟩ := ob_some hr
    refine ⟨⟨pt.ρ, pt.M, pt.F, pt.φ, H1⟩, x, ρ1, rfl, J1.s, rv, hbd, fun σ2 l2 k2 sl2 => ?_⟩
    have J2 : Inb Z F0 φ0 σ2 ⟨ρ1, pt.M, pt.F, pt.φ, H1⟩ := ⟨⟨J1.s.g, sl2⟩, J1.po⟩
    have st2 := st.trans st1
    show tS Z Eo F0 φ0 (evSs Fs C body) _ σ2 H1
    cases e : evSs Fs C body ρ1 pt.M with
    | none =>
      rw [e] at hr
      cases hr
    | some y =>
      rw [e] at hr
      refine ⟨⟨ρ1, pt.M, pt.F, pt.φ, H1⟩, rfl, J2, y, e, ?_⟩
      cases y with
      | er c v M =>
        have : z = .er c v M := (Option.some.inj hr).symm
        subst this
        exact d
      | ok f =>
        cases f with
        | nx ρ2 M2 => exact fun σ3 q3 e1 e2 J3 st3 => ⟨q3, rfl, J3, st2.trans st3, by rw [e1, e2]; exact hr⟩
        | ct ρ2 M2 => exact fun σ3 q3 e1 e2 J3 st3 => ⟨q3, rfl, J3, st2.trans st3, by rw [e1, e2]; exact hr⟩
        | br ρ2 M2 =>
          have : z = .ok (.nx ρ2 M2) := (Option.some.inj hr).symm
          subst this
          exact fun σ3 q3 e1 e2 J3 st3 => d σ3 q3 e1 e2 J3 ((stp.trans st1).trans st3)
        | rt o =>
          have : z = .ok (.rt o) := (Option.some.inj hr).symm
          subst this
          exact d
  · left
    have hn : i = xs.length := by omega
    subst hn
    refine ⟨hw2.end, ?_⟩
    rw [List.drop_length] at hr
    have hr : some (Rz.ok (Fl.nx pt.ρ pt.M)) = some z := hr
    cases hr
    exact d σ' pt rfl rfl J stp
theorem s_whl {c : E} {body : Ss} {ec : Expr} {bs : List Stmt} {pos : Pos} (xs : XSt X Z Γ Fs Eo rz) (hc : PT X ec (tT Z Eo (evE Fs C c))) (hb : PSs X bs (tS Z Eo F0 φ0 (evSs Fs C body))) : PS X (.While ec bs [] pos) (tS Z Eo F0 φ0 (evS Fs C (.whl c body))) := by
  refine PS.imp (ps_while xs.ps hc hb) fun D σ H q => ?_
  obtain ⟨p, rfl, I, z, hz, d⟩ := q
  unfold evS at hz
  refine ⟨fun n σ H => ∃ pt : Pt, pt.H = H ∧ Inb Z F0 φ0 σ pt ∧ Stay p.F p.φ p.H pt.F pt.φ pt.H ∧ whlL (fun ρ M => evE Fs C c ρ M) (fun ρ M => evSs Fs C body ρ M) n pt.ρ pt.M = some z, ⟨FUEL, ⟨p, rfl, I, stay_grow fun _ h => h, hz⟩⟩, fun n σ' H hW => ?_⟩
  obtain ⟨pt, rfl, J, st, hr⟩ := hW
  cases n with
  | zero => cases hr
  | succ n =>
    have hr : bz (evE Fs C c pt.ρ pt.M) (fun x => ob (tru x.d) fun b => if b = true then bz (evSs Fs C body x.ρ x.M) (fun f => (match f with
        | .nx ρ2 M2 => whlL (fun ρ M => evE Fs C c ρ M) (fun ρ M => evSs Fs C body ρ M) n ρ2 M2
        | .ct ρ2 M2 => whlL (fun ρ M => evE Fs C c ρ M) (fun ρ M => evSs Fs C body ρ M) n ρ2 M2
        | .br ρ2 M2 => some (.ok (.nx ρ2 M2))
        | .rt o => some (.ok (.rt o))))
      else some (.ok (.nx x.ρ x.M))) = some z := hr
    refine sqT (k := fun x b => if b = true then bz (evSs Fs C body x.ρ x.M) (fun f => (match f with
        | .nx ρ2 M2 => whlL (fun ρ M => evE Fs C c ρ M) (fun ρ M => evSs Fs C body ρ M) n ρ2 M2
        | .ct ρ2 M2 => whlL (fun ρ M => evE Fs C c ρ M) (fun ρ M => evSs Fs C body ρ M) n ρ2 M2
        | .br ρ2 M2 => some (.ok (.nx ρ2 M2))
        | .rt o => some (.ok (.rt o))))
      else some (.ok (.nx x.ρ x.M))) (gdS (F0 := F0) (φ0 := φ0) (D := D)) J.s hr ⟨J, d.rebase st⟩ fun x m t q _ h1 via sq d1 => ?_
    have st1 : Stay p.F p.φ p.H q.F q.φ q.H := st.trans (J.stay via)
    cases t with
    | false =>
      rw [if_neg (by simp)] at h1
      have h1 : some (Rz.ok (Fl.nx q.ρ q.M)) = some z := h1
      cases h1
      exact d σ' q rfl rfl d1.1 st1
    | true =>
      rw [if_pos rfl] at h1
      refine ⟨fun σ2 H2 => ∃ pt : Pt, pt.H = H2 ∧ Inb Z F0 φ0 σ2 pt ∧ Stay p.F p.φ p.H pt.F pt.φ pt.H ∧ whlL (fun ρ M => evE Fs C c ρ M) (fun ρ M => evSs Fs C body ρ M) n pt.ρ pt.M = some z, fun σ2 H2 h => ⟨n, Nat.lt_succ_self n, h⟩, ?_⟩
      show tS Z Eo F0 φ0 (evSs Fs C body) _ σ' q.H
      have h1 : bz (evSs Fs C body q.ρ q.M) (fun f => (match f with
        | .nx ρ2 M2 => whlL (fun ρ M => evE Fs C c ρ M) (fun ρ M => evSs Fs C body ρ M) n ρ2 M2
        | .ct ρ2 M2 => whlL (fun ρ M => evE Fs C c ρ M) (fun ρ M => evSs Fs C body ρ M) n ρ2 M2
        | .br ρ2 M2 => some (.ok (.nx ρ2 M2))
        | .rt o => some (.ok (.rt o)))) = some z := h1
      cases e : evSs Fs C body q.ρ q.M with
      | none =>
        rw [e] at h1
        cases h1
      | some y =>
        rw [e] at h1
        refine ⟨q, rfl, d1.1, y, e, ?_⟩
        cases y with
        | er c v M =>
          have : z = .er c v M := (Option.some.inj h1).symm
          subst this
          exact d
        | ok f =>
          cases f with
          | nx ρ2 M2 => exact fun σ3 q3 e1 e2 J3 st3 => ⟨q3, rfl, J3, st1.trans st3, by rw [e1, e2]; exact h1⟩
          | ct ρ2 M2 => exact fun σ3 q3 e1 e2 J3 st3 => ⟨q3, rfl, J3, st1.trans st3, by rw [e1, e2]; exact h1⟩
          | br ρ2 M2 =>
            have : z = .ok (.nx ρ2 M2) := (Option.some.inj h1).symm
            subst this
            exact fun σ3 q3 e1 e2 J3 st3 => d σ3 q3 e1 e2 J3 (st1.trans st3)
          | rt o =>
            have : z = .ok (.rt o) := (Option.some.inj h1).symm
            subst this
            exact d
end
end Ev

/-! A caught error is kept. -/
namespace Ev
open L2 PyProof.Rows PySem PySem.Spec
section
variable {X : Cx} {pins : List (Addr × Obj)} {σ : Sx} {H : Hp} {s : Shared}
/-- an object that stands, new since the entry, is told of from now on -/
theorem inv_track {a : Addr} {o : HO} (I : Inv X pins σ H s) (hn : H a = none) (n0 : X.s_0.heap.get? a = none) (nL : a ≠ X.env.locals) (nC : ∀ x c, X.env.cells.lookup x = some c → c ≠ a) (nP : ∀ p ∈ X.pn ++ pins, p.1 ≠ a)
    (new : ObjOk X.prog X.w (upd H a o) s.heap a o) : Inv X pins σ (upd H a o) s := by
  refine ⟨I.ok, I.os, I.bare, ⟨I.base.keep, I.base.slot, fun b u e n hx => ?_, I.base.there, fun b xs e => ?_, fun b o' u e => ?_, fun b ps e => ?_⟩, I.loc, I.cell, ?_, fun x c e => ?_, fun p hp => ?_, fun b u e => ?_, I.len⟩
  · rw [upd_ne fun z => by rw [z, n0] at e; cases e]
    exact I.base.free b u e n hx
  · have q := I.base.tups b xs e
    rw [upd_ne (ne_of_none q hn)]
    exact q
  · have q := I.base.frzs b o' u e
    rw [upd_ne (ne_of_none q hn)]
    exact q
  · obtain ⟨m, q⟩ := I.base.tbls b ps e
    exact ⟨m, by rw [upd_ne (ne_of_none q hn)]; exact q⟩
  · rw [upd_ne nL.symm]
    exact I.free
  · rw [upd_ne (nC x c e)]
    exact I.freeC x c e
  · obtain ⟨p1, p2, p3⟩ := I.pin p hp
    exact ⟨p1, by rw [upd_ne (nP p hp)]; exact p2, p3⟩
  · by_cases hb : b = a
    · subst hb
      rw [upd_same] at e
      cases e
      exact new
    · rw [upd_ne hb] at e
      exact (I.hok b u e).stay (fun c v _ q => q) (fun c q => by rw [upd_ne (ne_of_none q hn)]; exact q) fun c xs q => by rw [upd_ne (ne_of_none q hn)]; exact q
theorem exV_ok {P : Program} {w : World} {h : Heap} {a d : Addr} {cls : Value} {oe : Obj} {vs : Array Value} (e : h.get? a = some oe) (z : Zc cls (some d) oe) (k : oe.data = .fields vs) : ObjOk P w H h a (ExV cls d a) :=
  ⟨⟨oe, vs, e, z, k⟩, ⟨oe, e⟩, fun _ _ ⟨o, v, q, r⟩ k => ⟨o, v, k o q, r⟩⟩
end
/-- what is wished of an error that is caught and kept: slot i is the clause's name -/
def wTr (K : PySem.W.Frag) (c : Value) (i : Nat) (ts : Addr → TS) (D : Ends) : WX := fun cls d σ H =>
  PySem.W.exmOne K cls c = some true ∧ ∃ da, d = some da ∧ ∀ a, H a = none → ts a { nx := fun σ' H' => H' a = none → D.nx (σ'.set i none) (upd H' a (ExV cls da a)), rt := fun _ _ => False, bk := fun _ _ => False, ct := fun _ _ => False } (σ.set i (some (.ref a))) H
section
variable {X : Cx} {x n : Str} {c : Value} {i : Nat} {body suite : List Stmt} {b₀ : Stmt} {np pos pos' : Pos} {tb : WX → TS} {ts : Addr → TS}
theorem ps_try_trk (stk : X.stack = X.env :: X.outer) (loc : X.env.frame = some X.env.locals) (hex : X.ex = []) (nd : X.N.Nodup) (at_ : X.N[i]? = some n) (kd : X.env.kindOf n = some .local) (nm : Names X x c)
    (hb : ∀ (W : WX) (pn : List (Addr × Obj)) (xe : Value → Shared → Prop), Takes (X.tr pn xe) W → PassesOwn (model X.prog X.w) X.A X.env xe → PSs (X.tr pn xe) body (tb W))
    (hsu : ∀ (a : Addr) (pn : List (Addr × Obj)), PSs (X.suite a pn) (b₀ :: suite) (ts a)) :
    PS X (.Try body [.ExceptHandler (some (.Name x np)) (some n) (b₀ :: suite) pos'] [] [] pos) (fun D σ H => tb (wTr X.K c i ts D) D σ H) := by
  refine ⟨fun pins s σ H D J0 wd => ?_⟩
  have xok := J0.ok
  have frm : X.A.frames = some (X.env :: X.outer) := by rw [xok.frames, stk]
  have here : Loc X.env.scope n := .inl kd
  refine wpAny_Try_except ?_
  refine wpAny_mono ((hb (wTr X.K c i ts D) (X.pn ++ pins) (fun e s₁ => wpAny (model X.prog X.w) X.A (noteFrame e X.env) (fun _ s₂ => wpAny (model X.prog X.w) X.A (setFlight e none) (fun _ s₃ =>
    wpAny (model X.prog X.w) X.A (handleBy e X.env [.ExceptHandler (some (.Name x np)) (some n) (b₀ :: suite) pos']) (SP X pins D) X.xe s₃) X.xe s₂) X.xe s₁) (fun u s' xx => ?_) PassesOwn.looking).run [] s σ H D (J0.toTry _) wd) (fun f s1 hsp => ?_) (fun e s1 he => he)
  · obtain ⟨a, B, sI, ps1, σ', H', cls, d, rfl, J1, gr, up, sky, na, os, ag, one, da, rfl, yes⟩ := xx
    have J : Inv X pins σ' H' sI := J1.ofTry xok
    have sky2 : Sky B (X.env :: X.outer) a (Zc cls (some da)) X.env.locals s'.heap := by rw [← stk]; exact sky
    show wpAny _ X.A (noteFrame (.ref a) X.env) _ _ _
    refine Sky.land Zc.steady frm loc sky2 fun h3 fl3 up3 => ?_
    have J3 : Inv X pins σ' H' { s' with heap := h3 } := J.landed gr fl3.1 (up.trans up3) os ag
    obtain ⟨oe3, vs3, he3, hz3, hd3⟩ := fl3.there
    have nfr : a ∉ frs (X.env :: X.outer) := fun hm => by
      obtain ⟨_, o', e', hnf⟩ := fl3.2.2.1.mem hm
      rw [he3] at e'
      cases e'
      exact hnf _ hd3
    have nL : a ≠ X.env.locals := fun z => nfr (List.mem_filterMap.mpr ⟨X.env, List.mem_cons_self, by rw [loc, z]⟩)
    have nF : a ∉ X.fs := fun hm => by
      obtain ⟨e, he, q⟩ := List.mem_filterMap.mp hm
      exact nfr (List.mem_filterMap.mpr ⟨e, List.mem_cons_of_mem _ he, q⟩)
    have nI : sI.heap.get? a = none := by
      cases e : sI.heap.get? a with
      | none => rfl
      | some o =>
        have z := gr a o e (by rw [stk]; exact nfr)
        rw [fl3.2.1] at z
        cases z
    have n0 : X.s_0.heap.get? a = none := by
      cases e : X.s_0.heap.get? a with
      | none => rfl
      | some o =>
        obtain ⟨o', z⟩ := J.base.there a o e (by rw [hex]; exact fun z => nomatch z)
        rw [nI] at z
        cases z
    have nP : ∀ p ∈ X.pn ++ pins, p.1 ≠ a := fun p hp z => by
      have e := (J.pin p hp).1
      rw [z, nI] at e
      cases e
    have S3 := J3.suite he3 hd3 na nL nF
    refine wpAny_handleBy_cons (codeAny_handlers_test ?_) (by intro q; cases q)
    have LT : PySem.W.Looks (model X.prog X.w) h3 (typeOf (.ref a)) cls := fun A Q E t k q => wpAny_typeOf_ref (k _ _ he3) (by rw [hz3.1]; exact q)
    have LM := PySem.W.exm_one (M := model X.prog X.w) (J3.kIn) LT one
    have test : ∀ {Q : Value → Shared → Prop} {E : Value → Shared → Prop}, Q c { s' with heap := h3 } → wpAny (model X.prog X.w) (X.A.mark (some (.ref a))) (eval (.Name x np) X.env) Q E { s' with heap := h3 } := fun {Q E} q => by
      obtain ⟨gg, nd, mm | ⟨mm, vv, nn⟩⟩ := nm
      · exact ld_glob (X := X.suite a ((a, oe3) :: (X.pn ++ pins))) S3 gg mm q nd
      · exact ld_blt (X := X.suite a ((a, oe3) :: (X.pn ++ pins))) S3 gg mm vv q nn nd
    refine test (LM.here ?_)
    refine codeAny_handlers_suite_as ?_
    refine HandSPX.lands_againZ fl3 fun h4 fl4 up4 => ?_
    have J4 : Inv X pins σ' H' { s' with heap := h4 } := J.landed gr fl4.1 ((up.trans up3).trans up4) os ag
    obtain ⟨oe4, vs4, he4, hz4, hd4⟩ := fl4.there
    have S4 := J4.suite he4 hd4 na nL nF
    refine store_ok (X := X.suite a ((a, oe4) :: (X.pn ++ pins))) (v := .ref a) S4 nd at_ here rfl (fun s5 S5 => ?_) (.inr kd)
    refine wpAny_mono ((hsu a ((a, oe4) :: (X.pn ++ pins))).run [] s5 _ H' _ S5 (yes a na)) (fun f s6 hsp => ?_) (fun _ _ z => False.elim z)
    cases f with
    | next =>
      obtain ⟨σ6, H6, S6, q6⟩ := hsp
      have K6 : Inv X ((a, oe4) :: pins) σ6 H6 s6 := ⟨xok, S6.os, S6.bare, S6.base, S6.loc, S6.cell, S6.free, S6.freeC, fun p hp => S6.pin p (by
        have hp : p ∈ X.pn ++ (a, oe4) :: pins := hp
        show p ∈ ((a, oe4) :: (X.pn ++ pins)) ++ []
        rw [List.append_nil]
        rcases List.mem_append.mp hp with h | h
        · exact List.mem_cons_of_mem _ (List.mem_append_left _ h)
        · rcases List.mem_cons.mp h with h | h
          · rw [h]; exact List.mem_cons_self
          · exact List.mem_cons_of_mem _ (List.mem_append_right _ h)), S6.hok, S6.len⟩
      refine gone_ok K6 nd at_ kd fun s7 J7 => ?_
      obtain ⟨e7, m7, _, _, c7⟩ := J7.pin (a, oe4) (List.mem_append_right _ List.mem_cons_self)
      have J8 : Inv X pins (σ6.set i none) H6 s7 := ⟨xok, J7.os, J7.bare, J7.base, J7.loc, J7.cell, J7.free, J7.freeC, fun p hp => J7.pin p (by
        rcases List.mem_append.mp hp with h | h
        · exact List.mem_append_left _ h
        · exact List.mem_append_right _ (List.mem_cons_of_mem _ h)), J7.hok, J7.len⟩
      exact ⟨_, _, inv_track J8 m7 n0 nL (fun y cc e z => by
        obtain ⟨w', o, ho, hd⟩ := J8.cell y cc e
        rw [z, e7] at ho
        cases ho
        exact c7 _ hd) nP (exV_ok e7 hz4 hd4), q6 m7⟩
    | brk =>
      obtain ⟨_, _, _, z⟩ := hsp
      exact z.elim
    | cont =>
      obtain ⟨_, _, _, z⟩ := hsp
      exact z.elim
    | ret u =>
      obtain ⟨_, _, _, _, _, z⟩ := hsp
      exact z.elim
  · cases f with
    | next =>
      obtain ⟨σ', H', J', q⟩ := hsp
      exact wpAny_execs_nil ⟨σ', H', J'.ofTry xok, q⟩
    | brk =>
      obtain ⟨σ', H', J', q⟩ := hsp
      exact ⟨σ', H', J'.ofTry xok, q⟩
    | cont =>
      obtain ⟨σ', H', J', q⟩ := hsp
      exact ⟨σ', H', J'.ofTry xok, q⟩
    | ret u =>
      obtain ⟨v, σ', H', J', r, q⟩ := hsp
      exact ⟨v, σ', H', J'.ofTry xok, r, q⟩
end
end Ev

/-! A lambda is made and handed to the def that calls it. -/
namespace Ev
open L2 PyProof.Rows PySem PySem.Spec
section
variable {X : Cx} {pins : List (Addr × Obj)} {σ : Sx} {H HZ : Hp} {s s1 : Shared}
/-- as the kit's lam_make2, and: nothing that is told of gets lost -/
theorem lam_make3 {T : List (Addr × Str)} {c P : Addr} {params : Arguments} {body : Expr} {scope : Scope} {pos : Pos} {E : Value → Shared → Prop} {Q : Value → Shared → Prop} (J : Inv X pins σ H s) (tabB : LamX.TabB X.base X.mg c P) (hcode : X.env.code = .ref c)
    (mT : (P, X.env.qual ++ "<lambda>") ∈ T) (uT : ∀ p ∈ T, p.1 = P → p.2 = X.env.qual ++ "<lambda>") (tabs : LamX.Tabs T H) (dfl : defaultsOf params X.env = ([], [])) (fre : ∀ y ∈ scope.names, y.2 = .free → ∃ c, X.env.cells.lookup y.1 = some c)
    (go : ∀ (f c' : Addr) (pm ctv : Value) (H1 : Hp) (s' : Shared), s.heap.objs.size ≤ f → Inv X pins σ H1 s' → LamX.ExtN H H1 → (∀ b, H1 b = none → H b = none) → LamX.Tabs T H1 →
      s'.heap.get? f = some (PySem.W.kla_obj "<lambda>" (X.env.qual ++ "<lambda>") params body scope (cloFrom X.env.cells scope.names []) pm c' ctv) → H1 f = none → f ∉ frs X.stack → H1 c' = some (LamX.CodeO c' (X.env.qual ++ "<lambda>")) → Q (.ref f) s') :
    wpAny (model X.prog X.w) X.A (eval (.Lambda params body scope pos) X.env) Q E s := by
  obtain ⟨ps, eP, trip, amg⟩ := tabs _ mT
  refine PySem.W.kla_eval dfl ?_
  have bltP : s.heap.BuiltinsAt X.mg P := tabB.bm.keeps J.bk
  have rowP : s.heap.get? P = some { cls := .none, data := .fields ps } := J.hok P _ eP
  have off : ∀ f, s.heap.objs.size ≤ f → f ∉ frs X.stack := fun f hf z => by
    rcases List.mem_cons.mp (J.stkSub _ z) with e | e
    · have lt := J.lt
      rw [← e] at lt
      exact Nat.not_le_of_lt lt hf
    · exact J.nofs hf e
  cases hc : codeAmong pos ps.toList with
  | none =>
    refine PySem.W.kla_makeFunction (mg := X.mg) (c := c) (P := P) (ps := ps) (closure_ok fre) J.ok.glob (J.mod.glob.keeps J.bk) hcode (tabB.code.keeps J.bk) rowP trip hc tabB.gP bltP fun c' ctv h' tk hx hge hlt hrec htb => ?_
    obtain ⟨c2, oc, vs, t, e2, gc, dc, vc⟩ := hrec
    cases e2
    have szl : s.heap.objs.size ≤ h'.objs.size := Nat.le_trans hge (Nat.le_of_lt hlt)
    have newC : H c' = none := J.hok.fresh hge
    have J1 := LamX.inv_table (t' := tk) (more := #[rawInt pos.line, rawInt pos.col, .ref c']) (h' := h'.push (PySem.W.kla_obj "<lambda>" (X.env.qual ++ "<lambda>") params body scope (cloFrom X.env.cells scope.names []) ((X.mg "__name__").getD .none) c' ctv)) J eP
      (fun b o nb e => Heap.get?_push_of_some _ (hx b o nb e)) (Heap.get?_push_of_some _ htb) hge ⟨oc, vs, t, Heap.get?_push_of_some _ gc, dc, vc⟩
    have ext : LamX.ExtN H (upd (upd H P (.tbl (ps ++ #[rawInt pos.line, rawInt pos.col, .ref c']))) c' (LamX.CodeO c' (X.env.qual ++ "<lambda>"))) := fun b o e nt => by
      rw [upd_ne (ne_of_none e newC), upd_ne (fun z => nt ps (Option.some.inj (e.symm.trans (by rw [z]; exact eP))))]
      exact e
    have eL : (ps ++ #[rawInt pos.line, rawInt pos.col, .ref c']).toList = ps.toList ++ [rawInt pos.line, rawInt pos.col, .ref c'] := by simp
    refine go h'.objs.size c' ((X.mg "__name__").getD .none) ctv _ _ szl J1 ext (fun b e => ?_) (fun p hp => ?_) (Heap.get?_push_size _ rfl) ?_ (off _ szl) upd_same
    · by_cases q1 : b = c'
      · rw [q1]
        exact newC
      · rw [upd_ne q1] at e
        by_cases q2 : b = P
        · rw [q2, upd_same] at e
          cases e
        · rw [upd_ne q2] at e
          exact e
    · by_cases hb : p.1 = P
      · rw [uT p hp hb, hb]
        refine ⟨_, by rw [upd_ne (ne_of_none eP newC), upd_same], by rw [eL]; exact PySem.TriplesOk_snoc _ _ _ _ trip, fun p' cv hcv => ?_⟩
        rw [eL] at hcv
        rcases LamX.among_app _ trip hcv with z | z
        · obtain ⟨c0, q1, q2⟩ := amg p' cv z
          exact ⟨c0, q1, ext _ _ q2 LamX.codeO_ne⟩
        · exact ⟨c', z, upd_same⟩
      · obtain ⟨qs, a1, a2, a3⟩ := tabs p hp
        refine ⟨qs, by rw [upd_ne (ne_of_none a1 newC), upd_ne hb]; exact a1, a2, fun p' cv hcv => ?_⟩
        obtain ⟨c0, q1, q2⟩ := a3 p' cv hcv
        exact ⟨c0, q1, ext _ _ q2 LamX.codeO_ne⟩
    · have n1 : h'.objs.size ≠ c' := Nat.ne_of_gt hlt
      have n2 : h'.objs.size ≠ P := Nat.ne_of_gt (Nat.lt_of_lt_of_le (Heap.lt_size rowP) szl)
      rw [upd_ne n1, upd_ne n2]
      exact J.hok.fresh szl
  | some cv =>
    obtain ⟨c', e, hco⟩ := amg pos cv hc
    subst e
    refine PySem.W.kla_makeFunctionHit (mg := X.mg) (c := c) (P := P) (ps := ps) (closure_ok fre) J.ok.glob (J.mod.glob.keeps J.bk) hcode (tabB.code.keeps J.bk) rowP trip hc bltP fun ctv h' tk hx szl => ?_
    have J1 : Inv X pins σ H { s with heap := h'.push (PySem.W.kla_obj "<lambda>" (X.env.qual ++ "<lambda>") params body scope (cloFrom X.env.cells scope.names []) ((X.mg "__name__").getD .none) c' ctv), toks := tk } := J.kept fun b o e => Heap.get?_push_of_some _ (hx b o e)
    exact go h'.objs.size c' ((X.mg "__name__").getD .none) ctv H _ szl J1 (LamX.ExtN.refl H) (fun _ e => e) tabs (Heap.get?_push_size _ rfl) (J.hok.fresh szl) (off _ szl) hco
/-- x(), in the def that got the lambda: the context around stays calm and without guards -/
theorem pe_act2 {CXg : CXT} {Eg : XK} {Ng : List Str} {qg : Str} {sg : Scope} {g f c' : Addr} {cdg pm ctv : Value} {params : Arguments} {body : Expr} {scope : Scope} {k i : Nat} {a : Str} {pn : List (Addr × Obj)} {xe : Value → Shared → Prop} {W : WX} {E : XK} {tb : TE} {p1 p2 : Pos}
    (J : Inv X pins σ H s) (L : LamX.LamS X.env.scope scope) (gf : s.heap.get? f = some (PySem.W.kla_obj "<lambda>" (X.env.qual ++ "<lambda>") params body scope (cloFrom X.env.cells scope.names []) pm c' ctv)) (nf : H f = none) (ff : f ∉ frs X.stack)
    (bnd : bindArgs (PySem.W.kla_fn "<lambda>" (X.env.qual ++ "<lambda>") params body scope (cloFrom X.env.cells scope.names []) pm (.ref c') ctv) ⟨[], []⟩ = pure [])
    (tk : Takes ((cxOf CXg X.prog X.w X.K X.mg X.base Ng qg sg g cdg X.A X.stack s H Eg).tr pn xe) W) (hr : Room (k + 1) (X.A.deeper (envOfC qg sg s.heap.objs.size g cdg)))
    (wb : ∀ (outer : List Env) (t : Shared) (H : Hp), Room k ((X.A.deeper (envOfC qg sg s.heap.objs.size g cdg)).deeper (LamX.lamEnv X scope t.heap.objs.size f c')) → PE (LamX.lamCx X (X.A.deeper (envOfC qg sg s.heap.objs.size g cdg)) outer t H E scope f c') body tb)
    (at_ : Ng[i]? = some a) (vis : Vis sg a) (nd : (a == ("__debug__" : Str)) = false) (ncd : (a == ("__classdict__" : Str)) = false) :
    PE ((cxOf CXg X.prog X.w X.K X.mg X.base Ng qg sg g cdg X.A X.stack s H Eg).tr pn xe) (.Call (.Name a p1) [] [] p2)
      (fun σZ HZ Q => σZ[i]? = some (some (.ref f)) ∧ (∀ cls d H', E cls d H' → W cls d σZ H') ∧ HZ c' = some (LamX.CodeO c' (X.env.qual ++ "<lambda>")) ∧ tb σ HZ Q) := by
  refine ⟨fun pinsZ sZ σZ HZ Q IZ h => ?_⟩
  obtain ⟨slot, hW, code, want⟩ := h
  refine wpAny_Call_Name_kw (thn ((pe_var (pos := p1) (i := i) at_ vis nd ncd).run pinsZ sZ σZ HZ (fun v H1 => v = .ref f ∧ H1 = HZ) IZ ⟨.ref f, slot, rfl, rfl⟩) fun u t1 ⟨v, H1, I1, r1, q1⟩ => ?_)
  obtain ⟨rfl, rfl⟩ := q1
  cases r1
  have of1 : t1.heap.get? f = some (PySem.W.kla_obj "<lambda>" (X.env.qual ++ "<lambda>") params body scope (cloFrom X.env.cells scope.names []) pm c' ctv) := I1.base.keep f _ gf nf ff (fun z => nomatch (show f ∈ ([] : List Addr) from z))
  refine PySem.W.callWith_F0 ⟨_, _, _, _, of1⟩ ?_
  have un : Un (frs X.stack) [] H H1 s.heap t1.heap := I1.base
  obtain ⟨⟨oc, vs, t, oc1, dc, vc⟩, _, _⟩ := I1.hok c' _ code
  have rc : codeAny (model X.prog X.w) (X.A.deeper (envOfC qg sg s.heap.objs.size g cdg)) (.call (.ref f) ⟨[], []⟩) (CR (L2.CX X.prog X.w) (envOfC qg sg s.heap.objs.size g cdg :: X.stack) X.prog X.w H1 t1 Q E) t1 := by
    refine PySem.W.kla_callFunE hr.depth of1 rfl L.co L.gen rfl ⟨c', oc, vs, t, rfl, oc1, dc, vc⟩ ?_
    rw [bnd]
    refine wpAny_pure (wpAny_newFunctionEnv (fun y hy => (L.own y hy).2) (fun y hy => absurd hy (by simp)) (fun h₁ hns hsb => ⟨I1.nolimit.fresh _ hsb, ?_⟩) L.kind)
    show codeAny _ _ (.expr body (LamX.lamEnv X scope t1.heap.objs.size f c')) _ _
    have kp : ∀ b o, t1.heap.get? b = some o → h₁.get? b = some o := fun b o e => hsb.extBut b o (Nat.ne_of_lt (Heap.lt_size e)) (Heap.get?_push_of_some _ e)
    have J2 : Inv (LamX.lamCx X (X.A.deeper (envOfC qg sg s.heap.objs.size g cdg)) (envOfC qg sg s.heap.objs.size g cdg :: X.stack) t1 H1 E scope f c') [] σ H1 { t1 with heap := h₁, toks := t1.toks + ([] : List (Str × Value)).length } :=
      LamX.lam_start2 J L I1.env0 hr.hd un hns kp
    refine PySem.W.kla_codeExpr (wpAny_mono ((wb _ t1 H1 (hr.deeper _)).run [] _ _ H1 Q J2 want) (fun v s' hq => ?_) fun e s' hq => hq)
    obtain ⟨w', H', J', rv, q⟩ := hq
    exact ⟨w', H', J'.os, J'.bare, J'.base, J'.hok, rv, q⟩
  refine wpAny_call (codeAny_mono rc fun r s' hq => ?_)
  cases r with
  | error e => exact tk e s' (XE.of_call I1 hW hq)
  | ok fl =>
    cases fl with
    | ret u => exact I1.after hq
    | next => exact False.elim hq
    | brk => exact False.elim hq
    | cont => exact False.elim hq
end
end Ev

/-! The def that hears: its text, what it makes of a lambda. -/
namespace Ev
open L2 PyProof.Rows PySem PySem.Spec
theorem heSc_ok : FnScope heN ["call"] heSc := C8.fnScope_by (by decide)
/-- the wishes behind what is called -/
def heQ (Q : VK) : VK := fun v H' => ∀ t, H' t = none → Q (.ref t) (upd H' t (.tup [.non, v]))
def heE (K : PySem.W.Frag) (CS : Addr) (Q : VK) : XK := fun cls d H' => PySem.W.exmOne K cls (.ref CS) = some true ∧ ∃ da, d = some da ∧ ∀ a, H' a = none → ∀ t, upd H' a (ExV cls da a) t = none → Q (.ref t) (upd (upd H' a (ExV cls da a)) t (.tup [.ref a, .non]))
section
variable {X : Cx}
theorem he_body {g CS f c' : Addr} {cdg : Value} {s : Shared} {H : Hp} {Q : VK} {Eg : XK} {q : Nat → Pos} {qn : Str} {tl : Hp → VK → Prop} (mW : X.mg "WashError" = some (.ref CS)) (hq : (q 1).line = (q 0).line)
    (act : ∀ (W : WX) (pn : List (Addr × Obj)) (xe : Value → Shared → Prop) (p1 p2 : Pos), Takes ((cxOf (L2.CX X.prog X.w) X.prog X.w X.K X.mg X.base heN "_law_heard" heSc g cdg X.A X.stack s H Eg).tr pn xe) W →
      PE ((cxOf (L2.CX X.prog X.w) X.prog X.w X.K X.mg X.base heN "_law_heard" heSc g cdg X.A X.stack s H Eg).tr pn xe) (.Call (.Name "call" p1) [] [] p2) (fun σZ HZ Q' => σZ[0]? = some (some (.ref f)) ∧ (∀ cls d H', heE X.K CS Q cls d H' → W cls d σZ H') ∧ HZ c' = some (LamX.CodeO c' qn) ∧ tl HZ Q'))
    (mono : ∀ (H : Hp) (Q Q' : VK), (∀ v H, Q v H → Q' v H) → tl H Q → tl H Q') (hc : H c' = some (LamX.CodeO c' qn)) (h : ∀ p, H p = none → tl (upd H p (.tup [.non, .non])) (heQ Q)) :
    ∃ t, PSs (cxOf (L2.CX X.prog X.w) X.prog X.w X.K X.mg X.base heN "_law_heard" heSc g cdg X.A X.stack s H Eg) (heBody q) t ∧ t { nx := fun _ H' => Q .non H', rt := Q } (L2.start heN [.ref f]) H := by
  generalize eY : cxOf (L2.CX X.prog X.w) X.prog X.w X.K X.mg X.base heN "_law_heard" heSc g cdg X.A X.stack s H Eg = Y at act ⊢
  have nd : Y.N.Nodup := by rw [← eY]; show heN.Nodup; decide
  have n0 : Y.N[0]? = some ("call" : Str) := by rw [← eY]; rfl
  have n1 : Y.N[1]? = some ("caught" : Str) := by rw [← eY]; rfl
  have n2 : Y.N[2]? = some ("back" : Str) := by rw [← eY]; rfl
  have n3 : Y.N[3]? = some ("error" : Str) := by rw [← eY]; rfl
  have l1 : Y.env.scope.names.lookup ("caught" : Str) = some .local := by rw [← eY]; rfl
  have l2 : Y.env.scope.names.lookup ("back" : Str) = some .local := by rw [← eY]; rfl
  have l3 : Y.env.scope.names.lookup ("error" : Str) = some .local := by rw [← eY]; rfl
  have cm : Y.calm = true := by rw [← eY]; rfl
  have fnY : ∀ x, Y.fn x = true := by rw [← eY]; exact fun _ => rfl
  have f1 : Y.fn "caught" = true ∨ Y.env.scope.names.lookup ("caught" : Str) = some .local := .inl (fnY _)
  have f2 : Y.fn "back" = true ∨ Y.env.scope.names.lookup ("back" : Str) = some .local := .inl (fnY _)
  have k1 : Loc Y.env.scope "caught" := .inl l1
  have k2 : Loc Y.env.scope "back" := .inl l2
  have gW : Gl Y "WashError" := by rw [← eY]; rfl
  have mY : Y.mg "WashError" = some (.ref CS) := by rw [← eY]; exact mW
  have st : Y.stack = Y.env :: Y.outer := by rw [← eY]; rfl
  have fr : Y.env.frame = some Y.env.locals := by rw [← eY]; rfl
  have ex : Y.ex = [] := by rw [← eY]; rfl
  have k3 : Y.env.kindOf "error" = some .local := by rw [← eY]; rfl
  have r1 : PS Y (.Assign [.Tuple [.Name "caught" (q 0), .Name "back" (q 1)] 0 (q 2)] (.Tuple [.Constant .none 0 (q 3), .Constant .none 0 (q 4)] 0 (q 5)) (q 6)) (tAsg (tTup (tCons (tC .non) (tCons (tC .non) tNil))) (gTup Y.K 2 (gCons (gName 1) (gCons (gName 2) gNil)))) := by
    refine ps_asg (pe_tup (pa_cons pe_non (pa_cons pe_non pa_nil))) (pg_tup cm (pgs_cons (pg_name nd n1 k1 f1) (pgs_cons (pg_name nd n2 k2 f2) pgs_nil))) (by rfl) ?_
    rw [← eY]
    have e : ∀ (sc : Scope) (l : Addr), sc = heSc → (envOfC "_law_heard" sc l g cdg).kindOf "caught" = some .local ∧ (envOfC "_law_heard" sc l g cdg).kindOf "back" = some .local := fun sc l h => by
      rw [h]
      exact ⟨rfl, rfl⟩
    obtain ⟨e1, e2⟩ := e heSc s.heap.objs.size rfl
    have e3 : (envOfC "_law_heard" heSc s.heap.objs.size g cdg).blockKind = .function := rfl
    show swappedStores _ _ (envOfC "_law_heard" heSc s.heap.objs.size g cdg) = _
    generalize envOfC "_law_heard" heSc s.heap.objs.size g cdg = env at e1 e2 e3
    simp [swappedStores, e1, e2, e3, List.filterMap, hq, Expr.pos]
    exact fun _ h => absurd (show (true : Bool) = false from h rfl) (by decide)
  have r3 : PS Y (.Return (some (.Tuple [.Name "caught" (q 17), .Name "back" (q 18)] 0 (q 19))) (q 20)) (tRet (tTup (tCons (tVar 1) (tCons (tVar 2) tNil)))) := by
    refine ps_ret (pe_tup (pa_cons (pe_var n1 (.inl l1)) (pa_cons (pe_var n2 (.inl l2)) pa_nil)))
  have r2 : PS Y (.Try [.Assign [.Name "back" (q 7)] (.Call (.Name "call" (q 8)) [] [] (q 9)) (q 10)] [.ExceptHandler (some (.Name "WashError" (q 11))) (some "error") [.Assign [.Name "caught" (q 12)] (.Name "error" (q 13)) (q 14)] (q 15)] [] [] (q 16))
      (fun D σ H => (fun (W : WX) => tAsg (fun σZ HZ Q' => σZ[0]? = some (some (.ref f)) ∧ (∀ cls d H', heE X.K CS Q cls d H' → W cls d σZ H') ∧ HZ c' = some (LamX.CodeO c' qn) ∧ tl HZ Q') (gName 2)) (wTr Y.K (.ref CS) 3 (fun _ => tAsg (tVar 3) (gName 1)) D) D σ H) := by
    refine ps_try_trk (tb := fun (W : WX) => tAsg (fun σZ HZ Q' => σZ[0]? = some (some (.ref f)) ∧ (∀ cls d H', heE X.K CS Q cls d H' → W cls d σZ H') ∧ HZ c' = some (LamX.CodeO c' qn) ∧ tl HZ Q') (gName 2)) (ts := fun _ => tAsg (tVar 3) (gName 1)) st fr ex nd n3 k3 ⟨gW, by decide, .inl mY⟩ (fun W pn xe tk _ => ?_) (fun a pn => ?_)
    · refine pss_one (ps_set (X := Y.tr pn xe) nd n2 k2 (act W pn xe _ _ tk) (by rfl) f2)
    · exact pss_one (ps_set (X := Y.suite a pn) nd n1 k1 (pe_var (X := Y.suite a pn) n3 (.inl l3)) (by rfl) f1)
  have eK : Y.K = X.K := by rw [← eY]; rfl
  refine ⟨_, pss_cons r1 (pss_cons r2 (pss_one r3)), ?_⟩
  refine ⟨(by show 2 ≤ sizeLine; rw [sizeLine_eq]; omega), fun p hp => ⟨p, [.non, .non], rfl, .inl (.of upd_same), rfl, .non, [.non], rfl, .non, [], rfl, rfl, rfl, fun cls d H' hE => ?_, ?_, ?_⟩⟩
  · obtain ⟨e1, da, e2, go⟩ := hE
    refine ⟨by rw [eK]; exact e1, da, e2, fun a na => ⟨.ref a, rfl, fun na2 => ?_⟩⟩
    exact ⟨.ref a, rfl, .non, rfl, (by show 2 ≤ sizeLine; rw [sizeLine_eq]; omega), fun t ht => go a na t ht⟩
  · rw [upd_ne (ne_of_none hc hp)]
    exact hc
  · refine mono _ _ _ (fun v H' w => ?_) (h p hp)
    exact ⟨.non, rfl, v, rfl, (by show 2 ≤ sizeLine; rw [sizeLine_eq]; omega), w⟩
/-- _law_heard(lambda: body) -/
theorem pe_heard {Z : Zt} {T : List (Addr × Str)} {c P : Addr} {k : Nat} {params : Arguments} {body : Expr} {scope : Scope} {t : XK → TE} {p lpos pos : Pos} (hd : HearD X.K X.mg Z) (hg : Gl X "_law_heard") (gs : X.A.guards = some [])
    (TB : LamX.TabB X.base X.mg c P) (hcode : X.env.code = .ref c) (hmT : (P, X.env.qual ++ "<lambda>") ∈ T) (hu : ∀ p ∈ T, p.1 = P → p.2 = X.env.qual ++ "<lambda>") (hr : Room (k + 2) X.A) (L : LamX.LamS X.env.scope scope) (hdef : defaultsOf params X.env = ([], []))
    (hbind : ∀ (q : Str) (cl : List (Str × Addr)) (pm cv ctv : Value), bindArgs (PySem.W.kla_fn "<lambda>" q params body scope cl pm cv ctv) ⟨[], []⟩ = pure [])
    (mono : ∀ (E : XK) (σ : Sx) (H : Hp) (Q Q' : VK), (∀ v H, Q v H → Q' v H) → t E σ H Q → t E σ H Q')
    (wb : ∀ (A : Around) (outer : List Env) (s : Shared) (H : Hp) (E : XK) (f c' : Addr), Room k (A.deeper (LamX.lamEnv X scope s.heap.objs.size f c')) → A.guards = some [] → PE (LamX.lamCx X A outer s H E scope f c') body (t E)) :
    PE X (.Call (.Name "_law_heard" p) [.Lambda params body scope lpos] [] pos) (fun σ H Q => LamX.Tabs T H ∧ ∀ H1, LamX.ExtN H H1 → (∀ b, H1 b = none → H b = none) → LamX.Tabs T H1 →
      ∀ CS, (∀ c, PySem.W.exmOne X.K (.ref (Z.ca c)) (.ref CS) = some true) → ∀ p, H1 p = none → t (heE X.K CS Q) σ (upd H1 p (.tup [.non, .non])) (heQ Q)) := by
  obtain ⟨g, CS, fd, prm, q, Fu, hb, mg, mW, eC, hq⟩ := hd.ex
  obtain ⟨⟨oc, od, dV, kV, doc, pm, an, cdv, ct, osl, rfl, lk, hcd, _, _⟩, kp⟩ := Fu
  refine ⟨fun pins s σ H Q I h => ?_⟩
  obtain ⟨hT, h⟩ := h
  refine wpAny_Call_Name_kw (ld_glob I hg mg ?_ (by decide))
  refine PySem.W.callWith_K (h₀ := X.base) I.ok.mod.kin kp ?_ (by rfl) (by rfl)
  show wpAny _ _ (spliced ((false, eval (.Lambda params body scope lpos) X.env) :: backTo pos (starEach [] X.env))) _ _ s
  refine Calls.spliced_cons (lam_make3 I TB hcode hmT hu hT hdef (L.has I.ok) fun f c' pm' ctv H1 s' _ I1 eN dm T1 hf hfn hfr hco => ?_)
  refine Calls.spliced_nil ⟨I1.kIn, ?_⟩
  have rc : codeAny (model X.prog X.w) X.A (.call (.ref g) ⟨[.ref f], []⟩) (CR (L2.CX X.prog X.w) X.stack X.prog X.w H1 s' Q fun _ _ _ => False) s' := by
    refine LamX.run_ofS (N := heN) (ps := ["call"]) (us := [.ref f]) (vs := [.ref f]) lk hcd heSc_ok hr I1.env0 (hb s' [.ref f] I1.kIn rfl) (.cons rfl .nil) rfl fun hr' => ?_
    refine he_body (c' := c') (qn := X.env.qual ++ "<lambda>") (tl := fun H' Q' => t (heE X.K CS Q) σ H' Q') mW hq (fun W pn xe p1 p2 tk => ?_) (mono _ _) hco fun p hp => h H1 eN dm T1 CS eC p hp
    exact pe_act2 (i := 0) I1 L hf hfn hfr (hbind _ _ _ _ _) tk hr' (fun outer s H hr2 => wb _ outer s H _ f c' hr2 gs) rfl (.inl rfl) (by decide) (by decide)
  refine wpAny_call (codeAny_mono rc fun r s2 hq => ?_)
  cases r with
  | error e =>
    obtain ⟨_, _, _, _, _, _, _, _, _, _, _, _, z⟩ := hq
    exact z.elim
  | ok fl =>
    cases fl with
    | ret u => exact I1.after hq
    | next => exact False.elim hq
    | brk => exact False.elim hq
    | cont => exact False.elim hq
end
end Ev

/-! What is heard, by the evaluator. -/
namespace Ev
open L2 PyProof.Rows PySem PySem.Spec
theorem frz_at {ρ : Nv} {i : Nat} {s : Option (Ev.D × Bool)} (h : (frzAll ρ)[i]? = some s) : ∃ t, ρ[i]? = some t ∧ s = t.map fun p => (p.1, false) := by
  unfold frzAll at h
  rw [List.getElem?_map] at h
  cases e : ρ[i]? with
  | none => rw [e] at h; cases h
  | some t =>
    rw [e] at h
    exact ⟨t, rfl, (Option.some.inj h).symm⟩
theorem frz_no {ρ : Nv} {i : Nat} {d : Ev.D} (h : (frzAll ρ)[i]? = some (some (d, true))) : False := by
  obtain ⟨t, _, e⟩ := frz_at h
  cases t with
  | none => cases e
  | some p =>
    have w := congrArg (fun o : Option (Ev.D × Bool) => o.map Prod.snd) e
    cases w
section
variable {Z : Zt} {Eo : XK} {σ : Sx} {p q : Pt}
theorem frz_fz {ρ : Nv} : Fz ρ (frzAll ρ) := by
  refine ⟨by unfold frzAll; simp, fun i => ⟨fun h => ?_, fun d fl h => ⟨false, ?_, fun z => nomatch z⟩⟩⟩
  · unfold frzAll
    rw [List.getElem?_map, h]
    rfl
  · unfold frzAll
    rw [List.getElem?_map, h]
    rfl
/-- all lists of slots are given away -/
theorem frz_all (sp : p.Sim Z σ) : Via σ p ⟨frzAll p.ρ, p.M, fun b => p.F b ∨ Own p.ρ σ b, p.φ, p.H⟩ ∧ Sim Z (frzAll p.ρ) p.M (fun b => p.F b ∨ Own p.ρ σ b) p.φ σ p.H := by
  have st : Stay p.F p.φ p.H (fun b => p.F b ∨ Own p.ρ σ b) p.φ p.H := stay_grow fun _ h => .inl h
  refine ⟨⟨⟨⟨[], by simp, by simp⟩, fun _ _ h _ _ _ => h, fun _ h => .inl h, fun b h => h.imp id .inr, fun _ h => h⟩, frz_fz⟩, ⟨fun b h => ?_, sp.g.len, fun n ps h => ?_, sp.g.nd, sp.g.tab⟩, ⟨?_, fun i d h => ?_, fun i d h => (frz_no h).elim, sp.l.ent, fun i j d e a h => (frz_no h).elim⟩⟩
  · rcases h with h | h
    · exact sp.g.dom b h
    · obtain ⟨⟨vs, e⟩, _, n⟩ := sp.l.own_lst h
      exact ⟨fun z => (by rw [z] at e; cases e), n⟩
  · obtain ⟨a, vs, h1, h2, h3⟩ := sp.g.cell n ps h
    exact ⟨a, vs, h1, h2, h3.stay st⟩
  · rw [frz_fz.1]
    exact sp.l.len
  · obtain ⟨t, h1, e⟩ := frz_at h
    cases t with
    | none => cases e
    | some y =>
      obtain ⟨d', fl⟩ := y
      have e : some (d, false) = some (d', false) := e
      cases e
      cases fl with
      | false =>
        obtain ⟨v, e, r⟩ := sp.l.sh i d h1
        exact ⟨v, e, r.stay st⟩
      | true =>
        obtain ⟨a, e, r, _⟩ := sp.l.ow i d h1
        exact ⟨.ref a, e, OwnR.give (.inr ⟨i, d, h1, e⟩) (r.stay st fun vs h => h)⟩
/-- the heap grew, tables may have changed -/
theorem via_grow {H' : Hp} (sp : p.Sim Z σ) (ext : LamX.ExtN p.H H') (dm : ∀ b, H' b = none → p.H b = none) (tb : LamX.Tabs Z.T H') : Via σ p ⟨p.ρ, p.M, p.F, p.φ, H'⟩ ∧ Sim Z p.ρ p.M p.F p.φ σ H' := by
  have po : ∀ O, Post O no1 p.F p.φ p.H p.F p.φ H' := fun O => ⟨⟨[], by simp, by simp⟩, fun b o h _ _ nt => ext b o h nt, fun _ h => h, fun _ h => .inl h, dm⟩
  refine ⟨⟨po _, Fz.refl _⟩, sp.g.next ((po no1).stayE sp.g) rfl (fun b hb => ?_) (fun b hb => ⟨fun z => (sp.g.dom b hb).1 (dm b z), (sp.g.dom b hb).2⟩) tb, sp.l.post (po no1) sp.g⟩
  obtain ⟨n, hn, e⟩ := List.mem_iff_getElem.mp hb
  obtain ⟨a, vs, h1, h2, _⟩ := sp.g.cell n (p.M[n]'(by rw [← sp.g.len]; exact hn)) (by simp)
  rw [List.getElem?_eq_getElem hn, e] at h1
  cases h1
  rw [ext _ _ h2 (fun _ z => nomatch z), h2]
/-- an error is kept at a -/
theorem err_kept {c : Nat} {v : PyData} {M : Mem} {da a : Addr} (hsp : p.Sim Z σ) (po : Post (Own p.ρ σ) no1 p.F p.φ p.H q.F q.φ q.H) (no : ∀ b, ¬ Own p.ρ σ b) (er : Err Z c v M q da) (na : q.H a = none) :
    Via σ p ⟨p.ρ, M, fun b => q.F b ∨ b = a, q.φ, upd q.H a (ExV (.ref (Z.ca c)) da a)⟩ ∧ Sim Z p.ρ M (fun b => q.F b ∨ b = a) q.φ σ (upd q.H a (ExV (.ref (Z.ca c)) da a)) ∧ Rep Z (fun b => q.F b ∨ b = a) q.φ (upd q.H a (ExV (.ref (Z.ca c)) da a)) (.ref a) (.exc c v) := by
  have po1 : Post no1 no1 p.F p.φ p.H q.F q.φ q.H := po.mono' (fun b h => no b h) fun _ h => h
  obtain ⟨f1, f2⟩ := er.g.free na
  have st : Stay q.F q.φ q.H (fun b => q.F b ∨ b = a) q.φ (upd q.H a (ExV (.ref (Z.ca c)) da a)) := (stay_upd na).trans (stay_grow fun _ h => .inl h)
  have po2 : Post no1 no1 q.F q.φ q.H (fun b => q.F b ∨ b = a) q.φ (upd q.H a (ExV (.ref (Z.ca c)) da a)) := ⟨⟨[], by simp, by simp⟩, fun b o h _ _ _ => by rw [upd_ne (ne_of_none h na)]; exact h, fun _ h => .inl h, fun b h => h.imp id fun e => .inl (by rw [e]; exact na), fun b h => by
    by_cases hb : b = a
    · rw [hb, upd_same] at h
      cases h
    · rw [upd_ne hb] at h
      exact h⟩
  have po3 := po1.trans po2 (fun _ h => h.elim) (fun _ h => h.elim)
  obtain ⟨x, e1, r1⟩ := er.at_
  refine ⟨⟨po3.mono' (fun _ h => h.elim) fun _ h => h, Fz.refl _⟩, ⟨er.g.next st rfl (fun b hb => upd_ne fun z => f2 (z ▸ hb)) (fun b hb => ?_) (er.g.tab.ext fun b o e => by rw [upd_ne (ne_of_none e na)]; exact e), hsp.l.post po3 hsp.g⟩, .exc (.inr rfl) (.inl er.fd) upd_same (by rw [upd_ne (ne_of_none e1 na)]; exact e1) (r1.stay st)⟩
  rcases hb with hb | hb
  · exact ⟨fun z => (er.g.dom b hb).1 (po2.dom b z), (er.g.dom b hb).2⟩
  · rw [hb]
    exact ⟨fun z => (by rw [upd_same] at z; cases z), f2⟩
theorem tE_mono {f : Nv → Mem → RE} {H : Hp} {Q Q' : VK} (h : ∀ v H, Q v H → Q' v H) (t : tE Z Eo f σ H Q) : tE Z Eo f σ H Q' := by
  obtain ⟨p, e, sp, r, hr, d⟩ := t
  refine ⟨p, e, sp, r, hr, ?_⟩
  cases r with
  | ok r => exact fun q v e1 e2 x s rp => h _ _ (d q v e1 e2 x s rp)
  | er c v M => exact d
end
section
variable {X : Cx} {Z : Zt} {Fs : List Fn} {C : Nv → Clo} {Eo : XK}
theorem s_hearL {c P : Addr} {k : Nat} {params : Arguments} {body : Expr} {scope : Scope} {a : E} {p lpos pos : Pos} (hd : HearD X.K X.mg Z) (hg : Gl X "_law_heard") (gs : X.A.guards = some [])
    (TB : LamX.TabB X.base X.mg c P) (hcode : X.env.code = .ref c) (hmT : (P, X.env.qual ++ "<lambda>") ∈ Z.T) (hu : ∀ p ∈ Z.T, p.1 = P → p.2 = X.env.qual ++ "<lambda>") (hr : Room (k + 2) X.A) (L : LamX.LamS X.env.scope scope) (hdef : defaultsOf params X.env = ([], []))
    (hbind : ∀ (q : Str) (cl : List (Str × Addr)) (pm cv ctv : Value), bindArgs (PySem.W.kla_fn "<lambda>" q params body scope cl pm cv ctv) ⟨[], []⟩ = pure [])
    (wb : ∀ (A : Around) (outer : List Env) (s : Shared) (H : Hp) (E : XK) (f c' : Addr), Room k (A.deeper (LamX.lamEnv X scope s.heap.objs.size f c')) → A.guards = some [] → PE (LamX.lamCx X A outer s H E scope f c') body (tE Z E (evE Fs C a))) :
    PE X (.Call (.Name "_law_heard" p) [.Lambda params body scope lpos] [] pos) (tE Z Eo (evE Fs C (.hearL a))) := by
  refine PE.imp (pe_heard (T := Z.T) (t := fun E => tE Z E (evE Fs C a)) hd hg gs TB hcode hmT hu hr L hdef hbind (fun E σ H Q Q' h t => tE_mono h t) wb) fun σ H Q h => ?_
  obtain ⟨p, rfl, sp, r, hr, d⟩ := h
  refine ⟨sp.g.tab, fun H1 ext dm tb CS eC t ht => ?_⟩
  obtain ⟨v1, s1⟩ := frz_all sp
  obtain ⟨v2, s2⟩ := via_grow (p := ⟨frzAll p.ρ, p.M, fun b => p.F b ∨ Own p.ρ σ b, p.φ, p.H⟩) s1 ext dm tb
  have s3 := Sim.new (o := .tup [.non, .non]) s2 ht
  have v3 : Via σ ⟨frzAll p.ρ, p.M, fun b => p.F b ∨ Own p.ρ σ b, p.φ, H1⟩ ⟨frzAll p.ρ, p.M, fun b => p.F b ∨ Own p.ρ σ b, p.φ, upd H1 t (.tup [.non, .non])⟩ := ⟨post_new _ ht, Fz.refl _⟩
  have v4 := (v1.trans sp v2).trans sp v3
  unfold evE at hr
  cases e : evE Fs C a (frzAll p.ρ) p.M with
  | none => rw [e] at hr; cases hr
  | some y =>
    rw [e] at hr
    refine ⟨⟨frzAll p.ρ, p.M, fun b => p.F b ∨ Own p.ρ σ b, p.φ, upd H1 t (.tup [.non, .non])⟩, rfl, s3, y, e, ?_⟩
    cases y with
    | ok x =>
      obtain ⟨x1, x2, x3, x4⟩ := x
      intro q v e1 e2 y sy rep T hT
      cases e1
      cases e2
      have er := vl_some hr
      subst er
      obtain ⟨F', mo, nw, f, v5, s5, r5⟩ := give1 (q := q) y s3 sy rep
      have d5 := d.rebase sp (v4.trans sp v5)
      exact New.done (p := ⟨fz x2 q.ρ, q.M, F', q.φ, q.H⟩) (fr := false) (pair_new hT (.py .non) r5) s5 d5
    | er c v M =>
      have er := vl_some hr
      subst er
      intro q da po er
      refine ⟨eC c, da, rfl, fun ad na T hT => ?_⟩
      obtain ⟨v5, s5, r5⟩ := err_kept (p := ⟨frzAll p.ρ, p.M, fun b => p.F b ∨ Own p.ρ σ b, p.φ, upd H1 t (.tup [.non, .non])⟩) s3 po (fun b ⟨i, d, h, _⟩ => frz_no h) er na
      have d5 := d.rebase sp (v4.trans sp v5)
      exact New.done (p := ⟨frzAll p.ρ, M, fun b => q.F b ∨ b = ad, q.φ, _⟩) (fr := false) (pair_new hT r5 (.py .non)) s5 d5
end
end Ev

/-! isinstance of a kept error, its value. -/
namespace Ev
open PySem PySem.Spec PyProof.Rows PySem.Calls PySem.W
section
variable {prog : Program} {w : World} {A : Around} {E : Value → Shared → Prop} {s : Shared} {K : PySem.W.Frag} {x D : Addr} {ox : Obj} {od : Option Obj}
/-- as the kit's kin_classE, for an object with a dict too -/
theorem class_ofE {Q : Option Value → Shared → Prop} (R : L2.ExcC K D) (kin : K.In s.heap) (I : PySem.W.InstAt s.heap x ox D od) (h : Q (some (.ref D)) { s with toks := s.toks + 1 }) : wpAny (model prog w) A (getAttr? (.ref x) "__class__") Q E s := by
  have fo : findObj K D od "__class__" = some (.bind (.builtin "getset_descriptor.__get__") (.builtin "object.__class__")) := by
    obtain ⟨cd, hc, _⟩ := any_some R.hd
    unfold findObj
    rw [hc, Option.bind_some, R.ha, Option.bind_some]
    simp [R.hn, R.ht]
  obtain ⟨hp, gg, dd, tt, os⟩ := s
  have T0 := I.type (M := model prog w)
  have T1 := looks_findIn (M := model prog w) kin R.hg
  have T2 := looks_findIn (M := model prog w) kin R.hk
  have T3 := looks_find (M := model prog w) kin I fo
  have isB : Looks (model prog w) hp (isInstance (.ref x) (.type "BaseException")) true := T0.andThen (looks_subIn kin R.hs)
  have b0 : (false && onTheHeap (Value.builtin "BaseException.__getattribute__")) = false := rfl
  have b2 : (Value.builtin "BaseException.__getattribute__" == Value.builtin "object.__getattribute__") = false := by decide +kernel
  have b1 : (onTheHeap (Value.ref D) && Value.builtin "BaseException.__getattribute__" == Value.builtin "object.__getattribute__") = false := by rw [b2]; rfl
  unfold getAttr? getAttrBy? getAttrBy
  refine wpAny_bind (wpAny_mkText (wpAny_bind (wpAny_attempt (wpAny_holding (wpAny_bind (T0.at (wpAny_bind (T1.at ?_))))))))
  show wpAny _ _ (if (onTheHeap (Value.ref D) && Value.builtin "BaseException.__getattribute__" == Value.builtin "object.__getattribute__") = true then _ else _) _ _ _
  rw [b1, if_neg Bool.false_ne_true]
  unfold getAttrByItsOwn hookBefore
  refine wpAny_bind ?_
  rw [if_pos (show onTheHeap (Value.ref D) = true from rfl)]
  refine T2.at ?_
  refine wpAny_bind (wpAny_attempt (wpAny_holding ?_))
  unfold callGetattribute
  rw [b0, if_neg Bool.false_ne_true]
  unfold boundAndCalled
  rw [PySem.F.excAttr_ValueError.ga.bind (.ref x)]
  refine wpAny_bind (wpAny_pure ?_)
  show wpAny _ _ (call (.builtin "BaseException.__getattribute__") [.ref x, .str "__class__" tt]) _ _ _
  refine wpAny_call (codeAny_call_builtin PySem.F.excAttr_ValueError.ga.plain PySem.F.entry_bexc_ga ?_)
  refine @check_slot (model prog w) _ _ ⟨hp, gg, dd, tt + 1, os⟩ "BaseException.__getattribute__" "BaseException" "__getattribute__" (.ref x) [.str "__class__" tt] [] _ (by decide +kernel) (by decide +kernel) isB (PySem.F.args_bexc_ga (.ref x) (.str "__class__" tt)) ?_
  unfold Builtin.«object.__getattribute__»
  refine wpAny_bind (wpAny_of_eq (a := ((Value.ref x : Value), [Value.str "__class__" tt])) (by first | rfl | (simp only [slotArgs]; rfl)) ?_)
  refine wpAny_bind (wpAny_pure (wpAny_bind (T0.at (wpAny_bind (T3.at ?_)))))
  show wpAny _ _ (holding [Value.builtin "object.__class__"] (call (.builtin "getset_descriptor.__get__") [.builtin "object.__class__", .ref x, .ref D]) >>= ret) _ _ _
  refine wpAny_bind (wpAny_holding (wpAny_call (class_get (s := ⟨hp, gg, dd, tt + 1, os⟩) (ox := ox) (od := od) kin I R.hm ?_)))
  refine wpAny_pure ?_
  show wpAny _ _ (handedOut (.ref D)) _ _ _
  rw [handedOut_of (v := .ref D) rfl]
  first
    | exact wpAny_pure (wpAny_pure h)
    | exact wpAny_pure h
    | exact wpAny_pure (wpAny_bind (wpAny_pure (wpAny_pure h)))
theorem kitx_err (R : L2.ExcC K D) : KitX K (.ref x) (.ref D) (fun h => ∃ (ox : Obj) (od : Option Obj), PySem.W.InstAt h x ox D od) := by
  obtain ⟨cdD, hcD, _⟩ := any_some R.hd
  unfold clsIn at hcD
  split at hcD
  · rename_i c' d' cd' sl' ho
    refine ⟨fun _ _ _ ⟨_, _, I⟩ => I.type, fun _ _ kin _ => ?_, fun h tp dd its n sl kin htp => ?_, fun kin ⟨_, _, I⟩ k => class_ofE R kin I k⟩
    · intro A' Q' E' s' k q
      unfold isType loadHead
      exact wpAny_bind (wpAny_loadPart (k _ _ (kin _ _ ho)) (wpAny_pure q))
    · refine Bool.eq_false_iff.mpr fun q => ?_
      have e : D = tp := Value.ref.inj (beq_iff_eq.mp q)
      subst e
      cases (kin _ _ ho).symm.trans htp
  · cases hcD
end
end Ev
namespace Ev
open L2 PyProof.Rows PySem PySem.Spec
/-- isinstance(x, c), x a kept error or what the kit knows -/
def rIsX (K : PySem.W.Frag) : List V → Hp → VK → Prop := fun xs H Q => ∃ (x c : V) (t u : Value) (b : Bool), xs = [x, c] ∧ ClsV c u ∧ (TyX K H x t ∨ ∃ (a D d : Addr) (fs : List (Str × V)), x = .ref a ∧ t = .ref D ∧ ExcC K D ∧ H a = some (ExV (.ref D) d a) ∧ H d = some (.xd fs)) ∧ PySem.W.kitOne K t u = some b ∧ Q (.bl b) H
theorem inst_of {X : Cx} {pins : List (Addr × Obj)} {σ : Sx} {H : Hp} {s : Shared} {a D d : Addr} {fs : List (Str × V)} (I : Inv X pins σ H s) (ha : H a = some (ExV (.ref D) d a)) (hd : H d = some (.xd fs)) :
    ∃ (oe od : Obj) (mA : Str → Option Value), PySem.W.InstAt s.heap a oe D (some od) ∧ (∀ x, PySem.W.lookIn x od = some (mA x)) ∧ ∀ x, RelO (fs.lookup x) (mA x) := by
  obtain ⟨⟨oe, vs, h1, h2, h3⟩, _, _⟩ := I.hok a _ ha
  obtain ⟨mA, hns, hr⟩ := (show ObjOk X.prog X.w H s.heap d (.xd fs) from I.hok d _ hd)
  obtain ⟨od, ho, hl⟩ := lookIn_ns hns
  exact ⟨oe, od, mA, ⟨h1, h2.1, by unfold PySem.W.notCls; rw [h3] <;> rfl, by rw [h2.2]; exact ho⟩, hl, hr⟩
theorem call_isX {X : Cx} : CallR X (.builtin "isinstance") (rIsX X.K) := by
  intro pins s σ H xs us Q I r h
  obtain ⟨x, c, t, u, b, rfl, k, ty, e, q⟩ := h
  rcases ty with ty | ⟨a, D, d, fs, rfl, rfl, ec, ha, hd⟩
  · exact call_isi pins s σ H _ us Q I r ⟨x, c, t, u, b, rfl, k, ty, e, q⟩
  · obtain ⟨u1, u2, rfl, r1, r2⟩ := vals2 r
    have e2 := k.eq r2
    subst e2
    cases r1
    obtain ⟨oe, od, _, J, _⟩ := inst_of I ha hd
    exact PySem.W.kia_one (kitx_err ec) I.kIn ⟨oe, _, J⟩ e (fun z => nomatch z) fun tk => ⟨.bl b, H, I.tok tk, rfl, q⟩
section
variable {X : Cx} {Z : Zt} {Γ : Gam} {Fs : List Fn} {C : Nv → Clo} {Eo : XK}
theorem RepR.excV {F : Addr → Prop} {φ : List Addr} {H : Hp} {v : V} {c : Nat} {p : PyData} (h : RepR Z F φ H v (.exc c p)) : ∃ (a d : Addr) (w : V), v = .ref a ∧ H a = some (ExV (.ref (Z.ca c)) d a) ∧ H d = some (.xd [(valK, w)]) ∧ RepP F H w p := by
  rcases h with h | ⟨a, rfl, r⟩
  · cases h with
    | exc h1 h2 h3 h4 h5 => exact ⟨_, _, _, rfl, h3, h4, h5⟩
  · exact r.elim
/-- isinstance of an error that was heard, or of None -/
theorem s_isE {n c : Nat} {g : Str} {a : E} {e : Expr} {p p2 pos : Pos} (ok : XOk X Z Γ Fs Eo) (er : ErrD X.K Z n) (hc : c < n) (hg : glB Γ "isinstance" .free = true) (hg2 : glB Γ g (.cls c) = true) (hu : unst e = true) (ha : PE X e (tE Z Eo (evE Fs C a))) :
    PE X (.Call (.Name "isinstance" p) [e, .Name g p2] [] pos) (tE Z Eo (evE Fs C (.isi (.exc c) a))) := by
  obtain ⟨h1, h2, h3⟩ := glB_ok ok hg
  obtain ⟨g1, g2, g3⟩ := glB_ok ok hg2
  have hT : PE X (.Name g p2) (tC (.ref (Z.ca c))) := pe_glob (v := .ref (Z.ca c)) g1 g3 rfl (nm_all g2).1
  refine PE.imp (pe_callB call_isX h1 h3 (by kernel_rfl) (pa_cons ha (pa_cons hT pa_nil) (star_one hu)) (nm_all h2).2.2 (nm_all h2).1 (star_one hu) (star_all rfl)) fun σ H Q q => ?_
  obtain ⟨p, rfl, sp, z, hz, d⟩ := q
  unfold evE at hz
  refine sqE gdE sp hz d fun x m q v h1 via sq rx d1 => ?_
  obtain ⟨b, e1, h1⟩ := ob_some h1
  rw [vl_some h1] at d1
  have rr := rx.r sq.l
  cases x with
  | exc k p0 =>
    have e1 : some (k == c || c == 0) = some b := e1
    cases e1
    obtain ⟨ad, dd, w, rfl, e2, e3, _⟩ := rr.excV
    exact ⟨_, .ref (Z.ca c), .ref (Z.ca k), .ref (Z.ca c), _, rfl, .own _, .inr ⟨ad, _, dd, _, rfl, rfl, er.ec k, e2, e3⟩, er.kit k c hc, d1.sh sq (rBl _)⟩
  | py p0 =>
    cases p0 <;> first
      | (cases e1; exact ⟨v, .ref (Z.ca c), .type "NoneType", .ref (Z.ca c), false, rfl, .own _, .inl (ty_of rr rfl), er.kn c hc, d1.sh sq (rBl _)⟩)
      | cases e1
  | _ => cases e1
theorem s_isV {n : Nat} {a : E} {e : Expr} {p p2 pos : Pos} (ok : XOk X Z Γ Fs Eo) (er : ErrD X.K Z n) (hg : glB Γ "isinstance" .free = true) (hg2 : glB Γ "ValueError" .free = true) (hu : unst e = true) (ha : PE X e (tE Z Eo (evE Fs C a))) :
    PE X (.Call (.Name "isinstance" p) [e, .Name "ValueError" p2] [] pos) (tE Z Eo (evE Fs C (.isi .verr a))) := by
  obtain ⟨h1, h2, h3⟩ := glB_ok ok hg
  obtain ⟨g1, g2, g3⟩ := glB_ok ok hg2
  have hT : PE X (.Name "ValueError" p2) (tC (.ty "ValueError")) := pe_bltn g1 g3 (by kernel_rfl) rfl (nm_all g2).2.2 (nm_all g2).1
  refine PE.imp (pe_callB call_isX h1 h3 (by kernel_rfl) (pa_cons ha (pa_cons hT pa_nil) (star_one hu)) (nm_all h2).2.2 (nm_all h2).1 (star_one hu) (star_all rfl)) fun σ H Q q => ?_
  obtain ⟨p, rfl, sp, z, hz, d⟩ := q
  unfold evE at hz
  refine sqE gdE sp hz d fun x m q v h1 via sq rx d1 => ?_
  obtain ⟨b, e1, h1⟩ := ob_some h1
  rw [vl_some h1] at d1
  have rr := rx.r sq.l
  cases x with
  | exc k p0 =>
    cases e1
    obtain ⟨ad, dd, w, rfl, e2, e3, _⟩ := rr.excV
    exact ⟨_, .ty "ValueError", .ref (Z.ca k), .type "ValueError", _, rfl, .ty _, .inr ⟨ad, _, dd, _, rfl, rfl, er.ec k, e2, e3⟩, er.kv k, d1.sh sq (rBl _)⟩
  | py p0 => cases p0 <;> cases e1
  | _ => cases e1
/-- x.value of an error that was heard -/
theorem s_attr {n : Nat} {a : E} {e : Expr} {pos : Pos} (er : ErrD X.K Z n) (hb : attributeBase e valK X.env (eval e X.env) = eval e X.env) (ha : PE X e (tE Z Eo (evE Fs C a))) : PE X (.Attribute e valK pos) (tE Z Eo (evE Fs C (.attr a))) := by
  refine ⟨fun pins s σ H Q I h => ?_⟩
  obtain ⟨p, rfl, sp, z, hz, d⟩ := h
  unfold evE at hz
  refine attr_of hb (thn (ha.run pins s σ p.H (fun v H1 => ∃ (c ad dd : Nat) (w : V), v = .ref ad ∧ H1 ad = some (ExV (.ref (Z.ca c)) dd ad) ∧ H1 dd = some (.xd [(valK, w)]) ∧ Q w H1) I ?_) fun u s1 hh => ?_)
  · refine sqE gdE sp hz d fun x m q v h1 via sq rx d1 => ?_
    obtain ⟨b, e1, h1⟩ := ob_some h1
    rw [vl_some h1] at d1
    have rr := rx.r sq.l
    cases x with
    | exc k p0 =>
      cases e1
      obtain ⟨ad, dd, w, rfl, e2, e3, r⟩ := rr.excV
      exact ⟨k, ad, dd, w, rfl, e2, e3, d1.sh sq (.py r)⟩
    | _ => cases e1
  · obtain ⟨v, H1, I1, rv, c, ad, dd, w, rfl, e2, e3, q⟩ := hh
    cases rv
    obtain ⟨oe, od, mA, J, hl, hr⟩ := inst_of I1 e2 e3
    obtain ⟨u, hu, ru⟩ := RelO.some_of (v := w) (o := mA valK) (by have w' := hr valK; exact w')
    have T := er.xf c
    exact HandSPX.exc_get I1.kIn J T.ga T.gg T.exC (PySem.W.findObj_own T.hdC (er.nv c) rfl (by rw [hl, hu])) (handed_of ru) ⟨w, H1, I1.tok _, ru, q⟩
end
end Ev

/-! The errors' own __init__. -/
namespace Ev
open L2 PyProof.Rows PySem PySem.Spec
abbrev inN : List Str := ["self", "value"]
def inSc : Scope := { kind := .function, names := [("self", .local), ("value", .local), ("ValueError", .globalImplicit)], isGenerator := false, isCoroutine := false, more := [] }
def inBody (q : Nat → Pos) : List Stmt := [
  .Expr (.Call (.Attribute (.Name "ValueError" (q 0)) "__init__" (q 1)) [.Name "self" (q 2), .Name "value" (q 3)] [] (q 4)) (q 5),
  .Assign [.Attribute (.Name "self" (q 6)) "value" (q 7)] (.Name "value" (q 8)) (q 9)]
theorem inSc_ok : FnScope inN ["self", "value"] inSc := C8.fnScope_by (by decide)
def spIn (K : PySem.W.Frag) : Sp := fun vs H Q E => ∃ (a Ca : Addr) (v : V), vs = [.ref a, v] ∧ OexC K Ca ∧ PySem.W.findIn K (.ref Ca) valK = some none ∧ H a = some (exo a Ca none) ∧ ∀ dx, H dx = none → dx ≠ a → Q .non (upd (upd H dx (exd dx [(valK, v)])) a (exo a Ca (some dx)))
/-- where the text's call stands (closed for a given text) -/
def InPos (q : Nat → Pos) : Prop := ∀ env : Env, eval (.Call (.Attribute (.Name "ValueError" (q 0)) "__init__" (q 1)) [.Name "self" (q 2), .Name "value" (q 3)] [] (q 4)) env = (do
  let ov ← eval (.Name "ValueError" (q 0)) env
  standAt (q 1).atName
  let (f, first) ← holding [ov] (getMethod ov "__init__" (do return (← importBound (.Name "ValueError" (q 0)) env).getD true))
  callWith (q 4) f first (backTo (q 4) (starEach [.Name "self" (q 2), .Name "value" (q 3)] env)) (backToKw (q 4) (keywordEach [] env)))
example : InPos (fun n => [⟨14, 8, 14, 18⟩, ⟨14, 8, 14, 27⟩, ⟨14, 28, 14, 32⟩, ⟨14, 34, 14, 39⟩, ⟨14, 8, 14, 40⟩].getD n ⟨0, 0, 0, 0⟩) := fun _ => rfl
section
variable {P : Program} {w : World} {K : PySem.W.Frag} {mg : Str → Option Value} {base : Heap}
theorem init_ok {f : Addr} {fd : FuncData} {params : Arguments} {q : Nat → Pos} {x qual : Str} {k : Nat} (F : FunD K x qual params (inBody q) inSc [] [] f fd) (hq : InPos q) (mV : mg "ValueError" = none)
    (vV : PySem.W.findCls K (.type "ValueError") (.type "type") "__init__" = some (.val (.builtin "ValueError.__init__"))) : FnOk P w K mg base (L2.CX P w) (k + 1) f fd ["self", "value"] (spIn K) := by
  refine FunD.ok F inSc_ok (fun vs H Q E h => ?_) fun cdv A outer s H vs Q E hr h => ?_
  · obtain ⟨a, Ca, v, rfl, _⟩ := h
    rfl
  · obtain ⟨a, Ca, v, rfl, T, nv, ha, go⟩ := h
    have n0 : (cxOf (L2.CX P w) P w K mg base inN qual inSc f cdv A outer s H E).N[0]? = some ("self" : Str) := rfl
    have n1 : (cxOf (L2.CX P w) P w K mg base inN qual inSc f cdv A outer s H E).N[1]? = some ("value" : Str) := rfl
    refine ⟨_, pss_cons (ps_expr (pe_veinit (X := cxOf (L2.CX P w) P w K mg base inN qual inSc f cdv A outer s H E) rfl mV vV (pa_cons (pe_var n0 (.inl rfl)) (pa_cons (pe_var n1 (.inl rfl)) pa_nil)) (hq _))) (pss_one (ps_ost (pe_var n0 (.inl rfl)) (pe_var n1 (.inl rfl)))), ?_⟩
    exact ⟨.ref a, rfl, v, rfl, a, Ca, [v], rfl, (show 1 ≤ 1000 by decide), T, ha, v, rfl, .ref a, rfl, a, Ca, rfl, T, nv, .inl ⟨ha, go⟩⟩
/-- a class of errors that inherits this __init__ -/
theorem raz_of {fI Ca : Addr} {fd : FuncData} {params : Arguments} {q : Nat → Pos} {x qual : Str} {k : Nat} (F : FunD K x qual params (inBody q) inSc [] [] fI fd) (hb : Binds K fd ["self", "value"] []) (hq : InPos q) (mV : mg "ValueError" = none)
    (vV : PySem.W.findCls K (.type "ValueError") (.type "type") "__init__" = some (.val (.builtin "ValueError.__init__"))) (T : OexC K Ca) (nv : PySem.W.findIn K (.ref Ca) valK = some none)
    (iC : PySem.W.findIn K (.ref Ca) "__init__" = some (some (.ref fI))) (tI : PySem.W.typeIn K (.ref fI) = some (.type "function")) : Raz P w K mg base Ca (k + 1) :=
  ⟨T, nv, fI, fd, _, _, iC, tI, init_ok F hq mV vV, hb, fun a v H Q E ha go => ⟨a, Ca, v, rfl, T, nv, ha, go⟩⟩
end
end Ev

/-! A lambda that is a value of its frame; what is heard of it. -/
namespace Ev
open L2 PyProof.Rows PySem PySem.Spec
section
variable {X : Cx} {pins : List (Addr × Obj)} {σ : Sx} {H HZ : Hp} {s s1 : Shared}
theorem lamP_ok {P : Program} {w : World} {q : Str} {cl : List (Str × Addr)} {ps : Arguments} {b : Expr} {sc : Scope} {a c' : Addr} {h : Heap} {pm ctv : Value}
    (e : h.get? a = some (PySem.W.kla_obj "<lambda>" q ps b sc (cloFrom cl sc.names []) pm c' ctv)) : ObjOk P w H h a (LamP q cl ps b sc a c') :=
  ⟨⟨pm, ctv, e⟩, ⟨_, e⟩, fun _ _ ⟨pm, ctv, q⟩ k => ⟨pm, ctv, k _ q⟩⟩
/-- x(), in the def that got a lambda that is told of -/
theorem pe_act3 {CXg : CXT} {Eg : XK} {Ng : List Str} {qg : Str} {sg : Scope} {g f c' : Addr} {cdg : Value} {params : Arguments} {body : Expr} {scope : Scope} {k i : Nat} {a : Str} {pn : List (Addr × Obj)} {xe : Value → Shared → Prop} {W : WX} {E : XK} {tb : TE} {p1 p2 : Pos}
    (J : Inv X pins σ H s) (L : LamX.LamS X.env.scope scope)
    (bnd : ∀ (q : Str) (cl : List (Str × Addr)) (pm cv ctv : Value), bindArgs (PySem.W.kla_fn "<lambda>" q params body scope cl pm cv ctv) ⟨[], []⟩ = pure [])
    (tk : Takes ((cxOf CXg X.prog X.w X.K X.mg X.base Ng qg sg g cdg X.A X.stack s H Eg).tr pn xe) W) (hr : Room (k + 1) (X.A.deeper (envOfC qg sg s.heap.objs.size g cdg)))
    (wb : ∀ (outer : List Env) (t : Shared) (H : Hp), Room k ((X.A.deeper (envOfC qg sg s.heap.objs.size g cdg)).deeper (LamX.lamEnv X scope t.heap.objs.size f c')) → PE (LamX.lamCx X (X.A.deeper (envOfC qg sg s.heap.objs.size g cdg)) outer t H E scope f c') body tb)
    (at_ : Ng[i]? = some a) (vis : Vis sg a) (nd : (a == ("__debug__" : Str)) = false) (ncd : (a == ("__classdict__" : Str)) = false) :
    PE ((cxOf CXg X.prog X.w X.K X.mg X.base Ng qg sg g cdg X.A X.stack s H Eg).tr pn xe) (.Call (.Name a p1) [] [] p2)
      (fun σZ HZ Q => σZ[i]? = some (some (.ref f)) ∧ (∀ cls d H', E cls d H' → W cls d σZ H') ∧ HZ c' = some (LamX.CodeO c' (X.env.qual ++ "<lambda>")) ∧ HZ f = some (LamP (X.env.qual ++ "<lambda>") X.env.cells params body scope f c') ∧ tb σ HZ Q) := by
  refine ⟨fun pinsZ sZ σZ HZ Q IZ h => ?_⟩
  obtain ⟨slot, hW, code, hlam, want⟩ := h
  refine wpAny_Call_Name_kw (thn ((pe_var (pos := p1) (i := i) at_ vis nd ncd).run pinsZ sZ σZ HZ (fun v H1 => v = .ref f ∧ H1 = HZ) IZ ⟨.ref f, slot, rfl, rfl⟩) fun u t1 ⟨v, H1, I1, r1, q1⟩ => ?_)
  obtain ⟨rfl, rfl⟩ := q1
  cases r1
  obtain ⟨⟨pm, ctv, of1⟩, _, _⟩ := I1.hok f _ hlam
  refine PySem.W.callWith_F0 ⟨_, _, _, _, of1⟩ ?_
  have un : Un (frs X.stack) [] H H1 s.heap t1.heap := I1.base
  obtain ⟨⟨oc, vs, t, oc1, dc, vc⟩, _, _⟩ := I1.hok c' _ code
  have rc : codeAny (model X.prog X.w) (X.A.deeper (envOfC qg sg s.heap.objs.size g cdg)) (.call (.ref f) ⟨[], []⟩) (CR (L2.CX X.prog X.w) (envOfC qg sg s.heap.objs.size g cdg :: X.stack) X.prog X.w H1 t1 Q E) t1 := by
    refine PySem.W.kla_callFunE hr.depth of1 rfl L.co L.gen rfl ⟨c', oc, vs, t, rfl, oc1, dc, vc⟩ ?_
    rw [bnd]
    refine wpAny_pure (wpAny_newFunctionEnv (fun y hy => (L.own y hy).2) (fun y hy => absurd hy (by simp)) (fun h₁ hns hsb => ⟨I1.nolimit.fresh _ hsb, ?_⟩) L.kind)
    show codeAny _ _ (.expr body (LamX.lamEnv X scope t1.heap.objs.size f c')) _ _
    have kp : ∀ b o, t1.heap.get? b = some o → h₁.get? b = some o := fun b o e => hsb.extBut b o (Nat.ne_of_lt (Heap.lt_size e)) (Heap.get?_push_of_some _ e)
    have J2 : Inv (LamX.lamCx X (X.A.deeper (envOfC qg sg s.heap.objs.size g cdg)) (envOfC qg sg s.heap.objs.size g cdg :: X.stack) t1 H1 E scope f c') [] σ H1 { t1 with heap := h₁, toks := t1.toks + ([] : List (Str × Value)).length } :=
      LamX.lam_start2 J L I1.env0 hr.hd un hns kp
    refine PySem.W.kla_codeExpr (wpAny_mono ((wb _ t1 H1 (hr.deeper _)).run [] _ _ H1 Q J2 want) (fun v s' hq => ?_) fun e s' hq => hq)
    obtain ⟨w', H', J', rv, q⟩ := hq
    exact ⟨w', H', J'.os, J'.bare, J'.base, J'.hok, rv, q⟩
  refine wpAny_call (codeAny_mono rc fun r s' hq => ?_)
  cases r with
  | error e => exact tk e s' (XE.of_call I1 hW hq)
  | ok fl =>
    cases fl with
    | ret u => exact I1.after hq
    | next => exact False.elim hq
    | brk => exact False.elim hq
    | cont => exact False.elim hq
end
section
variable {X : Cx}
/-- _law_heard(x) where x is a lambda that is told of -/
theorem pe_heardV {Z : Zt} {k : Nat} {ea : Expr} {t : TA} {tb : Nat → XK → TE} {p pos : Pos} (hd : HearD X.K X.mg Z) (hg : Gl X "_law_heard") (gs : X.A.guards = some [])
    (hr : Room (k + 2) X.A) (hu : unst ea = true) (ha : PA X [ea] t) (hq : Z.lq = X.env.qual ++ "<lambda>") (hc : Z.lcl = X.env.cells)
    (mono : ∀ (n : Nat) (E : XK) (σ : Sx) (H : Hp) (Q Q' : VK), (∀ v H, Q v H → Q' v H) → tb n E σ H Q → tb n E σ H Q')
    (hl : ∀ (n : Nat) (params : Arguments) (body : Expr) (scope : Scope), Z.lg n params body scope → LamX.LamS X.env.scope scope ∧
      (∀ (q : Str) (cl : List (Str × Addr)) (pm cv ctv : Value), bindArgs (PySem.W.kla_fn "<lambda>" q params body scope cl pm cv ctv) ⟨[], []⟩ = pure []) ∧
      ∀ (A : Around) (outer : List Env) (s : Shared) (H : Hp) (E : XK) (f c' : Addr), Room k (A.deeper (LamX.lamEnv X scope s.heap.objs.size f c')) → A.guards = some [] → PE (LamX.lamCx X A outer s H E scope f c') body (tb n E)) :
    PE X (.Call (.Name "_law_heard" p) [ea] [] pos) (fun σ H Q => t σ H fun vs H1 => ∃ f c' n params body scope, vs = [.ref f] ∧ Z.lg n params body scope ∧ H1 f = some (LamP Z.lq Z.lcl params body scope f c') ∧ H1 c' = some (LamX.CodeO c' Z.lq) ∧
      ∀ CS, (∀ c, PySem.W.exmOne X.K (.ref (Z.ca c)) (.ref CS) = some true) → ∀ p, H1 p = none → tb n (heE X.K CS Q) σ (upd H1 p (.tup [.non, .non])) (heQ Q)) := by
  obtain ⟨g, CS, fd, prm, q, Fu, hb, mg, mW, eC, hq2⟩ := hd.ex
  obtain ⟨⟨oc, od, dV, kV, doc, pm, an, cdv, ct, osl, rfl, lk, hcd, _, _⟩, kp⟩ := Fu
  refine ⟨fun pins s σ H Q I h => ?_⟩
  refine wpAny_Call_Name_kw (ld_glob I hg mg ?_ (by decide))
  refine PySem.W.callWith_K (h₀ := X.base) I.ok.mod.kin kp (thn (ha.run pos pins s σ H _ I h) fun us s1 ⟨vs, H1, I1, r1, q1⟩ => ?_) (star_one hu) (by rfl)
  refine ⟨I1.kIn, ?_⟩
  obtain ⟨f, c', n, params, body, scope, rfl, hlg, hf, hco, h⟩ := q1
  rw [hq, hc] at hf
  rw [hq] at hco
  cases r1 with
  | cons r1 r2 =>
  cases r2
  cases r1
  obtain ⟨L, bnd, wb⟩ := hl n params body scope hlg
  have rc : codeAny (model X.prog X.w) X.A (.call (.ref g) ⟨[.ref f], []⟩) (CR (L2.CX X.prog X.w) X.stack X.prog X.w H1 s1 Q fun _ _ _ => False) s1 := by
    refine LamX.run_ofS (N := heN) (ps := ["call"]) (us := [.ref f]) (vs := [.ref f]) lk hcd heSc_ok hr I1.env0 (hb s1 [.ref f] I1.kIn rfl) (.cons rfl .nil) rfl fun hr' => ?_
    refine he_body (c' := c') (qn := X.env.qual ++ "<lambda>") (tl := fun H' Q' => H' f = some (LamP (X.env.qual ++ "<lambda>") X.env.cells params body scope f c') ∧ tb n (heE X.K CS Q) σ H' Q') mW hq2 (fun W pn xe p1 p2 tk => ?_) (fun H' Q1 Q2 hm hh => ⟨hh.1, mono n _ _ _ _ _ hm hh.2⟩) hco fun p hp => ⟨by rw [upd_ne (ne_of_none hf hp)]; exact hf, h CS eC p hp⟩
    exact pe_act3 (i := 0) I1 L bnd tk hr' (fun outer s H hr2 => wb _ outer s H _ f c' hr2 gs) rfl (.inl rfl) (by decide) (by decide)
  refine wpAny_call (codeAny_mono rc fun r s2 hq => ?_)
  cases r with
  | error e =>
    obtain ⟨_, _, _, _, _, _, _, _, _, _, _, _, z⟩ := hq
    exact z.elim
  | ok fl =>
    cases fl with
    | ret u => exact I1.after hq
    | next => exact False.elim hq
    | brk => exact False.elim hq
    | cont => exact False.elim hq
end
section
variable {X : Cx} {Z : Zt} {Fs : List Fn} {C : Nv → Clo} {Eo : XK}
/-- lambda: body, as a value -/
theorem s_lam {c P : Addr} {k : Nat} {params : Arguments} {body : Expr} {scope : Scope} {lpos : Pos}
    (TB : LamX.TabB X.base X.mg c P) (hcode : X.env.code = .ref c) (hmT : (P, X.env.qual ++ "<lambda>") ∈ Z.T) (hu : ∀ p ∈ Z.T, p.1 = P → p.2 = X.env.qual ++ "<lambda>") (L : LamX.LamS X.env.scope scope) (hdef : defaultsOf params X.env = ([], []))
    (hq : Z.lq = X.env.qual ++ "<lambda>") (hc : Z.lcl = X.env.cells) (hg : Z.lg k params body scope) : PE X (.Lambda params body scope lpos) (tE Z Eo (evE Fs C (.lam k))) := by
  refine ⟨fun pins s σ H Q I h => ?_⟩
  obtain ⟨p, rfl, sp, r, hr, d⟩ := h
  unfold evE at hr
  have er := vl_some hr
  subst er
  refine lam_make3 I TB hcode hmT hu sp.g.tab hdef (L.has I.ok) fun f c' pm ctv H1 s' nw I1 eN dm T1 hf hfn hfr hco => ?_
  have nh : s.heap.get? f = none := by
    cases e : s.heap.get? f with
    | none => rfl
    | some o => exact absurd (Nat.lt_of_lt_of_le (Heap.lt_size e) nw) (Nat.lt_irrefl _)
  have n0 : X.s_0.heap.get? f = none := by
    cases e : X.s_0.heap.get? f with
    | none => rfl
    | some o => exact absurd (Nat.lt_of_lt_of_le (Heap.lt_size e) (Nat.le_trans I.sz nw)) (Nat.lt_irrefl _)
  have I2 := inv_track (o := LamP (X.env.qual ++ "<lambda>") X.env.cells params body scope f c') I1 hfn n0 (fun z => by
      have lt := I.lt
      rw [← z] at lt
      exact Nat.not_le_of_lt lt nw) (fun x cc e z => by
      obtain ⟨v, o, ho, _⟩ := I.cell x cc e
      rw [z, nh] at ho
      cases ho) (fun p hp z => by
      have e := (I.pin p hp).1
      rw [z, nh] at e
      cases e) (lamP_ok hf)
  obtain ⟨v2, s2⟩ := via_grow sp eN dm T1
  have s3 := Sim.new (o := LamP (X.env.qual ++ "<lambda>") X.env.cells params body scope f c') s2 hfn
  have v3 : Via σ ⟨p.ρ, p.M, p.F, p.φ, H1⟩ ⟨p.ρ, p.M, p.F, p.φ, upd H1 f (LamP (X.env.qual ++ "<lambda>") X.env.cells params body scope f c')⟩ := ⟨post_new _ hfn, Fz.refl _⟩
  exact ⟨.ref f, _, I2, rfl, d ⟨p.ρ, p.M, p.F, p.φ, _⟩ (.ref f) rfl rfl (v2.trans sp v3) s3 (.clo hg (by rw [hq, hc]; exact upd_same) (by rw [hq]; exact (upd_ne (ne_of_none hco hfn)).trans hco))⟩
theorem s_hearV {k : Nat} {ea : Expr} {a : E} {p pos : Pos} (hd : HearD X.K X.mg Z) (hg : Gl X "_law_heard") (gs : X.A.guards = some [])
    (hr : Room (k + 2) X.A) (hu : unst ea = true) (ha : PE X ea (tE Z Eo (evE Fs C a))) (hq : Z.lq = X.env.qual ++ "<lambda>") (hc : Z.lcl = X.env.cells)
    (hl : ∀ (n : Nat) (params : Arguments) (body : Expr) (scope : Scope), Z.lg n params body scope → LamX.LamS X.env.scope scope ∧
      (∀ (q : Str) (cl : List (Str × Addr)) (pm cv ctv : Value), bindArgs (PySem.W.kla_fn "<lambda>" q params body scope cl pm cv ctv) ⟨[], []⟩ = pure []) ∧
      ∀ (A : Around) (outer : List Env) (s : Shared) (H : Hp) (E : XK) (f c' : Addr), Room k (A.deeper (LamX.lamEnv X scope s.heap.objs.size f c')) → A.guards = some [] → PE (LamX.lamCx X A outer s H E scope f c') body (tE Z E fun ρ M => C ρ n M)) :
    PE X (.Call (.Name "_law_heard" p) [ea] [] pos) (tE Z Eo (evE Fs C (.hear a))) := by
  refine PE.imp (pe_heardV (tb := fun n E => tE Z E fun ρ M => C ρ n M) hd hg gs hr hu (pa_cons ha pa_nil (star_one hu)) hq hc (fun n E σ H Q Q' h t => tE_mono h t) hl) fun σ H Q h => ?_
  obtain ⟨p, rfl, sp, z, hz, d⟩ := h
  unfold evE at hz
  refine sqE gdE sp hz d fun x m q v e1 via sq rx d1 => ?_
  have hr := e1
  split at hr
  · rename_i k hx
    have hx : x = .clo k := hx
    subst hx
    obtain ⟨f, c', ps, b, sc, rfl, h1, h2, h3⟩ := (rx.r sq.l).clo
    refine ⟨f, c', k, ps, b, sc, rfl, h1, h2, h3, fun CS eC t ht => ?_⟩
    obtain ⟨v1, s1⟩ := frz_all sq
    have s3 := Sim.new (o := .tup [.non, .non]) s1 ht
    have v3 : Via σ ⟨frzAll q.ρ, q.M, fun b => q.F b ∨ Own q.ρ σ b, q.φ, q.H⟩ ⟨frzAll q.ρ, q.M, fun b => q.F b ∨ Own q.ρ σ b, q.φ, upd q.H t (.tup [.non, .non])⟩ := ⟨post_new _ ht, Fz.refl _⟩
    have v4 := v1.trans sq v3
    have hr : heard (frzAll q.ρ) (C (frzAll q.ρ) k q.M) = some z := hr
    show tE Z (heE X.K CS Q) (fun ρ M => C ρ k M) σ _ _
    cases e : C (frzAll q.ρ) k q.M with
    | none => rw [e] at hr; cases hr
    | some y =>
      rw [e] at hr
      refine ⟨⟨frzAll q.ρ, q.M, fun b => q.F b ∨ Own q.ρ σ b, q.φ, upd q.H t (.tup [.non, .non])⟩, rfl, s3, y, e, ?_⟩
      cases y with
      | ok x =>
        obtain ⟨x1, x2, x3, x4⟩ := x
        intro q2 v e1 e2 y sy rep T hT
        cases e1
        cases e2
        have er := vl_some hr
        subst er
        obtain ⟨F', mo, nw, f, v5, s5, r5⟩ := give1 (q := q2) y s3 sy rep
        have d5 := d1.rebase sq (v4.trans sq v5)
        exact New.done (p := ⟨fz x2 q2.ρ, q2.M, F', q2.φ, q2.H⟩) (fr := false) (pair_new hT (.py .non) r5) s5 d5
      | er c v M =>
        have er := vl_some hr
        subst er
        intro q2 da po er
        refine ⟨eC c, da, rfl, fun ad na T hT => ?_⟩
        obtain ⟨v5, s5, r5⟩ := err_kept (p := ⟨frzAll q.ρ, q.M, fun b => q.F b ∨ Own q.ρ σ b, q.φ, upd q.H t (.tup [.non, .non])⟩) s3 po (fun b ⟨i, d, h, _⟩ => frz_no h) er na
        have d5 := d1.rebase sq (v4.trans sq v5)
        exact New.done (p := ⟨frzAll q.ρ, M, fun b => q2.F b ∨ b = ad, q2.φ, _⟩) (fr := false) (pair_new hT r5 (.py .non)) s5 d5
  · cases hr
end
end Ev

/-! A block's place; the check of terms. -/
namespace Ev
open L2 PyProof.Rows PySem PySem.Spec
abbrev Gam.inL (Γ : Gam) (sc : Scope) : Gam := { Γ with sc := sc, lv := Γ.lv - 2, lam := false }
/-- what the frame's own lambdas must do -/
def LamsOk (X : Cx) (Z : Zt) (Γ : Gam) (C : Nv → Clo) : Prop := Γ.lam = true → ∀ (n : Nat) (params : Arguments) (body : Expr) (scope : Scope), Z.lg n params body scope → LamX.LamS X.env.scope scope ∧
  (∀ (q : Str) (cl : List (Str × Addr)) (pm cv ctv : Value), bindArgs (PySem.W.kla_fn "<lambda>" q params body scope cl pm cv ctv) ⟨[], []⟩ = pure []) ∧
  ∀ (A : Around) (outer : List Env) (s : Shared) (H : Hp) (E : XK) (f c' : Addr), Room (Γ.lv - 2) (A.deeper (LamX.lamEnv X scope s.heap.objs.size f c')) → A.guards = some [] → PE (LamX.lamCx X A outer s H E scope f c') body (tE Z E fun ρ M => C ρ n M)
structure XOkC (X : Cx) (Z : Zt) (Γ : Gam) (Fs : List Fn) (Eo : XK) (C : Nv → Clo) : Prop extends XOk X Z Γ Fs Eo where
  hl : LamsOk X Z Γ C
instance {X : Cx} {Z : Zt} {Γ : Gam} {Fs : List Fn} {Eo : XK} {C : Nv → Clo} : CoeOut (XOkC X Z Γ Fs Eo C) (XOk X Z Γ Fs Eo) := ⟨fun h => h.toXOk⟩
abbrev Gam.at (Γ : Gam) (sc : Scope) : Gam := { Γ with sc := sc, lam := false }
section
variable {X : Cx} {Z : Zt} {Γ : Gam} {Fs : List Fn} {C : Nv → Clo} {Eo : XK}
theorem look_rel {env : Env} {x : Str} : ∀ {names : List (Str × NameKind)}, (names.map fun (n, k) => if (k == .free && env.scope.kind == .function && env.kindOf n == some .cell) then (n, NameKind.cell) else (n, k)).lookup x = (names.lookup x).map fun k => if (k == .free && env.scope.kind == .function && env.kindOf x == some .cell) = true then NameKind.cell else k
  | [] => rfl
  | (n, k) :: r => by
    have ih := look_rel (env := env) (x := x) (names := r)
    rw [List.map_cons]
    by_cases h : x = n
    · subst h
      by_cases c : (k == .free && env.scope.kind == .function && env.kindOf x == some .cell) = true
      · simp only [c, if_true, List.lookup_cons, beq_self_eq_true, Option.map_some]
      · simp only [c, if_false, List.lookup_cons, beq_self_eq_true, Option.map_some, Bool.false_eq_true]
    · have hb : (x == n) = false := by simp [h]
      by_cases c : (k == .free && env.scope.kind == .function && env.kindOf n == some .cell) = true
      · simp only [c, if_true, List.lookup_cons, hb]
        exact ih
      · simp only [c, if_false, List.lookup_cons, hb, Bool.false_eq_true]
        exact ih
theorem XOk.blk (ok : XOk X Z Γ Fs Eo) {scope : Scope} (hk : scope.kind = .function) (s : Shared) (H : Hp) (Ca : Addr) (cl : List (Str × Addr)) (fp : List Addr) : XOk (X.blk s H scope (compEnvC scope cl Ca X.env) fp) Z (Γ.at scope) Fs noX := by
  have lk : ∀ x, (compEnvC scope cl Ca X.env).scope.names.lookup x = (scope.names.lookup x).map fun k => if (k == .free && X.env.scope.kind == .function && X.env.kindOf x == some .cell) = true then NameKind.cell else k := fun x => look_rel
  have keep : ∀ x k, scope.names.lookup x = some k → k ≠ .free → (compEnvC scope cl Ca X.env).scope.names.lookup x = some k := fun x k h n => by
    rw [lk, h]
    have hb : (k == NameKind.free) = false := by simp [n]
    rw [Option.map_some, hb]
    rfl
  have fre : ∀ x, scope.names.lookup x = some .free → (compEnvC scope cl Ca X.env).scope.names.lookup x = some .cell ∨ (compEnvC scope cl Ca X.env).scope.names.lookup x = some .free := fun x h => by
    rw [lk, h, Option.map_some]
    split
    · exact .inl rfl
    · exact .inr rfl
  refine ⟨ok.hK, ok.calm, ok.hh, ok.hu, ok.hg, ok.hN, ok.nd, fun x h => ?_, fun x h => ?_, ?_, fun x h => ?_, ok.fl, fun x k h hk => ?_, fun x h => ?_, ok.gv, ok.room, ok.fns, pass_no, (fun h => nomatch h), (fun h => nomatch h), ok.er⟩
  · unfold visB at h
    simp only [Bool.or_eq_true, beq_iff_eq] at h
    rcases h with (h | h) | h
    · exact .inl (keep x _ h (by simp))
    · exact .inr (.inl (keep x _ h (by simp)))
    · exact .inr (fre x h)
  · rcases h with h | h
    · exact ⟨.inl (keep x _ h (by simp)), .inr (keep x _ h (by simp))⟩
    · exact ⟨.inr (keep x _ h (by simp)), .inl (by show (scope.names.lookup x == some NameKind.cell) = true; have h : scope.names.lookup x = some .cell := h; rw [h]; rfl)⟩
  · show (if (relabel scope X.env).kind.isAnnotationScope then ScopeKind.function else (relabel scope X.env).kind) = .function
    have e : (relabel scope X.env).kind = .function := hk
    rw [e]
    rfl
  · rcases h with h | h
    · exact .inl (keep x _ h (by simp))
    · exact fre x h
  · rcases hk with rfl | rfl
    · exact keep x _ h (by simp)
    · exact keep x _ h (by simp)
  · exact keep x _ h (by simp)
theorem blk_of (ok : XOk X Z Γ Fs Eo) {scope : Scope} {own : List (Str × Nat)} (h : BlkOk Γ.N Γ.sc scope own) : BlkOk X.N X.env.scope scope own := by
  rw [ok.hN]
  exact ⟨h.kind, h.uniq, h.ix, fun y hy e => ok.fr _ (h.free y hy e), h.own⟩
theorem lamS_of (ok : XOk X Z Γ Fs Eo) {scope : Scope} (h : LamX.lamSB Γ.sc scope = true) : LamX.LamS X.env.scope scope := by
  have L := LamX.lamS_by h
  exact ⟨L.kind, L.co, L.gen, L.own, fun y hy e => ok.fr _ (L.free y hy e)⟩
/-- inside a lambda -/
theorem XOk.lam (ok : XOk X Z Γ Fs Eo) {scope : Scope} (L : LamX.LamS X.env.scope scope) {A : Around} {outer : List Env} {s : Shared} {H : Hp} {E : XK} {f c' : Addr} (hr : Room (Γ.lv - 2) (A.deeper (LamX.lamEnv X scope s.heap.objs.size f c'))) (hg : A.guards = some []) :
    XOk (LamX.lamCx X A outer s H E scope f c') Z (Γ.inL scope) Fs E := by
  have own : ∀ x k, scope.names.lookup x = some k → k = .local ∨ k = .cell → False := fun x k h hk => by
    have w := L.own _ (PySem.mem_of_lookup h)
    rcases hk with hk | hk
    · exact w.1 hk
    · exact w.2 hk
  refine ⟨ok.hK, rfl, hr.hd, by have := hr.un; show (A.deeper _).units + 70 < cLine; omega, hg, ok.hN, ok.nd, fun x h => ?_, fun x h => ?_, ?_, fun x h => ?_, ok.fl, fun x k h hk => (own x k h hk).elim, fun x h => h, ok.gv, hr, ok.fns, ?_, (fun h => nomatch h), (fun h => nomatch h), ok.er⟩
  · unfold visB at h
    simp only [Bool.or_eq_true, beq_iff_eq] at h
    rcases h with (h | h) | h
    · exact .inl h
    · exact .inr (.inl h)
    · exact .inr (.inr h)
  · rcases h with h | h
    · exact (own x _ h (.inl rfl)).elim
    · exact (own x _ h (.inr rfl)).elim
  · show (if scope.kind.isAnnotationScope then ScopeKind.function else scope.kind) = .function
    rw [L.kind]
    rfl
  · exact h
  · exact passes_call (takes_of (E := E) rfl rfl rfl rfl) fun _ _ _ _ h => h
end
section
variable {X : Cx} {Z : Zt} {Γ : Gam} {Fs : List Fn} {C : Nv → Clo} {Eo : XK}
theorem XOkC.blkC (ok : XOkC X Z Γ Fs Eo C) {scope : Scope} (hk : scope.kind = .function) (s : Shared) (H : Hp) (Ca : Addr) (cl : List (Str × Addr)) (fp : List Addr) : XOkC (X.blk s H scope (compEnvC scope cl Ca X.env) fp) Z (Γ.at scope) Fs noX C := ⟨ok.toXOk.blk hk s H Ca cl fp, fun h => nomatch h⟩
theorem XOkC.lamC (ok : XOkC X Z Γ Fs Eo C) {scope : Scope} (L : LamX.LamS X.env.scope scope) {A : Around} {outer : List Env} {s : Shared} {H : Hp} {E : XK} {f c' : Addr} (hr : Room (Γ.lv - 2) (A.deeper (LamX.lamEnv X scope s.heap.objs.size f c'))) (hg : A.guards = some []) :
    XOkC (LamX.lamCx X A outer s H E scope f c') Z (Γ.inL scope) Fs E C := ⟨ok.toXOk.lam L hr hg, fun h => nomatch h⟩
end
/-! ### the check -/
/-- a lambda without parameters -/
def noArg : Arguments → Bool
  | ⟨[], [], none, [], [], none, []⟩ => true
  | _ => false
theorem noArg_ok {ps : Arguments} (h : noArg ps = true) : ps = ⟨[], [], none, [], [], none, []⟩ := by
  unfold noArg at h
  split at h
  · rfl
  · cases h
/-- a test that is looked at by its value -/
def plainT : Expr → Bool
  | .Name _ _ => true
  | .Call _ _ _ _ => true
  | .Subscript _ _ _ => true
  | .BinOp _ _ _ _ => true
  | .Tuple _ _ _ => true
  | .List _ _ => true
  | _ => false
mutual
def tstOk : Expr → Bool
  | .BoolOp _ es _ => tstAll es
  | .UnaryOp .Not e _ => tstOk e
  | .Compare _ _ _ _ => true
  | e => plainT e
def tstAll : List Expr → Bool
  | [] => true
  | e :: es => tstOk e && tstAll es
end
def noSetI : Expr → Bool
  | .Set _ _ _ => false
  | _ => true
theorem noSetI_ok {e : Expr} {env : Env} (h : noSetI e = true) : ∀ x, foldedSetIterable e env x = pure x := by
  cases e <;> first | (intro x; rfl) | cases h
def tupTg : Expr → Bool
  | .Tuple _ _ _ => true
  | _ => false
/-- a term whose field is read by its value -/
def nmB : Expr → Bool
  | .Subscript _ _ _ => true
  | .Name _ _ => true
  | _ => false
theorem nmB_ok {e : Expr} {env : Env} {n : Str} (h : nmB e = true) : attributeBase e n env (eval e env) = eval e env := by
  cases e <;> first | rfl | cases h
mutual
def ckE (Γ : Gam) : E → Expr → Bool
  | .no, _ => false
  | .lit p, e => litOk p e
  | .gli x i, e => (match e with
    | .Name y _ => decide (x = y) && glB Γ x (.int i)
    | _ => false)
  | .gls x s, e => (match e with
    | .Name y _ => decide (x = y) && glB Γ x (.str s)
    | _ => false)
  | .glf k, e => (match e with
    | .Name y _ => glB Γ y (.fn k)
    | _ => false)
  | .var i, e => (match e with
    | .Name y _ => varOk Γ i y
    | _ => false)
  | .tup es, e => (match e with
    | .Tuple as _ _ => ckL Γ es as
    | _ => false)
  | .lst es, e => (match e with
    | .List as _ => ckL Γ es as
    | _ => false)
  | .cell es, e => (match e with
    | .List as _ => ckL Γ es as
    | _ => false)
  | .bin o a b, e => (match e with
    | .BinOp x op y _ => decide (op = opE o) && ckE Γ a x && ckE Γ b y
    | _ => false)
  | .neg a, e => (match e with
    | .UnaryOp .USub x _ => ckE Γ a x
    | _ => false)
  | .not a, e => (match e with
    | .UnaryOp .Not x _ => ckE Γ a x
    | _ => false)
  | .bop k es, e => (match e with
    | .BoolOp o as _ => decide (o = if k = true then BoolOp.And else BoolOp.Or) && ckB Γ es as
    | _ => false)
  | .cmp a os es, e => (match e with
    | .Compare x ops as _ => ckE Γ a x && ckC Γ os es ops as
    | _ => false)
  | .ite c a b, e => (match e with
    | .IfExp t x y _ => tstOk t && ckE Γ c t && ckE Γ a x && ckE Γ b y
    | _ => false)
  | .ix a b, e => (match e with
    | .Subscript x y _ => noSlice y && ckE Γ a x && ckE Γ b y
    | _ => false)
  | .slc a lo hi, e => (match e with
    | .Subscript x (.Slice l h none _) _ => ckE Γ a x && (match l with
      | none => isNo lo
      | some y => !isNo lo && ckE Γ lo y) && (match h with
      | none => isNo hi
      | some y => !isNo hi && ckE Γ hi y)
    | _ => false)
  | .rev a, e => (match e with
    | .Subscript x (.Slice none none (some (.UnaryOp .USub (.Constant (.int 1) _ _) _)) _) _ => ckE Γ a x
    | _ => false)
  | .call k es, e => (match e with
    | .Call (.Name f _) (x :: xs) [] _ => glB Γ f (.fn k) && lvB Γ k && unst x && xs.all unst && ckL Γ es (x :: xs)
    | _ => false)
  | .bi b es, e => (match e with
    | .Call (.Name f _) (x :: xs) [] _ => decide (f = biN b) && glB Γ (biN b) .free && unst x && xs.all unst && ckL Γ es (x :: xs)
    | _ => false)
  | .attr a, e => (match e with
    | .Attribute x f _ => decide (f = valK) && decide (0 < Γ.nc) && nmB x && ckE Γ a x
    | _ => false)
  | .isi (.exc c) a, e => (match e with
    | .Call (.Name f _) [x, .Name g _] [] _ => decide (f = "isinstance") && decide (c < Γ.nc) && glB Γ "isinstance" .free && glB Γ g (.cls c) && unst x && ckE Γ a x
    | _ => false)
  | .isi .verr a, e => (match e with
    | .Call (.Name f _) [x, .Name g _] [] _ => decide (f = "isinstance") && decide (g = "ValueError") && decide (0 < Γ.nc) && glB Γ "isinstance" .free && glB Γ "ValueError" .free && unst x && ckE Γ a x
    | _ => false)
  | .isi t a, e => (match e, tyS t with
    | .Call (.Name f _) [x, .Name g _] [] _, some s => decide (f = "isinstance") && decide (g = tyB s) && glB Γ "isinstance" .free && glB Γ (tyB s) .free && unst x && ckE Γ a x
    | _, _ => false)
  | .comp own t src cond elt, e => (match e with
    | .ListComp x [⟨tg, it, ifs, as⟩] sc _ => decide (as = 0) && noSetI it && ckSrc Γ src tg it && blkC Γ.N Γ.sc sc own && (slotsT t).all (fun j => (own.map (·.2)).contains j) && ckT (Γ.at sc) t tg && (match ifs with
      | [] => isNo cond
      | [c] => !isNo cond && tstOk c && ckE (Γ.at sc) cond c
      | _ => false) && ckE (Γ.at sc) elt x
    | _ => false)
  | .lsrc src, e => (match src, e with
    | .rng1 b, .Call (.Name f _) [.Call (.Name g _) [y] [] _] [] _ => decide (f = "list") && decide (g = "range") && glB Γ "list" .free && glB Γ "range" .free && unst y && ckE Γ b y
    | .rng2 a b, .Call (.Name f _) [.Call (.Name g _) [x, y] [] _] [] _ => decide (f = "list") && decide (g = "range") && glB Γ "list" .free && glB Γ "range" .free && unst x && unst y && ckE Γ a x && ckE Γ b y
    | _, _ => false)
  | .cv ks f es, e => (match f, e with
    | .var i, .Call (.Name x _) (y :: ys) [] _ => ks.all (lvB Γ) && varOk Γ i x && unst y && ys.all unst && ckL Γ es (y :: ys)
    | _, _ => false)
  | .hearL a, e => (match e with
    | .Call (.Name f _) [.Lambda ⟨[], [], none, [], [], none, []⟩ body sc _] [] _ => decide (f = "_law_heard") && Γ.lam && decide (2 ≤ Γ.lv) && decide (Γ.sc.names.lookup ("_law_heard" : Str) = some .globalImplicit) && LamX.lamSB Γ.sc sc && ckE (Γ.inL sc) a body
    | _ => false)
  | .lam k, e => (match e with
    | .Lambda ps body sc _ => Γ.lam && noArg ps && LamX.lamSB Γ.sc sc && Γ.lk k ps body sc
    | _ => false)
  | .hear a, e => (match e with
    | .Call (.Name f _) [x] [] _ => decide (f = "_law_heard") && Γ.lam && decide (2 ≤ Γ.lv) && decide (Γ.sc.names.lookup ("_law_heard" : Str) = some .globalImplicit) && unst x && ckE Γ a x
    | _ => false)
  | .lset a, e => (match e with
    | .Call (.Name f _) [.Call (.Name g _) [x] [] _] [] _ => decide (f = "len") && decide (g = "set") && glB Γ "len" .free && glB Γ "set" .free && unst x && ckE Γ a x
    | _ => false)
  | .stuck, _ => true
  | _, _ => false
def ckL (Γ : Gam) : Es → List Expr → Bool
  | .nil, as => as.isEmpty
  | .cons s a es, as => (match as with
    | x :: xs => (if s = true then (match x with
        | .Starred y _ => ckE Γ a y
        | _ => false) else unst x && ckE Γ a x) && ckL Γ es xs
    | [] => false)
def ckB (Γ : Gam) : Es → List Expr → Bool
  | .nil, _ => false
  | .cons _ a es, as => (match es, as with
    | .nil, [x] => ckE Γ a x
    | .cons s b es, x :: y :: ys => ckE Γ a x && ckB Γ (.cons s b es) (y :: ys)
    | _, _ => false)
def ckC (Γ : Gam) (os : List Cm) : Es → List CmpOp → List Expr → Bool
  | .cons _ a es, ops, as => (match os, es, ops, as with
    | [o], .nil, [op], [x] => decide (op = cmE o) && noSet x && ckE Γ a x
    | [o, o'], .cons _ b .nil, [op, op'], [x, y] => decide (op = cmE o) && decide (op' = cmE o') && noSet y && ckE Γ a x && ckE Γ b y
    | _, _, _, _ => false)
  | .nil, _, _ => false
def ckSrc (Γ : Gam) : Src → Expr → Expr → Bool
  | .it a, _, e => ckE Γ a e
  | .rng1 b, _, e => (match e with
    | .Call (.Name f _) [y] [] _ => decide (f = "range") && glB Γ "range" .free && unst y && ckE Γ b y
    | _ => false)
  | .rng2 a b, _, e => (match e with
    | .Call (.Name f _) [x, y] [] _ => decide (f = "range") && glB Γ "range" .free && unst x && unst y && ckE Γ a x && ckE Γ b y
    | _ => false)
  | .rng3 a b c, _, e => (match e with
    | .Call (.Name f _) [x, y, z] [] _ => decide (f = "range") && glB Γ "range" .free && unst x && unst y && unst z && ckE Γ a x && ckE Γ b y && ckE Γ c z
    | _ => false)
  | .enu a, tg, e => (match tg, e with
    | .Tuple _ _ _, .Call (.Name f _) [x] [] _ => decide (f = "enumerate") && glB Γ "enumerate" .free && unst x && ckE Γ a x
    | _, _ => false)
  | .zip a b, tg, e => (match tg, e with
    | .Tuple _ _ _, .Call (.Name f _) [x, y] [] _ => decide (f = "zip") && glB Γ "zip" .free && unst x && unst y && ckE Γ a x && ckE Γ b y
    | _, _ => false)
end
end Ev

/-! Checked terms keep the evaluator's word. -/
namespace Ev
open L2 PyProof.Rows PySem PySem.Spec
section
variable {X : Cx} {Z : Zt} {Γ : Gam} {Fs : List Fn} {C : Nv → Clo} {Eo : XK}
theorem ba2 {a b : Bool} (h : (a && b) = true) : a = true ∧ b = true := Bool.and_eq_true_iff.mp h
theorem plain_is {e : Expr} {env : Env} (h : plainT e = true) : ∀ whole, isTrue e env whole = (do let v ← whole; standAt e.pos; holding [v] (truthy v)) := by
  cases e <;> first | (intro w; rfl) | cases h
/-- a term that is looked at by its value alone -/
theorem tst_val (hK : X.K = Z.K) {e : Expr} {f : Nv → Mem → RE} (he : PE X e (tE Z Eo f)) (hp : plainT e = true) : PT X e (tT Z Eo f) := pt_of hK he (plain_is hp)
theorem def_at (ok : XOk X Z Γ Fs Eo) {k : Nat} (h : lvB Γ k = true) : ∃ f, Fs[k]? = some f := by
  unfold lvB at h
  split at h
  · rename_i l e
    have h1 := (List.getElem?_eq_some_iff.mp e).1
    have h2 := ok.fl
    exact ⟨Fs[k]'(by omega), List.getElem?_eq_getElem (by omega)⟩
  · cases h
theorem litOk_tst {p : PyData} {e : Expr} (h : litOk p e = true) (ht : tstOk e = true) : False := by
  cases e <;> first
    | (cases p <;> cases h; done)
    | (cases ht; done)
theorem tIfs (hK : X.K = Z.K) : PTs X [] (tT Z Eo (evE Fs C .no)) := ⟨fun pins s σ H Q I q => pts_nil.run pins s σ H Q I (by
  obtain ⟨p, rfl, sp, r, hr, d⟩ := q
  unfold evE at hr
  rw [vl_some hr] at d
  obtain ⟨b, e, d⟩ := d
  have e : some true = some b := e
  cases e
  exact d p rfl rfl Via.refl sp)⟩
theorem opE_inj {o : Op2} {op : Operator} (h : op = opE o) : op = opE o := h
end
section
variable {Z : Zt} {Fs : List Fn} {C : Nv → Clo}
mutual
theorem sE : ∀ (a : E) {X : Cx} {Γ : Gam} {Eo : XK}, XOkC X Z Γ Fs Eo C → ∀ (e : Expr), ckE Γ a e = true → PE X e (tE Z Eo (evE Fs C a)) ∧ (tstOk e = true → PT X e (tT Z Eo (evE Fs C a)))
  | .no, _, _, _, ok, e, h => by unfold ckE at h; cases h
  | .lit p, _, _, _, ok, e, h => by
    unfold ckE at h
    exact ⟨s_lit h, fun ht => (litOk_tst h ht).elim⟩
  | .gli x i, X, Γ, Eo, ok, e, h => by
    unfold ckE at h
    split at h
    · rename_i y pos
      obtain ⟨h1, h2⟩ := ba2 h
      cases of_decide_eq_true h1
      have w := s_gli (pos := pos) (C := C) ok.toXOk h2
      exact ⟨w, fun ht => tst_val ok.hK w rfl⟩
    · cases h
  | .gls x s, X, Γ, Eo, ok, e, h => by
    unfold ckE at h
    split at h
    · rename_i y pos
      obtain ⟨h1, h2⟩ := ba2 h
      cases of_decide_eq_true h1
      have w := s_gls (pos := pos) (C := C) ok.toXOk h2
      exact ⟨w, fun ht => tst_val ok.hK w rfl⟩
    · cases h
  | .glf k, X, Γ, Eo, ok, e, h => by
    unfold ckE at h
    split at h
    · rename_i y pos
      have w := s_glf (pos := pos) (C := C) ok.toXOk h
      exact ⟨w, fun ht => tst_val ok.hK w rfl⟩
    · cases h
  | .var i, X, Γ, Eo, ok, e, h => by
    unfold ckE at h
    split at h
    · rename_i y pos
      have w := s_var (pos := pos) (Fs := Fs) (C := C) ok.toXOk h
      exact ⟨w, fun ht => tst_val ok.hK w rfl⟩
    · cases h
  | .tup es, X, Γ, Eo, ok, e, h => by
    unfold ckE at h
    split at h
    · rename_i as k pos
      have w := s_tup (k := k) (pos := pos) (sL es ok _ h)
      exact ⟨w, fun ht => tst_val ok.hK w rfl⟩
    · cases h
  | .lst es, X, Γ, Eo, ok, e, h => by
    unfold ckE at h
    split at h
    · rename_i as pos
      have w := s_lst (pos := pos) (sL es ok _ h)
      exact ⟨w, fun ht => tst_val ok.hK w rfl⟩
    · cases h
  | .cell es, X, Γ, Eo, ok, e, h => by
    unfold ckE at h
    split at h
    · rename_i as pos
      have w := s_cell (pos := pos) (sL es ok _ h)
      exact ⟨w, fun ht => tst_val ok.hK w rfl⟩
    · cases h
  | .bin o a b, X, Γ, Eo, ok, e, h => by
    unfold ckE at h
    split at h
    · rename_i x op y pos
      obtain ⟨h1, h3⟩ := ba2 h
      obtain ⟨h1, h2⟩ := ba2 h1
      cases of_decide_eq_true h1
      obtain ⟨r, o1, o2⟩ := s_op2 X Z o
      have w := s_bin (Eo := Eo) (pos := pos) o1 o2 (sE a ok _ h2).1 (sE b ok _ h3).1
      exact ⟨w, fun ht => tst_val ok.hK w rfl⟩
    · cases h
  | .neg a, X, Γ, Eo, ok, e, h => by
    unfold ckE at h
    split at h
    · exact ⟨s_neg (sE a ok _ h).1, fun ht => by cases ht⟩
    · cases h
  | .not a, X, Γ, Eo, ok, e, h => by
    unfold ckE at h
    split at h
    · exact ⟨s_not ok.hK (sE a ok _ h).1, fun ht => t_not ((sE a ok _ h).2 (by unfold tstOk at ht; exact ht))⟩
    · cases h
  | .bop k es, X, Γ, Eo, ok, e, h => by
    unfold ckE at h
    split at h
    · rename_i o as pos
      obtain ⟨h1, h2⟩ := ba2 h
      have e1 := of_decide_eq_true h1
      have hk : (k = true ∧ o = BoolOp.And) ∨ (k = false ∧ o = BoolOp.Or) := by
        cases k with
        | true => exact .inl ⟨rfl, e1⟩
        | false => exact .inr ⟨rfl, e1⟩
      obtain ⟨w1, w2⟩ := sB es ok k _ hk _ _ h2
      have e0 : evE Fs C (.bop k es) = evB Fs C k es := by
        funext ρ M
        unfold evE
        rfl
      rw [e0]
      refine ⟨?_, fun ht => ?_⟩
      · exact w1
      · exact (w2 (by unfold tstOk at ht; exact ht)).pt
    · cases h
  | .cmp a os es, X, Γ, Eo, ok, e, h => by
    unfold ckE at h
    split at h
    · obtain ⟨h1, h2⟩ := ba2 h
      exact sC es a os ok _ (sE a ok _ h1).1 _ _ _ h2
    · cases h
  | .ite c a b, X, Γ, Eo, ok, e, h => by
    unfold ckE at h
    split at h
    · obtain ⟨h1, h4⟩ := ba2 h
      obtain ⟨h1, h3⟩ := ba2 h1
      obtain ⟨h1, h2⟩ := ba2 h1
      exact ⟨s_ite ((sE c ok _ h2).2 h1) (sE a ok _ h3).1 (sE b ok _ h4).1, fun ht => by cases ht⟩
    · cases h
  | .ix a b, X, Γ, Eo, ok, e, h => by
    unfold ckE at h
    split at h
    · rename_i x y pos
      obtain ⟨h1, h3⟩ := ba2 h
      obtain ⟨h1, h2⟩ := ba2 h1
      have w := s_ix (pos := pos) ok.hK h1 (sE a ok _ h2).1 (sE b ok _ h3).1
      exact ⟨w, fun ht => tst_val ok.hK w rfl⟩
    · cases h
  | .slc a lo hi, X, Γ, Eo, ok, e, h => by
    unfold ckE at h
    split at h
    · rename_i x l hh p2 pos
      obtain ⟨h1, h3⟩ := ba2 h
      obtain ⟨h1, h2⟩ := ba2 h1
      have k1 : isNo lo = l.isNone ∧ ∀ y, l = some y → PE X y (tE Z Eo (evE Fs C lo)) := by
        cases l with
        | none => exact ⟨h2, fun y e => by cases e⟩
        | some y =>
          obtain ⟨g1, g2⟩ := ba2 h2
          exact ⟨by simpa using g1, fun y' e => by cases e; exact (sE lo ok _ g2).1⟩
      have k2 : isNo hi = hh.isNone ∧ ∀ y, hh = some y → PE X y (tE Z Eo (evE Fs C hi)) := by
        cases hh with
        | none => exact ⟨h3, fun y e => by cases e⟩
        | some y =>
          obtain ⟨g1, g2⟩ := ba2 h3
          exact ⟨by simpa using g1, fun y' e => by cases e; exact (sE hi ok _ g2).1⟩
      have w := s_slc (pos := pos) (p2 := p2) ok.hK k1.1 k2.1 (sE a ok _ h1).1 k1.2 k2.2
      exact ⟨w, fun ht => tst_val ok.hK w rfl⟩
    · cases h
  | .rev a, X, Γ, Eo, ok, e, h => by
    unfold ckE at h
    split at h
    · rename_i x k p1 p2 p3 pos
      have w := s_rev (k := k) (p1 := p1) (p2 := p2) (p3 := p3) (pos := pos) ok.hK (sE a ok _ h).1
      exact ⟨w, fun ht => tst_val ok.hK w rfl⟩
    · cases h
  | .call k es, X, Γ, Eo, ok, e, h => by
    unfold ckE at h
    split at h
    · rename_i f p x xs pos
      obtain ⟨h1, h5⟩ := ba2 h
      obtain ⟨h1, h4⟩ := ba2 h1
      obtain ⟨h1, h3⟩ := ba2 h1
      obtain ⟨h1, h2⟩ := ba2 h1
      obtain ⟨f, hf⟩ := def_at ok.toXOk h2
      have w := s_call (p := p) (pos := pos) ok.toXOk hf h2 h1 h3 h4 (sL es ok _ h5)
      exact ⟨w, fun ht => tst_val ok.hK w rfl⟩
    · cases h
  | .bi b es, X, Γ, Eo, ok, e, h => by
    unfold ckE at h
    split at h
    · rename_i f p x xs pos
      obtain ⟨h1, h5⟩ := ba2 h
      obtain ⟨h1, h4⟩ := ba2 h1
      obtain ⟨h1, h3⟩ := ba2 h1
      obtain ⟨h1, h2⟩ := ba2 h1
      cases of_decide_eq_true h1
      have w := s_biC (p := p) (pos := pos) ok.toXOk h2 h3 h4 (sL es ok _ h5)
      exact ⟨w, fun ht => tst_val ok.hK w rfl⟩
    · cases h
  | .isi (.exc c) a, X, Γ, Eo, ok, e, h => by
    unfold ckE at h
    split at h
    · rename_i f p x g p2 pos
      obtain ⟨h1, h6⟩ := ba2 h
      obtain ⟨h1, h5⟩ := ba2 h1
      obtain ⟨h1, h4⟩ := ba2 h1
      obtain ⟨h1, h3⟩ := ba2 h1
      obtain ⟨h1, h2⟩ := ba2 h1
      have e1 := of_decide_eq_true h1
      subst e1
      have lt := of_decide_eq_true h2
      have w := s_isE (p := p) (p2 := p2) (pos := pos) ok.toXOk (ok.er (Nat.lt_of_le_of_lt (Nat.zero_le _) lt)) lt h3 h4 h5 (sE a ok _ h6).1
      exact ⟨w, fun ht => tst_val ok.hK w rfl⟩
    · cases h
  | .isi .verr a, X, Γ, Eo, ok, e, h => by
    unfold ckE at h
    split at h
    · rename_i f p x g p2 pos
      obtain ⟨h1, h7⟩ := ba2 h
      obtain ⟨h1, h6⟩ := ba2 h1
      obtain ⟨h1, h5⟩ := ba2 h1
      obtain ⟨h1, h4⟩ := ba2 h1
      obtain ⟨h1, h3⟩ := ba2 h1
      obtain ⟨h1, h2⟩ := ba2 h1
      have e1 := of_decide_eq_true h1
      subst e1
      have e2 := of_decide_eq_true h2
      subst e2
      have w := s_isV (p := p) (p2 := p2) (pos := pos) ok.toXOk (ok.er (of_decide_eq_true h3)) h4 h5 h6 (sE a ok _ h7).1
      exact ⟨w, fun ht => tst_val ok.hK w rfl⟩
    · cases h
  | .isi .tup a, X, Γ, Eo, ok, e, h => by
    unfold ckE at h
    split at h
    · rename_i f p x g p2 pos s hs
      obtain ⟨h1, h6⟩ := ba2 h
      obtain ⟨h1, h5⟩ := ba2 h1
      obtain ⟨h1, h4⟩ := ba2 h1
      obtain ⟨h1, h3⟩ := ba2 h1
      obtain ⟨h1, h2⟩ := ba2 h1
      cases of_decide_eq_true h1
      cases of_decide_eq_true h2
      have w := s_isi (p := p) (p2 := p2) (pos := pos) ok.toXOk hs h3 h4 h5 (sE a ok _ h6).1
      exact ⟨w, fun ht => tst_val ok.hK w rfl⟩
    · cases h
  | .isi .int a, X, Γ, Eo, ok, e, h => by
    unfold ckE at h
    split at h
    · rename_i f p x g p2 pos s hs
      obtain ⟨h1, h6⟩ := ba2 h
      obtain ⟨h1, h5⟩ := ba2 h1
      obtain ⟨h1, h4⟩ := ba2 h1
      obtain ⟨h1, h3⟩ := ba2 h1
      obtain ⟨h1, h2⟩ := ba2 h1
      cases of_decide_eq_true h1
      cases of_decide_eq_true h2
      have w := s_isi (p := p) (p2 := p2) (pos := pos) ok.toXOk hs h3 h4 h5 (sE a ok _ h6).1
      exact ⟨w, fun ht => tst_val ok.hK w rfl⟩
    · cases h
  | .isi .bool a, X, Γ, Eo, ok, e, h => by
    unfold ckE at h
    split at h
    · rename_i f p x g p2 pos s hs
      obtain ⟨h1, h6⟩ := ba2 h
      obtain ⟨h1, h5⟩ := ba2 h1
      obtain ⟨h1, h4⟩ := ba2 h1
      obtain ⟨h1, h3⟩ := ba2 h1
      obtain ⟨h1, h2⟩ := ba2 h1
      cases of_decide_eq_true h1
      cases of_decide_eq_true h2
      have w := s_isi (p := p) (p2 := p2) (pos := pos) ok.toXOk hs h3 h4 h5 (sE a ok _ h6).1
      exact ⟨w, fun ht => tst_val ok.hK w rfl⟩
    · cases h
  | .isi .str a, X, Γ, Eo, ok, e, h => by
    unfold ckE at h
    split at h
    · rename_i f p x g p2 pos s hs
      obtain ⟨h1, h6⟩ := ba2 h
      obtain ⟨h1, h5⟩ := ba2 h1
      obtain ⟨h1, h4⟩ := ba2 h1
      obtain ⟨h1, h3⟩ := ba2 h1
      obtain ⟨h1, h2⟩ := ba2 h1
      cases of_decide_eq_true h1
      cases of_decide_eq_true h2
      have w := s_isi (p := p) (p2 := p2) (pos := pos) ok.toXOk hs h3 h4 h5 (sE a ok _ h6).1
      exact ⟨w, fun ht => tst_val ok.hK w rfl⟩
    · cases h
  | .isi .lst a, X, Γ, Eo, ok, e, h => by
    unfold ckE at h
    split at h
    · rename_i f p x g p2 pos s hs
      obtain ⟨h1, h6⟩ := ba2 h
      obtain ⟨h1, h5⟩ := ba2 h1
      obtain ⟨h1, h4⟩ := ba2 h1
      obtain ⟨h1, h3⟩ := ba2 h1
      obtain ⟨h1, h2⟩ := ba2 h1
      cases of_decide_eq_true h1
      cases of_decide_eq_true h2
      have w := s_isi (p := p) (p2 := p2) (pos := pos) ok.toXOk hs h3 h4 h5 (sE a ok _ h6).1
      exact ⟨w, fun ht => tst_val ok.hK w rfl⟩
    · cases h
  | .hearL a, X, Γ, Eo, ok, e, h => by
    unfold ckE at h
    split at h
    · rename_i f p body sc lpos pos
      obtain ⟨h1, h6⟩ := ba2 h
      obtain ⟨h1, h5⟩ := ba2 h1
      obtain ⟨h1, h4⟩ := ba2 h1
      obtain ⟨h1, h3⟩ := ba2 h1
      obtain ⟨h1, h2⟩ := ba2 h1
      have e1 := of_decide_eq_true h1
      subst e1
      have L := lamS_of ok.toXOk h5
      obtain ⟨hd, c, P, TB, hc, hm, hu⟩ := ok.lm h2
      have hr : Room ((Γ.lv - 2) + 2) X.A := by
        have h3 := of_decide_eq_true h3
        have e : Γ.lv - 2 + 2 = Γ.lv := by omega
        rw [e]
        exact ok.room
      have w := s_hearL (params := ⟨[], [], none, [], [], none, []⟩) (C := C) (Fs := Fs) (Eo := Eo) (a := a) (p := p) (lpos := lpos) (pos := pos) hd (ok.gl _ (of_decide_eq_true h4)) ok.hg TB hc hm hu hr L (by rfl) (fun _ _ _ _ _ => by rfl) (fun A outer s H E f c' hr2 hg => (sE a (ok.lamC L hr2 hg) _ h6).1)
      exact ⟨w, fun ht => tst_val ok.hK w rfl⟩
    · cases h
  | .comp own t src cond elt, X, Γ, Eo, ok, e, h => by
    unfold ckE at h
    split at h
    · rename_i x tg it ifs as sc pos
      obtain ⟨h1, h8⟩ := ba2 h
      obtain ⟨h1, h7⟩ := ba2 h1
      obtain ⟨h1, h6⟩ := ba2 h1
      obtain ⟨h1, h5⟩ := ba2 h1
      obtain ⟨h1, h4⟩ := ba2 h1
      obtain ⟨h1, h3⟩ := ba2 h1
      obtain ⟨h1, h2⟩ := ba2 h1
      cases of_decide_eq_true h1
      have B := blkOk_by h4
      have okb := fun (s : Shared) (H : Hp) (Ca : Addr) (cl : List (Str × Addr)) (fp : List Addr) => ok.blkC B.kind s H Ca cl fp
      have hsl : ∀ j ∈ slotsT t, j ∈ own.map (·.2) := fun j hj => by
        rw [List.all_eq_true] at h5
        exact List.contains_iff_mem.mp (h5 j hj)
      refine ⟨s_comp ok.toXOk (sSrc src ok tg it h3) (blk_of ok.toXOk B) hsl (fun s H Ca cl fp => s_tgt (okb s H Ca cl fp).toXOk t tg h6) (fun s H Ca cl fp => ?_) (fun s H Ca cl fp => (sE elt (okb s H Ca cl fp) _ h8).1) (noSetI_ok h2), fun ht => by cases ht⟩
      split at h7
      · have e : cond = .no := by
          revert h7
          cases cond <;> intro h <;> first | rfl | cases h
        subst e
        exact tIfs (okb s H Ca cl fp).hK
      · rename_i c
        obtain ⟨g1, g3⟩ := ba2 h7
        obtain ⟨g1, g2⟩ := ba2 g1
        exact pts_one ((sE cond (okb s H Ca cl fp) _ g3).2 g2)
      · cases h7
    · cases h
  | .lsrc src, X, Γ, Eo, ok, e, h => by
    unfold ckE at h
    split at h
    · rename_i b f p2 g p y pos pos2
      obtain ⟨h1, h6⟩ := ba2 h
      obtain ⟨h1, h5⟩ := ba2 h1
      obtain ⟨h1, h4⟩ := ba2 h1
      obtain ⟨h1, h3⟩ := ba2 h1
      obtain ⟨h1, h2⟩ := ba2 h1
      cases of_decide_eq_true h1
      cases of_decide_eq_true h2
      have w := s_lsr1 (p := p) (p2 := p2) (pos := pos) (pos2 := pos2) ok.toXOk h3 h4 h5 (sE b ok _ h6).1
      exact ⟨w, fun ht => tst_val ok.hK w rfl⟩
    · rename_i a b f p2 g p x y pos pos2
      obtain ⟨h1, h8⟩ := ba2 h
      obtain ⟨h1, h7⟩ := ba2 h1
      obtain ⟨h1, h6⟩ := ba2 h1
      obtain ⟨h1, h5⟩ := ba2 h1
      obtain ⟨h1, h4⟩ := ba2 h1
      obtain ⟨h1, h3⟩ := ba2 h1
      obtain ⟨h1, h2⟩ := ba2 h1
      cases of_decide_eq_true h1
      cases of_decide_eq_true h2
      have w := s_lsr2 (p := p) (p2 := p2) (pos := pos) (pos2 := pos2) ok.toXOk h3 h4 h5 h6 (sE a ok _ h7).1 (sE b ok _ h8).1
      exact ⟨w, fun ht => tst_val ok.hK w rfl⟩
    · cases h
  | .me m a es, X, Γ, Eo, ok, e, h => by unfold ckE at h; cases h
  | .attr a, X, Γ, Eo, ok, e, h => by
    unfold ckE at h
    split at h
    · rename_i x f pos
      obtain ⟨h1, h4⟩ := ba2 h
      obtain ⟨h1, h3⟩ := ba2 h1
      obtain ⟨h1, h2⟩ := ba2 h1
      have e1 := of_decide_eq_true h1
      subst e1
      exact ⟨s_attr (ok.er (of_decide_eq_true h2)) (nmB_ok h3) (sE a ok _ h4).1, fun ht => nomatch ht⟩
    · cases h
  | .hear a, X, Γ, Eo, ok, e, h => by
    unfold ckE at h
    split at h
    · rename_i f p x pos
      obtain ⟨h1, h6⟩ := ba2 h
      obtain ⟨h1, h5⟩ := ba2 h1
      obtain ⟨h1, h4⟩ := ba2 h1
      obtain ⟨h1, h3⟩ := ba2 h1
      obtain ⟨h1, h2⟩ := ba2 h1
      have e1 := of_decide_eq_true h1
      subst e1
      obtain ⟨hd, c, P, TB, hc, hm, hu⟩ := ok.lm h2
      obtain ⟨z1, z2, z3⟩ := ok.zl h2
      have hr : Room ((Γ.lv - 2) + 2) X.A := by
        have h3 := of_decide_eq_true h3
        have e : Γ.lv - 2 + 2 = Γ.lv := by omega
        rw [e]
        exact ok.room
      have w := s_hearV (C := C) (Fs := Fs) (Eo := Eo) (a := a) (p := p) (pos := pos) hd (ok.gl _ (of_decide_eq_true h4)) ok.hg hr h5 (sE a ok _ h6).1 z1 z2 (ok.hl h2)
      exact ⟨w, fun ht => tst_val ok.hK w rfl⟩
    · cases h
  | .lam k, X, Γ, Eo, ok, e, h => by
    unfold ckE at h
    split at h
    · rename_i ps body sc pos
      obtain ⟨h1, h5⟩ := ba2 h
      obtain ⟨h1, h4⟩ := ba2 h1
      obtain ⟨h2, h3⟩ := ba2 h1
      have e1 := noArg_ok h3
      subst e1
      obtain ⟨hd, c, P, TB, hc, hm, hu⟩ := ok.lm h2
      obtain ⟨z1, z2, z3⟩ := ok.zl h2
      exact ⟨s_lam TB hc hm hu (lamS_of ok.toXOk h4) (by rfl) z1 z2 (z3 _ _ _ _ h5), fun ht => nomatch ht⟩
    · cases h
  | .lset a, X, Γ, Eo, ok, e, h => by
    unfold ckE at h
    split at h
    · rename_i f p g p2 x q pos
      obtain ⟨h1, h6⟩ := ba2 h
      obtain ⟨h1, h5⟩ := ba2 h1
      obtain ⟨h1, h4⟩ := ba2 h1
      obtain ⟨h1, h3⟩ := ba2 h1
      obtain ⟨h1, h2⟩ := ba2 h1
      have e1 := of_decide_eq_true h1
      have e2 := of_decide_eq_true h2
      subst e1 e2
      have w := s_lset (p := p) (p2 := p2) (q := q) (pos := pos) ok.toXOk h3 h4 h5 (sE a ok _ h6).1
      exact ⟨w, fun ht => tst_val ok.hK w rfl⟩
    · cases h
  | .stuck, X, Γ, Eo, ok, e, h => ⟨⟨fun pins s σ H Q I h => by
      obtain ⟨p, rfl, sp, r, hr, d⟩ := h
      unfold evE at hr
      cases hr⟩, fun _ => ⟨fun pins s σ H Q I h => by
      obtain ⟨p, rfl, sp, r, hr, d⟩ := h
      unfold evE at hr
      cases hr⟩⟩
  | .cv ks f es, X, Γ, Eo, ok, e, h => by
    unfold ckE at h
    split at h
    · rename_i i x p y ys pos
      obtain ⟨h1, h5⟩ := ba2 h
      obtain ⟨h1, h4⟩ := ba2 h1
      obtain ⟨h1, h3⟩ := ba2 h1
      obtain ⟨h1, h2⟩ := ba2 h1
      have w := s_cv (p := p) (pos := pos) ok.toXOk h1 h2 h3 h4 (sL es ok _ h5)
      exact ⟨w, fun ht => tst_val ok.hK w rfl⟩
    · cases h
theorem sL : ∀ (es : Es) {X : Cx} {Γ : Gam} {Eo : XK}, XOkC X Z Γ Fs Eo C → ∀ (as : List Expr), ckL Γ es as = true → PA X as (tL Z Eo (evL Fs C es))
  | .nil, X, Γ, Eo, ok, as, h => by
    unfold ckL at h
    cases as with
    | nil => exact s_nil
    | cons _ _ => cases h
  | .cons s a es, X, Γ, Eo, ok, as, h => by
    unfold ckL at h
    cases as with
    | nil => cases h
    | cons x xs =>
      obtain ⟨h1, h2⟩ := ba2 h
      cases s with
      | false =>
        obtain ⟨g1, g2⟩ := ba2 (show (unst x && ckE Γ a x) = true from h1)
        exact s_cons g1 (sE a ok _ g2).1 (sL es ok _ h2)
      | true =>
        rw [if_pos rfl] at h1
        split at h1
        · exact s_star ok.hK (sE a ok _ h1).1 (sL es ok _ h2)
        · cases h1
theorem sB : ∀ (es : Es) {X : Cx} {Γ : Gam} {Eo : XK}, XOkC X Z Γ Fs Eo C → ∀ (k : Bool) (o : BoolOp), (k = true ∧ o = .And) ∨ (k = false ∧ o = .Or) → ∀ (as : List Expr) (pos : Pos), ckB Γ es as = true →
    PE X (.BoolOp o as pos) (tE Z Eo (evB Fs C k es)) ∧ (tstAll as = true → PW X (.BoolOp o as pos) (tT Z Eo (evB Fs C k es)))
  | .nil, X, Γ, Eo, ok, k, o, hk, as, pos, h => by unfold ckB at h; cases h
  | .cons s a .nil, X, Γ, Eo, ok, k, o, hk, as, pos, h => by
    unfold ckB at h
    split at h
    · exact ⟨s_bopN (sE a ok _ h).1, fun ht => t_bopN ((sE a ok _ h).2 (by unfold tstAll at ht; exact (ba2 ht).1))⟩
    · contradiction
    · cases h
  | .cons s a (.cons s' b es), X, Γ, Eo, ok, k, o, hk, as, pos, h => by
    unfold ckB at h
    split at h
    · contradiction
    · rename_i e1
      cases e1
      obtain ⟨h1, h2⟩ := ba2 h
      obtain ⟨w1, w2⟩ := sB (.cons s' b es) ok k o hk _ pos h2
      refine ⟨s_bop1 ok.hK hk (sE a ok _ h1).1 w1, fun ht => ?_⟩
      unfold tstAll at ht
      obtain ⟨t1, t2⟩ := ba2 ht
      exact t_bop1 hk ((sE a ok _ h1).2 t1) (w2 t2)
    · cases h
theorem sC : ∀ (es : Es) (a : E) (os : List Cm) {X : Cx} {Γ : Gam} {Eo : XK}, XOkC X Z Γ Fs Eo C → ∀ (x : Expr), PE X x (tE Z Eo (evE Fs C a)) → ∀ (ops : List CmpOp) (as : List Expr) (pos : Pos), ckC Γ os es ops as = true →
    PE X (.Compare x ops as pos) (tE Z Eo (evE Fs C (.cmp a os es))) ∧ (tstOk (.Compare x ops as pos) = true → PT X (.Compare x ops as pos) (tT Z Eo (evE Fs C (.cmp a os es))))
  | .nil, a, os, X, Γ, Eo, ok, x, hx, ops, as, pos, h => by unfold ckC at h; cases h
  | .cons s b es, a, os, X, Γ, Eo, ok, x, hx, ops, as, pos, h => by
    unfold ckC at h
    split at h
    · obtain ⟨h1, h3⟩ := ba2 h
      obtain ⟨h1, h2⟩ := ba2 h1
      cases of_decide_eq_true h1
      obtain ⟨r, c1, c2⟩ := s_cm X Z ok.hK (by have := ok.hu; omega) _
      exact ⟨s_cmp1 c1 c2 h2 hx (sE b ok _ h3).1, fun _ => t_cmp1 c1 c2 h2 hx (sE b ok _ h3).1⟩
    · obtain ⟨h1, h5⟩ := ba2 h
      obtain ⟨h1, h4⟩ := ba2 h1
      obtain ⟨h1, h3⟩ := ba2 h1
      obtain ⟨h1, h2⟩ := ba2 h1
      cases of_decide_eq_true h1
      cases of_decide_eq_true h2
      obtain ⟨r, c1, c2⟩ := s_cm X Z ok.hK (by have := ok.hu; omega) _
      obtain ⟨r', c1', c2'⟩ := s_cm X Z ok.hK (by have := ok.hu; omega) _
      exact ⟨s_cmp2 c1 c2 c1' c2' h3 hx (sE b ok _ h4).1 (sE _ ok _ h5).1, fun _ => t_cmp2 c1 c2 c1' c2' h3 hx (sE b ok _ h4).1 (sE _ ok _ h5).1⟩
    · cases h
theorem sSrc : ∀ (src : Src) {X : Cx} {Γ : Gam} {Eo : XK}, XOkC X Z Γ Fs Eo C → ∀ (tg e : Expr), ckSrc Γ src tg e = true → PI X tg e (iS Z Eo (evSrc Fs C src))
  | .it a, X, Γ, Eo, ok, tg, e, h => by
    unfold ckSrc at h
    exact s_srcIt ok.hK (sE a ok _ h).1
  | .rng1 b, X, Γ, Eo, ok, tg, e, h => by
    unfold ckSrc at h
    split at h
    · obtain ⟨h1, h4⟩ := ba2 h
      obtain ⟨h1, h3⟩ := ba2 h1
      obtain ⟨h1, h2⟩ := ba2 h1
      cases of_decide_eq_true h1
      exact s_rng1 ok.toXOk h2 h3 (sE b ok _ h4).1
    · cases h
  | .rng2 a b, X, Γ, Eo, ok, tg, e, h => by
    unfold ckSrc at h
    split at h
    · obtain ⟨h1, h6⟩ := ba2 h
      obtain ⟨h1, h5⟩ := ba2 h1
      obtain ⟨h1, h4⟩ := ba2 h1
      obtain ⟨h1, h3⟩ := ba2 h1
      obtain ⟨h1, h2⟩ := ba2 h1
      cases of_decide_eq_true h1
      exact s_rng2 ok.toXOk h2 h3 h4 (sE a ok _ h5).1 (sE b ok _ h6).1
    · cases h
  | .rng3 a b c, X, Γ, Eo, ok, tg, e, h => by
    unfold ckSrc at h
    split at h
    · obtain ⟨h1, h8⟩ := ba2 h
      obtain ⟨h1, h7⟩ := ba2 h1
      obtain ⟨h1, h6⟩ := ba2 h1
      obtain ⟨h1, h5⟩ := ba2 h1
      obtain ⟨h1, h4⟩ := ba2 h1
      obtain ⟨h1, h3⟩ := ba2 h1
      obtain ⟨h1, h2⟩ := ba2 h1
      cases of_decide_eq_true h1
      exact s_rng3 ok.toXOk h2 h3 h4 h5 (sE a ok _ h6).1 (sE b ok _ h7).1 (sE c ok _ h8).1
    · cases h
  | .enu a, X, Γ, Eo, ok, tg, e, h => by
    unfold ckSrc at h
    split at h
    · obtain ⟨h1, h4⟩ := ba2 h
      obtain ⟨h1, h3⟩ := ba2 h1
      obtain ⟨h1, h2⟩ := ba2 h1
      cases of_decide_eq_true h1
      exact s_srcEn ok.toXOk h2 h3 (sE a ok _ h4).1
    · cases h
  | .zip a b, X, Γ, Eo, ok, tg, e, h => by
    unfold ckSrc at h
    split at h
    · obtain ⟨h1, h6⟩ := ba2 h
      obtain ⟨h1, h5⟩ := ba2 h1
      obtain ⟨h1, h4⟩ := ba2 h1
      obtain ⟨h1, h3⟩ := ba2 h1
      obtain ⟨h1, h2⟩ := ba2 h1
      cases of_decide_eq_true h1
      exact s_srcZp ok.toXOk h2 h3 h4 (sE a ok _ h5).1 (sE b ok _ h6).1
    · cases h
end
end
end Ev

/-! Checked statements. -/
namespace Ev
open L2 PyProof.Rows PySem PySem.Spec
def isLC : Expr → Option (Scope × Pos)
  | .ListComp _ _ sc pos => some (sc, pos)
  | _ => none
def ckPar (Γ : Gam) (is : List Nat) (es : List Expr) (vs : List Expr) : Bool := match is, es with
  | [i, j], [.Name x px, .Name y py] => vs.length == 2 && locB Γ i x && locB Γ j y && decide (i ≠ j) && parOk Γ [(x, px), (y, py)] vs
  | [i, j, l], [.Name x px, .Name y py, .Name z pz] => vs.length == 3 && locB Γ i x && locB Γ j y && locB Γ l z && decide (i ≠ j) && decide (i ≠ l) && decide (j ≠ l) && parOk Γ [(x, px), (y, py), (z, pz)] vs
  | _, _ => false
mutual
def ckS (Γ : Gam) (rz : List Nat) : S → Stmt → Bool
  | .asg t a, s => (match t, s with
    | .nm i, .Assign [.Name x px] v pos => locB Γ i x && (match isLC v with
      | none => noComp v
      | some _ => true) && ckE Γ a v
    | .tp ts, .Assign [.Tuple es k tp] v pos => ckT Γ (.tp ts) (.Tuple es k tp) && plainV Γ es v && ckE Γ a v
    | _, _ => false)
  | .par is as, s => (match s with
    | .Assign [.Tuple es k tp] (.Tuple vs k2 p2) pos => ckPar Γ is es vs && ckL Γ as vs
    | _ => false)
  | .set i b a, s => (match s with
    | .Assign [.Subscript (.Name x px) ix sp] v pos => varOk Γ i x && noSlice ix && ckE Γ a v && ckE Γ b ix
    | _ => false)
  | .app i a, s => (match s with
    | .Expr (.Call (.Attribute (.Name x px) m ap) [y] [] cp) pos => decide (m = "append") && varOk Γ i x && unst y && (ap.endLine == cp.line) && ckE Γ a y
    | _ => false)
  | .ext i a, s => (match s with
    | .Expr (.Call (.Attribute (.Name x px) m ap) [y] [] cp) pos => decide (m = "extend") && varOk Γ i x && unst y && (ap.endLine == cp.line) && ckE Γ a y
    | _ => false)
  | .ex a, s => (match s with
    | .Expr v pos => noComp v && ckE Γ a v
    | _ => false)
  | .ret a, s => (match s with
    | .Return (some v) pos => ckE Γ a v
    | _ => false)
  | .retn, s => (match s with
    | .Return none pos => true
    | _ => false)
  | .ifs c a b, s => (match s with
    | .If t x y pos => tstOk t && ckE Γ c t && ckSs Γ rz a x && ckSs Γ rz b y
    | _ => false)
  | .for_ t src body, s => (match s with
    | .For tg it bs [] pos => noSetI it && ckSrc Γ src tg it && ckT Γ t tg && ckSs Γ rz body bs
    | _ => false)
  | .whl c body, s => (match s with
    | .While t bs [] pos => tstOk t && ckE Γ c t && ckSs Γ rz body bs
    | _ => false)
  | .rai c a, s => (match s with
    | .Raise (some (.Call (.Name x p1) [y] [] p2)) none pos => rz.contains c && glB Γ x (.cls c) && unst y && ckE Γ a y
    | _ => false)
  | .pas, s => (match s with
    | .Pass pos => true
    | _ => false)
  | .brk, s => (match s with
    | .Break pos => true
    | _ => false)
  | .cnt, s => (match s with
    | .Continue pos => true
    | _ => false)
  | .stuck, _ => true
  | _, _ => false
def ckSs (Γ : Gam) (rz : List Nat) : Ss → List Stmt → Bool
  | .nil, ss => ss.isEmpty
  | .cons a as, ss => (match ss with
    | s :: ss => ckS Γ rz a s && ckSs Γ rz as ss
    | [] => false)
end
section
variable {Z : Zt} {Γ : Gam} {Fs : List Fn} {C : Nv → Clo} {Eo : XK} {F0 : Addr → Prop} {φ0 : List Addr} {rz : List Nat} {X : Cx}
theorem okC (xs : XSt X Z Γ Fs Eo rz) (hC : LamsOk X Z Γ C) : XOkC X Z Γ Fs Eo C := ⟨xs.ok, hC⟩
theorem ps_none {s : Stmt} {g : Nv → Mem → RS} (h : ∀ ρ M, g ρ M = none) : PS X s (tS Z Eo F0 φ0 g) := ⟨fun pins s σ H D I w => by
  obtain ⟨p, _, _, r, hr, _⟩ := w
  rw [h] at hr
  cases hr⟩
/-- name = [..] -/
theorem s_asgC {i : Nat} {a : E} {x : Str} {px spos : Pos} {v : Expr} {sc : Scope} {vp : Pos} (ok : XOkC X Z Γ Fs Eo C) (hl : locB Γ i x = true) (hv : isLC v = some (sc, vp)) (h : ckE Γ a v = true) : PS X (.Assign [.Name x px] v spos) (tS Z Eo F0 φ0 (evS Fs C (.asg (.nm i) a))) := by
  have hloc : Γ.sc.names.lookup x = some .local ∨ Γ.sc.names.lookup x = some .cell := by
    unfold locB at hl
    simp only [Bool.and_eq_true, Bool.or_eq_true, decide_eq_true_eq] at hl
    exact hl.2
  have hpe := (sE (C := C) a ok v h).1
  unfold isLC at hv
  split at hv
  · rename_i elt gens sc' pos
    cases hv
    cases hsw : swB Γ sc x px.line vp.line with
    | false => exact s_asgN ok.toXOk hl (by rw [sw_lc ok.toXOk hloc, hsw]) hpe
    | true =>
      cases a with
      | comp own t src cond el =>
        unfold ckE at h
        split at h
        · rename_i x' tg it ifs as sc' pos' e
          cases e
          obtain ⟨h1, h8⟩ := ba2 h
          obtain ⟨h1, h7⟩ := ba2 h1
          obtain ⟨h1, h6⟩ := ba2 h1
          obtain ⟨h1, h5⟩ := ba2 h1
          obtain ⟨h1, h4⟩ := ba2 h1
          obtain ⟨h1, h3⟩ := ba2 h1
          obtain ⟨h1, h2⟩ := ba2 h1
          cases of_decide_eq_true h1
          have B := blkOk_by h4
          have okb := fun (s : Shared) (H : Hp) (Ca : Addr) (cl : List (Str × Addr)) (fp : List Addr) => ok.blkC B.kind s H Ca cl fp
          have hsl : ∀ j ∈ slotsT t, j ∈ own.map (·.2) := fun j hj => by
            rw [List.all_eq_true] at h5
            exact List.contains_iff_mem.mp (h5 j hj)
          refine s_asgL ok.toXOk hl hsw (sSrc src ok tg it h3) (blk_of ok.toXOk B) hsl (fun s H Ca cl fp => s_tgt (okb s H Ca cl fp).toXOk t tg h6) (fun s H Ca cl fp => ?_) (fun s H Ca cl fp => (sE el (okb s H Ca cl fp) _ h8).1) (noSetI_ok h2)
          split at h7
          · have e : cond = .no := by
              revert h7
              cases cond <;> intro h <;> first | rfl | cases h
            subst e
            exact tIfs (okb s H Ca cl fp).hK
          · rename_i c
            obtain ⟨g1, g3⟩ := ba2 h7
            obtain ⟨g1, g2⟩ := ba2 g1
            exact pts_one ((sE cond (okb s H Ca cl fp) _ g3).2 g2)
          · cases h7
        · cases h
      | lit p =>
        unfold ckE at h
        cases p <;> cases h
      | slc _ _ _ => unfold ckE at h; cases h
      | isi t a =>
        unfold ckE at h
        cases t <;> cases h
      | cv ks f es =>
        unfold ckE at h
        cases f <;> cases h
      | lsrc src =>
        unfold ckE at h
        cases src <;> cases h
      | stuck =>
        exact ps_none fun ρ M => by
          unfold evS evE
          rfl
      | _ => unfold ckE at h; cases h
  · cases hv
mutual
theorem sS (xs : XSt X Z Γ Fs Eo rz) (hC : LamsOk X Z Γ C) : ∀ (a : S) (s : Stmt), ckS Γ rz a s = true → PS X s (tS Z Eo F0 φ0 (evS Fs C a))
  | .asg t a, s, h => by
    unfold ckS at h
    split at h
    · rename_i i x px v pos
      obtain ⟨h1, h3⟩ := ba2 h
      obtain ⟨h1, h2⟩ := ba2 h1
      split at h2
      · exact s_asgN xs.ok h1 (noComp_sw h2) (sE a (okC xs hC) _ h3).1
      · rename_i q hq
        exact s_asgC (okC xs hC) h1 hq h3
    · obtain ⟨h1, h3⟩ := ba2 h
      obtain ⟨h1, h2⟩ := ba2 h1
      exact s_asgT xs.ok h1 h2 (sE a (okC xs hC) _ h3).1
    · cases h
  | .par is as, s, h => by
    unfold ckS at h
    split at h
    · rename_i es k tp vs k2 p2 pos
      obtain ⟨h1, h2⟩ := ba2 h
      unfold ckPar at h1
      split at h1
      · obtain ⟨h1, g5⟩ := ba2 h1
        obtain ⟨h1, g4⟩ := ba2 h1
        obtain ⟨h1, g3⟩ := ba2 h1
        obtain ⟨g1, g2⟩ := ba2 h1
        match vs, beq_iff_eq.mp g1 with
        | [a, b], _ => exact s_par2 (pt2 := p2) xs.ok g2 g3 (of_decide_eq_true g4) g5 (sL as (okC xs hC) _ h2)
      · obtain ⟨h1, g8⟩ := ba2 h1
        obtain ⟨h1, g7⟩ := ba2 h1
        obtain ⟨h1, g6⟩ := ba2 h1
        obtain ⟨h1, g5⟩ := ba2 h1
        obtain ⟨h1, g4⟩ := ba2 h1
        obtain ⟨h1, g3⟩ := ba2 h1
        obtain ⟨g1, g2⟩ := ba2 h1
        match vs, beq_iff_eq.mp g1 with
        | [a, b, c], _ => exact s_par3 (pt2 := p2) xs.ok g2 g3 g4 (of_decide_eq_true g5) (of_decide_eq_true g6) (of_decide_eq_true g7) g8 (sL as (okC xs hC) _ h2)
      · cases h1
    · cases h
  | .set i b a, s, h => by
    unfold ckS at h
    split at h
    · obtain ⟨h1, h4⟩ := ba2 h
      obtain ⟨h1, h3⟩ := ba2 h1
      obtain ⟨h1, h2⟩ := ba2 h1
      exact s_set xs.ok h1 h2 (sE a (okC xs hC) _ h3).1 (sE b (okC xs hC) _ h4).1
    · cases h
  | .app i a, s, h => by
    unfold ckS at h
    split at h
    · obtain ⟨h1, h5⟩ := ba2 h
      obtain ⟨h1, h4⟩ := ba2 h1
      obtain ⟨h1, h3⟩ := ba2 h1
      obtain ⟨h1, h2⟩ := ba2 h1
      cases of_decide_eq_true h1
      exact s_app xs.ok h2 h3 h4 (sE a (okC xs hC) _ h5).1
    · cases h
  | .ext i a, s, h => by
    unfold ckS at h
    split at h
    · obtain ⟨h1, h5⟩ := ba2 h
      obtain ⟨h1, h4⟩ := ba2 h1
      obtain ⟨h1, h3⟩ := ba2 h1
      obtain ⟨h1, h2⟩ := ba2 h1
      cases of_decide_eq_true h1
      exact s_ext xs.ok h2 h3 h4 (sE a (okC xs hC) _ h5).1
    · cases h
  | .pop t i e, s, h => by unfold ckS at h; cases h
  | .appPop j i e, s, h => by unfold ckS at h; cases h
  | .ex a, s, h => by
    unfold ckS at h
    split at h
    · obtain ⟨h1, h2⟩ := ba2 h
      exact s_ex h1 (sE a (okC xs hC) _ h2).1
    · cases h
  | .ret a, s, h => by
    unfold ckS at h
    split at h
    · exact s_ret (sE a (okC xs hC) _ h).1
    · cases h
  | .retn, s, h => by
    unfold ckS at h
    split at h
    · exact s_retn
    · cases h
  | .ifs c a b, s, h => by
    unfold ckS at h
    split at h
    · obtain ⟨h1, h4⟩ := ba2 h
      obtain ⟨h1, h3⟩ := ba2 h1
      obtain ⟨h1, h2⟩ := ba2 h1
      exact s_ifs ((sE c (okC xs hC) _ h2).2 h1) (sSs xs hC a _ h3) (sSs xs hC b _ h4)
    · cases h
  | .for_ t src body, s, h => by
    unfold ckS at h
    split at h
    · obtain ⟨h1, h4⟩ := ba2 h
      obtain ⟨h1, h3⟩ := ba2 h1
      obtain ⟨h1, h2⟩ := ba2 h1
      exact s_for xs (sSrc src (okC xs hC) _ _ h2) (s_tgt xs.ok t _ h3) (sSs xs hC body _ h4) (noSetI_ok h1)
    · cases h
  | .whl c body, s, h => by
    unfold ckS at h
    split at h
    · obtain ⟨h1, h3⟩ := ba2 h
      obtain ⟨h1, h2⟩ := ba2 h1
      exact s_whl xs ((sE c (okC xs hC) _ h2).2 h1) (sSs xs hC body _ h3)
    · cases h
  | .rai c a, s, h => by
    unfold ckS at h
    split at h
    · obtain ⟨h1, h4⟩ := ba2 h
      obtain ⟨h1, h3⟩ := ba2 h1
      obtain ⟨h1, h2⟩ := ba2 h1
      exact s_rai xs (List.contains_iff_mem.mp h1) h2 h3 (sE a (okC xs hC) _ h4).1
    · cases h
  | .stuck, s, h => ps_none fun ρ M => by
    unfold evS
    rfl
  | .pas, s, h => by
    unfold ckS at h
    split at h
    · exact s_pas
    · cases h
  | .brk, s, h => by
    unfold ckS at h
    split at h
    · exact s_brk
    · cases h
  | .cnt, s, h => by
    unfold ckS at h
    split at h
    · exact s_cnt
    · cases h
theorem sSs (xs : XSt X Z Γ Fs Eo rz) (hC : LamsOk X Z Γ C) : ∀ (as : Ss) (ss : List Stmt), ckSs Γ rz as ss = true → PSs X ss (tS Z Eo F0 φ0 (evSs Fs C as))
  | .nil, ss, h => by
    unfold ckSs at h
    cases ss with
    | nil => exact s_snil
    | cons _ _ => cases h
  | .cons a as, ss, h => by
    unfold ckSs at h
    cases ss with
    | nil => cases h
    | cons s ss =>
      obtain ⟨h1, h2⟩ := ba2 h
      exact s_scons (sS xs hC a s h1) (sSs xs hC as ss h2)
end
end
/-- the check of a frame's own lambdas -/
def lkOf (Γ : Gam) (lams : List E) (k : Nat) (ps : Arguments) (b : Expr) (sc : Scope) : Bool := noArg ps && LamX.lamSB Γ.sc sc && (match lams[k]? with
  | some e => ckE (Γ.inL sc) e b
  | none => false)
def gam0 (N : List Str) (sc : Scope) (G : List (Str × Gv)) (lv : Nat) (lvl : List Nat) (lam : Bool) (nc : Nat) : Gam := ⟨N, sc, G, lv, lvl, lam, nc, fun _ _ _ _ => false⟩
/-- a def's place -/
def gamD (N : List Str) (sc : Scope) (G : List (Str × Gv)) (lv : Nat) (lvl : List Nat) (lam : Bool) (nc : Nat) (lams : List E) : Gam := ⟨N, sc, G, lv, lvl, lam, nc, lkOf (gam0 N sc G lv lvl lam nc) lams⟩
end Ev

/-! Defs. -/
namespace Ev
open L2 PyProof.Rows PySem PySem.Spec
/-- the same but for the entry's heap -/
structure SameZ (Z Z' : Zt) : Prop where
  K : Z.K = Z'.K
  fa : Z.fa = Z'.fa
  ca : Z.ca = Z'.ca
  T : Z.T = Z'.T
theorem SameZ.symm {Z Z' : Zt} (e : SameZ Z Z') : SameZ Z' Z := ⟨e.K.symm, e.fa.symm, e.ca.symm, e.T.symm⟩
/-- a def's own frame -/
abbrev Zt.own (Z : Zt) (H : Hp) (q : Str) (cl : List (Str × Addr)) (lg : Nat → Arguments → Expr → Scope → Prop) : Zt := { Z with H0 := H, lq := q, lcl := cl, lg := lg }
theorem sameZ (Z : Zt) (H : Hp) (q : Str) (cl : List (Str × Addr)) (lg : Nat → Arguments → Expr → Scope → Prop) : SameZ Z (Z.own H q cl lg) := ⟨rfl, rfl, rfl, rfl⟩
section
variable {Z Z' : Zt} {F F' : Addr → Prop} {φ φ' : List Addr} {H H' : Hp}
mutual
theorem Rep.z (e : SameZ Z Z') : ∀ {v : V} {d : Ev.D}, Rep Z.bare F φ H v d → Rep Z'.bare F φ H v d
  | _, _, .py h => .py h
  | _, _, .mt h1 h2 => .mt h1 (Reps.z e h2)
  | _, _, .ml h1 h2 h3 => .ml h1 h2 (Reps.z e h3)
  | _, _, .fn k => by
    show Rep Z'.bare F φ H (.ref (Z.fa k)) (.fn k)
    rw [e.fa]
    exact .fn (Z := Z'.bare) k
  | _, _, .exc h1 h2 h3 h4 h5 => .exc h1 h2 (by show H _ = some (ExV (.ref (Z'.ca _)) _ _); rw [← e.ca]; exact h3) h4 h5
  | _, _, .cel h => .cel h
  | _, _, .clo h _ _ => False.elim h
  | _, _, .scr (ns := ns) (a := a) h => .scr (by
    show (∃ o, H a = some (.frz o (.lst (ns.map V.int)))) ∨ (F a ∧ H a = some (.lst (ns.map V.int))) ∨ SqL Z'.K (fun _ => none) a (ns.map V.int)
    rw [← e.K]
    exact h)
theorem Reps.z (e : SameZ Z Z') : ∀ {vs : List V} {ds : List Ev.D}, Reps Z.bare F φ H vs ds → Reps Z'.bare F φ H vs ds
  | _, _, .nil => .nil
  | _, _, .cons h1 h2 => .cons (Rep.z e h1) (Reps.z e h2)
end
theorem OwnR.z (e : SameZ Z Z') {a : Addr} : ∀ {d : Ev.D}, OwnR Z.bare F φ H a d → OwnR Z'.bare F φ H a d
  | .py (.list _), h => h
  | .ml _, h => let ⟨vs, h1, r⟩ := h; ⟨vs, h1, r.z e⟩
  | .py .none, h => h.elim
  | .py (.bool _), h => h.elim
  | .py (.int _), h => h.elim
  | .py (.str _), h => h.elim
  | .py (.tuple _), h => h.elim
  | .py (.dict _), h => h.elim
  | .mt _, h => h.elim
  | .fn _, h => h.elim
  | .exc _ _, h => h.elim
  | .cel _, h => h.elim
  | .clo _, h => h.elim
  | .scr _, h => h.elim
theorem GSim.z {M : Mem} (e : SameZ Z Z') (g : GSim Z.bare M F φ H) : GSim Z'.bare M F φ H := ⟨g.dom, g.len, g.cell, g.nd, by show LamX.Tabs Z'.T H; rw [← e.T]; exact g.tab⟩
theorem RepO.z {H0 : Hp} {fr : Bool} {v : V} {d : Ev.D} (e : SameZ Z Z') (r : RepO Z.bare H0 F φ H fr v d) : RepO Z'.bare H0 F φ H fr v d := by
  unfold RepO at r ⊢
  split
  · rename_i h
    rw [if_pos h] at r
    obtain ⟨a, h1, h2, h3⟩ := r
    exact ⟨a, h1, h2.z e, h3⟩
  · rename_i h
    rw [if_neg h] at r
    exact r.z e
theorem Err.z {c : Nat} {v : PyData} {M : Mem} {q : Pt} {da : Addr} (e : SameZ Z Z') (r : Err Z.bare c v M q da) : Err Z'.bare c v M q da := ⟨r.g.z e, r.fd, r.at_⟩
theorem DoneF.z {Q : VK} {E : XK} {r : Rz Ov} (e : SameZ Z Z') (d : DoneF Z.bare F φ H Q E r) : DoneF Z'.bare F φ H Q E r := by
  cases r with
  | ok o => exact fun F' φ' H' v po g ro => d F' φ' H' v po (g.z e.symm) (ro.z e.symm)
  | er c v M =>
    intro q da po er
    have w : E (.ref (Z.ca c)) (some da) q.H := d q da po (er.z e.symm)
    show E (.ref (Z'.ca c)) (some da) q.H
    rw [← e.ca]
    exact w
theorem spF_z {f : Fn} {vs : List V} {Q : VK} {E : XK} (e : SameZ Z Z') (h : spF Z f vs H Q E) : spF Z' f vs H Q E := by
  obtain ⟨ds, M, F, φ, g, r, z, h1, d⟩ := h
  exact ⟨ds, M, F, φ, g.z e, r.z e, z, h1, d.z e⟩
end
theorem FnX.z {P : Program} {w : World} {K : PySem.W.Frag} {mg : Str → Option Value} {base : Heap} {Z Z' : Zt} {l k : Nat} {f : Fn} (e : SameZ Z Z') (F : FnX P w K mg base Z l k f) : FnX P w K mg base Z' l k f := by
  obtain ⟨⟨fd, ps, G, hb⟩, kp⟩ := F
  refine ⟨⟨fd, ps, ⟨fun vs H Q E h => G.len vs H Q E (spF_z e.symm h), fun A outer s H args us vs Q E hr hg he hbd hv hs => ?_⟩, hb⟩, by rw [← e.fa]; exact kp⟩
  rw [← e.fa]
  exact G.run A outer s H args us vs Q E hr hg he hbd hv (spF_z e.symm hs)
/-- what is told of a module's name -/
def GvOk (mg : Str → Option Value) (Z : Zt) (x : Str) : Gv → Prop
  | .int i => ∃ t, mg x = some (.int i t)
  | .str s => ∃ t, mg x = some (.str s t)
  | .fn k => mg x = some (.ref (Z.fa k))
  | .cls c => mg x = some (.ref (Z.ca c))
  | .free => mg x = none
/-- the module as it stands behind the top -/
structure Modu (P : Program) (w : World) (K : PySem.W.Frag) (mg : Str → Option Value) (base : Heap) (Z : Zt) (G : List (Str × Gv)) (rz : List Nat) (li nc : Nat) : Prop where
  hK : K = Z.K
  gv : ∀ x g, G.lookup x = some g → GvOk mg Z x g
  rz : ∀ c ∈ rz, Raz P w K mg base (Z.ca c) li
  er : 0 < nc → ErrD K Z nc
section
variable {P : Program} {w : World} {K : PySem.W.Frag} {mg : Str → Option Value} {base : Heap} {Z : Zt} {G : List (Str × Gv)} {rz : List Nat} {li nc : Nat}
theorem start_sim {N : List Str} {ds : List Ev.D} {vs : List V} {M : Mem} {F : Addr → Prop} {φ : List Addr} {H : Hp} (Zo : Zt) (e : SameZ Z Zo) (e0 : Zo.H0 = H) (g : GSim Z.bare M F φ H) (r : Reps Z.bare F φ H vs ds) (hl : ds.length ≤ N.length) : Sim Zo (startN N.length ds) M F φ (L2.start N vs) H := by
  have lv := r.len
  have at_ : ∀ (i : Nat) (d : Ev.D) (fl : Bool), (startN N.length ds)[i]? = some (some (d, fl)) → ds[i]? = some d ∧ fl = false := fun i d fl h => by
    unfold startN at h
    by_cases hi : i < ds.length
    · rw [List.getElem?_append_left (by simpa using hi), List.getElem?_map] at h
      cases q : ds[i]? with
      | none =>
        rw [q] at h
        cases h
      | some x =>
        rw [q] at h
        cases h
        exact ⟨rfl, rfl⟩
    · rw [List.getElem?_append_right (by simpa using hi), List.getElem?_replicate] at h
      split at h <;> cases h
  refine ⟨(g.z e).unb, ?_, fun i d h => ?_, fun i d h => ?_, fun b h => by rw [e0]; exact h, fun i j d e a h => ?_⟩
  · unfold startN L2.start
    simp
    omega
  · obtain ⟨h1, _⟩ := at_ i d false h
    obtain ⟨v, h2, r2⟩ := r.get h1
    refine ⟨v, ?_, (r2.z e).unb⟩
    unfold L2.start
    have hi := (List.getElem?_eq_some_iff.mp h2).1
    rw [List.getElem?_append_left (by simpa using hi), List.getElem?_map, h2]
    rfl
  · obtain ⟨_, h2⟩ := at_ i d true h
    cases h2
  · obtain ⟨_, h2⟩ := at_ i d true h
    cases h2
/-- what a def that makes lambdas must bring -/
structure LmD (K : PySem.W.Frag) (mg : Str → Option Value) (base : Heap) (Z : Zt) (fd : FuncData) (qual : Str) : Prop where
  hd : HearD K mg Z
  ex : ∃ c P : Addr, LamX.TabB base mg c P ∧ fd.code = .ref c ∧ (P, qual ++ ".<locals>." ++ "<lambda>") ∈ Z.T ∧ ∀ p ∈ Z.T, p.1 = P → p.2 = qual ++ ".<locals>." ++ "<lambda>"
theorem HearD.z {Z' : Zt} (e : SameZ Z Z') (h : HearD K mg Z) : HearD K mg Z' := by
  obtain ⟨g, CS, fd, prm, q, h1, h2, h3, h4, h5, h6⟩ := h.ex
  exact ⟨g, CS, fd, prm, q, h1, h2, h3, h4, fun c => by rw [← e.ca]; exact h5 c, h6⟩
theorem _root_.Ev.ErrD.z {Z' : Zt} {n : Nat} (e : SameZ Z Z') (h : ErrD K Z n) : ErrD K Z' n := by
  obtain ⟨h1, h2, h3, h4, h5, h6⟩ := h
  rw [e.ca] at h1 h2 h3 h4 h5 h6
  exact ⟨h1, h2, h3, h4, h5, h6⟩
/-- a def's promise: its text is what was checked -/
theorem def_fnG {x qual : Str} {params : Arguments} {body : List Stmt} {scope : Scope} {fd : FuncData} {N ps : List Str} {d : Def} {Fs : List Fn} {lv n : Nat} {lvl : List Nat} {lam : Bool} (Mo : Modu P w K mg base Z G rz li nc) (Fu : FunD K x qual params body scope [] [] (Z.fa n) fd)
    (hb : Binds K fd ps []) (hsc : C8.scC N ps scope = true) (hfl : lvl.length ≤ Fs.length) (hns : ∀ k f l, Fs[k]? = some f → lvl[k]? = some l → FnX P w K mg base Z l k f) (hlm : lam = true → LmD K mg base Z fd qual) (hli : li + 1 ≤ lv) (hn : d.n = N.length) (hp : d.ps = ps.length) (hpn : ps.length ≤ N.length)
    (hck : ckSs (gamD N scope G lv lvl lam nc d.lams) rz d.body body = true) : FnG P w K mg base (lv + 1) (Z.fa n) fd ps (spF Z (runF Fs d)) := by
  obtain ⟨⟨oc, od, dV, kV, doc, pm, an, cdv, ct, osl, rfl, lk, hcd, _, _⟩, kp⟩ := Fu
  have S := C8.fnScope_by hsc
  have hlen : ∀ vs H Q E, spF Z (runF Fs d) vs H Q E → vs.length = ps.length := fun vs H Q E h => by
    obtain ⟨ds, M, F, φ, g, r, z, h1, _⟩ := h
    unfold runF at h1
    obtain ⟨h2, _⟩ := if_some h1
    rw [r.len, h2, hp]
  refine ⟨hlen, fun A outer s H args us vs Q E hr hg he hbd hv hs => ?_⟩
  refine LamX.run_ofS lk hcd S hr he hbd hv (hlen vs H Q E hs) fun hr2 => ?_
  obtain ⟨ds, M, F, φ, g, r, z, h1, dn⟩ := hs
  unfold runF at h1
  obtain ⟨h2, h1⟩ := if_some h1
  generalize hX : cxOf (L2.CX P w) P w K mg base N qual scope (Z.fa n) cdv A outer s H E = X
  have hXs : X.env.scope = scope := by rw [← hX]; rfl
  have e := sameZ Z H (X.env.qual ++ "<lambda>") X.env.cells fun k ps b sc => lkOf (gam0 N scope G lv lvl lam nc) d.lams k ps b sc = true
  generalize hZ : Z.own H (X.env.qual ++ "<lambda>") X.env.cells (fun k ps b sc => lkOf (gam0 N scope G lv lvl lam nc) d.lams k ps b sc = true) = Zo at e
  have z0 : Zo.H0 = H := by rw [← hZ]
  have zq : Zo.lq = X.env.qual ++ "<lambda>" := by rw [← hZ]
  have zc : Zo.lcl = X.env.cells := by rw [← hZ]
  have zg : Zo.lg = fun k ps b sc => lkOf (gam0 N scope G lv lvl lam nc) d.lams k ps b sc = true := by rw [← hZ]
  have tk : Takes X fun cls d _ H => E cls d H := by rw [← hX]; exact takes_of rfl rfl rfl rfl
  have ok : ∀ lk : Nat → Arguments → Expr → Scope → Bool, (∀ k ps b sc, lk k ps b sc = true → lkOf (gam0 N scope G lv lvl lam nc) d.lams k ps b sc = true) → XOk X Zo ⟨N, scope, G, lv, lvl, lam, nc, lk⟩ Fs E := by
    intro lk hlk
    have hzl : lam = true → Zo.lq = X.env.qual ++ "<lambda>" ∧ Zo.lcl = X.env.cells ∧ ∀ k ps b sc, lk k ps b sc = true → Zo.lg k ps b sc := fun _ => ⟨zq, zc, fun k ps b sc h => by rw [zg]; exact hlk k ps b sc h⟩
    clear hZ
    subst hX
    refine ⟨Mo.hK.trans e.K, rfl, hr2.hd, by have := hr2.un; show (A.deeper _).units + 70 < cLine; omega, hg, rfl, S.nd, fun x h => ?_, fun x h => ?_, ?_, fun x h => h, hfl, fun x k h _ => h, fun x h => h, fun x g h => ?_, hr2, fun k f l h3 h4 => (hns k f l h3 h4).z e, passes_call tk (fun _ _ _ _ h => h), fun h => ?_, hzl, fun h => (Mo.er h).z e⟩
    · unfold visB at h
      simp only [Bool.or_eq_true, beq_iff_eq] at h
      rcases h with (h | h) | h
      · exact .inl h
      · exact .inr (.inl h)
      · exact .inr (.inr h)
    · rcases h with h | h
      · exact ⟨.inl h, .inr h⟩
      · exact ⟨.inr h, .inl rfl⟩
    · show (if scope.kind.isAnnotationScope then ScopeKind.function else scope.kind) = .function
      rw [S.kind]
      rfl
    · have w := Mo.gv x g h
      cases g with
      | fn k =>
        show mg x = some (.ref (Zo.fa k))
        rw [← e.fa]
        exact w
      | cls c =>
        show mg x = some (.ref (Zo.ca c))
        rw [← e.ca]
        exact w
      | _ => exact w
    · obtain ⟨h1, c, P, h2, h3, h4, h5⟩ := hlm h
      exact ⟨h1.z e, c, P, h2, h3, by rw [← e.T]; exact h4, by rw [← e.T]; exact h5⟩
  have ok0 : XOk X Zo (gam0 N scope G lv lvl lam nc) Fs E := ok _ fun _ _ _ _ h => nomatch h
  have ok1 : XOk X Zo (gamD N scope G lv lvl lam nc d.lams) Fs E := ok _ fun _ _ _ _ h => h
  have xs : XSt X Zo (gamD N scope G lv lvl lam nc d.lams) Fs E rz := ⟨ok1, tk, by rw [← hX]; exact passes_of rfl, fun c hc => by
    have w := Mo.rz c hc
    rw [e.ca] at w
    rw [← hX]
    exact ⟨li, hli, w⟩⟩
  have hC : LamsOk X Zo (gamD N scope G lv lvl lam nc d.lams) (lamC Fs d.lams) := by
    intro _ k ps b sc hlg
    rw [zg] at hlg
    have hlg : lkOf (gam0 N scope G lv lvl lam nc) d.lams k ps b sc = true := hlg
    unfold lkOf at hlg
    obtain ⟨h1, h3⟩ := ba2 hlg
    obtain ⟨h1, h2⟩ := ba2 h1
    have e1 := noArg_ok h1
    subst e1
    split at h3
    · rename_i a ha
      have L := lamS_of ok0 h2
      refine ⟨L, fun _ _ _ _ _ => by rfl, fun A2 outer2 s2 H2 E2 f c' hr hg2 => ?_⟩
      have w : PE (LamX.lamCx X A2 outer2 s2 H2 E2 sc f c') b (tE Zo E2 (evE Fs (fun _ => noClo) a)) := (sE (C := fun _ => noClo) a (XOkC.mk (ok0.lam (outer := outer2) (H := H2) (E := E2) L hr hg2) fun h => nomatch h) b h3).1
      have ef : (fun ρ M => lamC Fs d.lams ρ k M) = evE Fs (fun _ => noClo) a := by
        funext ρ M
        unfold lamC
        rw [ha]
      rw [ef]
      exact w
    · cases h3
  clear hZ
  subst z0
  refine ⟨_, sSs (F0 := F) (φ0 := φ) xs hC d.body body hck, ⟨startN d.n ds, M, F, φ, Zo.H0⟩, rfl, ⟨?_, Post.refl⟩, ?_⟩
  · rw [hn]
    exact start_sim Zo e rfl g r (by rw [h2, hp]; exact hpn)
  · cases hz : evSs Fs (lamC Fs d.lams) d.body (startN d.n ds) M with
    | none =>
      rw [hz] at h1
      cases h1
    | some y =>
      rw [hz] at h1
      refine ⟨y, rfl, ?_⟩
      cases y with
      | er c v M2 =>
        have ez : z = .er c v M2 := (Option.some.inj h1).symm
        subst ez
        intro q da po er
        have w : E (.ref (Z.ca c)) (some da) q.H := dn q da po (er.bare.z e.symm)
        show E (.ref (Zo.ca c)) (some da) q.H
        rw [← e.ca]
        exact w
      | ok f =>
        cases f with
        | nx ρ M2 =>
          have ez : z = .ok ⟨.py .none, false, M2⟩ := (Option.some.inj h1).symm
          subst ez
          intro σ' q e1 e2 I st
          exact dn q.F q.φ q.H .non I.po (by have w := I.s.g; rw [e2] at w; exact w.bare.z e.symm) (.py .non)
        | rt o =>
          have h1 : (if clean o.d = true then some (Rz.ok o) else none) = some z := h1
          obtain ⟨hcl, h1⟩ := if_some h1
          have ez : z = .ok o := (Option.some.inj h1).symm
          subst ez
          exact fun F' φ' H' v po g' ro => dn F' φ' H' v po (g'.bare.z e.symm) ((ro.bare hcl).z e.symm)
        | br ρ M2 => cases h1
        | ct ρ M2 => cases h1
/-- THE RULE for a def -/
theorem def_sound {x qual : Str} {params : Arguments} {body : List Stmt} {scope : Scope} {fd : FuncData} {N ps : List Str} {d : Def} {Fs : List Fn} {lv n : Nat} {lvl : List Nat} {lam : Bool} (Mo : Modu P w K mg base Z G rz li nc) (Fu : FunD K x qual params body scope [] [] (Z.fa n) fd)
    (hb : Binds K fd ps []) (hsc : C8.scC N ps scope = true) (hfl : lvl.length ≤ Fs.length) (hns : ∀ k f l, Fs[k]? = some f → lvl[k]? = some l → FnX P w K mg base Z l k f) (hlm : lam = true → LmD K mg base Z fd qual) (hli : li + 1 ≤ lv) (hn : d.n = N.length) (hp : d.ps = ps.length) (hpn : ps.length ≤ N.length)
    (hck : ckSs (gamD N scope G lv lvl lam nc d.lams) rz d.body body = true) : FnX P w K mg base Z (lv + 1) n (runF Fs d) :=
  ⟨⟨fd, ps, def_fnG Mo Fu hb hsc hfl hns hlm hli hn hp hpn hck, hb⟩, Fu.kp⟩
end
end Ev

/-! A law's end: the caller stands without guards. -/
namespace Ev
open L2 PyProof.Rows PySem PySem.Spec
section
variable {K : PySem.W.Frag} {cs : List (Addr × Addr)} {h : Heap} {a : Addr} {lo : Obj} {ns : List Int}
/-- what is told of at the law's call: the script, where it isn't in the written part, and the tables -/
def endH (K : PySem.W.Frag) (cs : List (Addr × Addr)) (a : Addr) (lo : Obj) (ns : List Int) : Hp := fun b =>
  if b = a ∧ K.lookup a = none then some (.frz lo (.lst (ns.map V.int))) else if b ∈ cs.map (·.2) then some (.tbl #[]) else none
theorem endH_is {b : Addr} {u : HO} (e : endH K cs a lo ns b = some u) : (b = a ∧ K.lookup a = none ∧ u = .frz lo (.lst (ns.map V.int))) ∨ (∃ p ∈ cs, p.2 = b) ∧ u = .tbl #[] := by
  unfold endH at e
  split at e
  · rename_i c
    cases e
    exact .inl ⟨c.1, c.2, rfl⟩
  · split at e
    · rename_i c
      cases e
      obtain ⟨p, hp, ep⟩ := List.mem_map.mp c
      exact .inr ⟨⟨p, hp, ep⟩, rfl⟩
    · cases e
theorem endH_tab (na : ∀ p ∈ cs, p.2 ≠ a) : ∀ p ∈ cs, endH K cs a lo ns p.2 = some (.tbl #[]) := fun p hp => by
  unfold endH
  rw [if_neg fun c => na p hp c.1, if_pos (List.mem_map.mpr ⟨p, hp, rfl⟩)]
/-- an object of another kind isn't told of -/
theorem endH_no (ha : h.get? a = some lo) (hT : ∀ p ∈ cs, h.get? p.2 = some { cls := .none, data := .fields #[] }) {b : Addr} {o : Obj} (e : h.get? b = some o) (n1 : o.data ≠ lo.data) (n2 : o.data ≠ .fields #[]) : endH K cs a lo ns b = none := by
  cases q : endH K cs a lo ns b with
  | none => rfl
  | some u =>
    rcases endH_is q with ⟨rfl, _, _⟩ | ⟨⟨p, hp, rfl⟩, _⟩
    · rw [ha] at e
      cases e
      exact (n1 rfl).elim
    · rw [hT p hp] at e
      cases e
      exact (n2 rfl).elim
end
theorem law_endG {P : Program} {w : World} {K : PySem.W.Frag} {mg mb : Str → Option Value} {k : Nat} {fa a : Addr} {cs : List (Addr × Addr)} {fd : FuncData} {x : Str} {sp : Sp} {s : Shared} {vs : List Value} {ns : List Int} (kin : K.In s.heap) (gl : s.heap.Ns mainGlobals mg) (bl : s.heap.Ns builtinsNs mb)
    (boot : ∀ x : Str, x ≠ "__name__" → mb x = bootBuiltins x) (lim : s.heap.NoLimit) (gen : s.gens = #[]) (hT : ∀ p ∈ cs, s.heap.get? p.2 = some { cls := .none, data := .fields #[] }) (out : ∀ p ∈ cs, K.lookup p.2 = none) (heads : ∀ p ∈ cs, PySem.W.CodeHd s.heap p.1 p.2)
    (bm : ∃ (bm : Addr) (ob : Obj), mg "__builtins__" = some (.ref bm) ∧ bm ≠ builtinsNs ∧ s.heap.get? bm = some ob ∧ ob.cls = .type "module" ∧ ob.dict = some builtinsNs ∧ ob.data = .plain) (ha : s.heap.get? a = some { cls := .type "list", data := .seq vs.toArray }) (itz : IntsAre vs ns) (len : ns.length ≤ sizeLine)
    (room : Room k callerA) (F : ∀ base : Heap, K.In base → base.Ns mainGlobals mg → (∀ p ∈ cs, LamX.TabB base mg p.1 p.2) → FnG P w K mg base k fa fd [x] sp) (bind : ∀ (s : Shared) (u : Value), BindsTo s fd ⟨[u], []⟩ [(x, u)])
    (want : ∀ H : Hp, (∀ p ∈ cs, H p.2 = some (.tbl #[])) → (∀ b ps, H b = some (.tbl ps) → ∃ p ∈ cs, p.2 = b) → SqL K H a (ns.map V.int) → sp [.ref a] H (fun v _ => v = .bl true) fun _ _ _ => False) :
    codeAny (model P w) callerA (.call (.ref fa) ⟨[.ref a], []⟩) (fun r s' => r = .ok (.ret (.bool true)) ∧ OldK s.heap s'.heap ∧ s'.os = s.os ∧ AllBare s'.gens) s := by
  generalize elo : ({ cls := .type "list", data := .seq vs.toArray } : Obj) = lo at ha
  have dlo : lo.data = .seq vs.toArray := by rw [← elo]
  have rel := vals_ints itz
  have na : ∀ p ∈ cs, p.2 ≠ a := fun p hp z => by
    have e := hT p hp
    rw [z, ha] at e
    have z' := congrArg Obj.data (Option.some.inj e)
    rw [dlo] at z'
    cases z'
  let H : Hp := endH K cs a lo ns
  have no : ∀ {b : Addr} {o : Obj}, s.heap.get? b = some o → o.data ≠ lo.data → o.data ≠ .fields #[] → (hidT s.heap H).get? b = some o := fun e n1 n2 => hidT_get e (endH_no ha hT e n1 n2)
  have dicts : ∀ {b : Addr} {m : Str → Option Value}, s.heap.Ns b m → (hidT s.heap H).Ns b m := fun ⟨o, es, ep, e, d, r⟩ => ⟨o, es, ep, no e (by rw [d, dlo]; exact fun z => nomatch z) (by rw [d]; exact fun z => nomatch z), d, r⟩
  have kinB : K.In (hidT s.heap H) := fun b o e => hidT_get (kin b o e) (by
    cases q : H b with
    | none => rfl
    | some u =>
      rcases endH_is q with ⟨rfl, c, _⟩ | ⟨⟨p, hp, rfl⟩, _⟩
      · rw [c] at e
        cases e
      · rw [out p hp] at e
        cases e)
  have tabs : ∀ p ∈ cs, LamX.TabB (hidT s.heap H) mg p.1 p.2 := fun p hp => by
    obtain ⟨o, us, file, tf, flags, tg, inF, text, tt, e1, r1, r2, r3, r⟩ := heads p hp
    obtain ⟨bm, ob, b1, b2, b3, b4, b5, b6⟩ := bm
    obtain ⟨og, es, ep, g1, g2, _⟩ := gl
    refine ⟨⟨o, us, file, tf, flags, tg, inF, text, tt, no e1 (by rw [r2, dlo]; exact fun z => nomatch z) (fun z => ?_), r1, r2, r3, r⟩, ⟨bm, ob, b1, b2, fun q => ?_, fun q => ?_, no b3 (by rw [b6, dlo]; exact fun z => nomatch z) (by rw [b6]; exact fun z => nomatch z), b4, b5, b6⟩, fun z => ?_⟩
    · rw [r2] at z
      cases z
      simp at r3
    · rw [q, g1] at b3
      cases b3
      rw [g2] at b6
      cases b6
    · rw [q, hT p hp] at b3
      cases b3
      cases b6
    · rw [z, hT p hp] at g1
      cases g1
      cases g2
  have hok : HOk P w H s.heap := fun b u e => by
    rcases endH_is e with ⟨rfl, _, rfl⟩ | ⟨⟨p, hp, rfl⟩, rfl⟩
    · have hb := ha
      rw [← elo] at hb
      exact ⟨ha, by rw [List.length_map]; exact len, vs, _, rel, hb⟩
    · exact hT p hp
  have sq : SqL K H a (ns.map V.int) := by
    cases q : K.lookup a with
    | none => exact .inl (.inr ⟨lo, if_pos ⟨rfl, q⟩⟩)
    | some o =>
      have e := kin a o q
      rw [ha, ← elo] at e
      cases e
      exact .inr ⟨_, vs.toArray, _, q, rfl, rfl, rfl, by rw [List.size_toArray, itz.length]; exact len, by simpa using rel⟩
  have e0 : Env0 P w K mg (hidT s.heap H) callerA [] s H :=
    ⟨rfl, ⟨kinB, dicts gl, ⟨mb, dicts bl, boot⟩, let ⟨mc, h1, h2⟩ := lim; ⟨mc, dicts h1, h2⟩⟩, fun b o e => of_hidT e, Nat.le_of_eq (hidT_size _ _), trivial, (fun b hb => nomatch hb), hok, .of_eq gen⟩
  refine codeAny_mono ((F _ kinB (dicts gl) tabs).run callerA [] s H ⟨[.ref a], []⟩ [.ref a] [.ref a] _ _ room rfl e0 (bind s (.ref a)) (.cons rfl .nil) (want H (endH_tab na) (fun b ps e => ?_) sq)) fun r s' res => ?_
  · rcases endH_is e with ⟨_, _, z⟩ | ⟨z, _⟩
    · cases z
    · exact z
  · cases r with
    | error e =>
      obtain ⟨_, _, _, _, _, _, _, _, _, _, _, _, z⟩ := res
      exact z.elim
    | ok fl =>
      cases fl with
      | next => exact res.elim
      | brk => exact res.elim
      | cont => exact res.elim
      | ret u =>
        obtain ⟨v, H', os, bare, un, hok', rv, rfl⟩ := res
        cases rv
        have tab : ∀ p ∈ cs, ∃ more : Array Value, s'.heap.get? p.2 = some { cls := .none, data := .fields more } := fun p hp => by
          obtain ⟨more, z⟩ := un.tbls p.2 #[] (endH_tab na p hp)
          exact ⟨_, hok' p.2 _ z⟩
        have kept : ∀ b o, (∀ p ∈ cs, p.2 ≠ b) → s.heap.get? b = some o → s'.heap.get? b = some o := fun b o nb e => by
          cases q : H b with
          | none => exact un.keep b o e q (fun z => nomatch (show b ∈ ([] : List Addr) from z)) fun z => nomatch z
          | some u =>
            rcases endH_is q with ⟨rfl, _, rfl⟩ | ⟨⟨p, hp, z⟩, _⟩
            · obtain ⟨e2, _⟩ := hok' b _ (un.frzs b lo _ q)
              rw [ha] at e
              cases e
              exact e2
            · exact (nb p hp z).elim
        refine ⟨rfl, ⟨fun b o e => ?_, fun b o e => ?_⟩, os, bare⟩
        · by_cases c : ∃ p ∈ cs, p.2 = b
          · obtain ⟨p, hp, rfl⟩ := c
            obtain ⟨more, z⟩ := tab p hp
            rw [hT p hp] at e
            cases e
            exact .inr (.inl ⟨((heads p hp).tab (hT p hp)).isCodeTable, rfl, #[], more, rfl, by rw [Array.empty_append]; exact z⟩)
          · exact .inl (kept b o (fun p hp z => c ⟨p, hp, z⟩) e)
        · by_cases c : ∃ p ∈ cs, p.2 = b
          · obtain ⟨p, hp, rfl⟩ := c
            obtain ⟨more, z⟩ := tab p hp
            exact ⟨_, z⟩
          · exact ⟨o, kept b o (fun p hp z => c ⟨p, hp, z⟩) e⟩
end Ev

/-! A whole law: defs one behind another, the head's facts, the walk. -/
namespace Ev
open L2 PyProof.Rows PySem PySem.Spec
def topAt (b : List Stmt) (i : Nat) : Stmt := b.getD i (.Pass ⟨0, 0, 0, 0⟩)
/-- a def of the module: its place, its name, what it is in our terms, its names, its parameters, its level, whether it makes lambdas -/
structure Rec where
  i : Nat
  name : Str
  d : Def
  N : List Str
  ps : List Str
  lv : Nat
  lam : Bool
  rc : Nat := 0
/-- the level behind it -/
def Rec.up (r : Rec) : Nat := r.lv + max r.rc 1
section
variable (b : List Stmt)
def Rec.args (r : Rec) : Arguments := defArgs (topAt b r.i)
def Rec.body (r : Rec) : List Stmt := defBody (topAt b r.i)
def Rec.sc (r : Rec) : Scope := defScope (topAt b r.i)
def Rec.dd (r : Rec) : He.DefD := ⟨(r.name, none), r.name, r.name, r.args b, r.body b, r.sc b, [], []⟩
structure RecOk (G : List (Str × Gv)) (rz : List Nat) (nc li : Nat) (tf : List He.Defn) (lvl : List Nat) (r : Rec) : Prop where
  bi : ∀ (kV doc pm : Value) (an : Option Addr) (cdv ct : Value) (us : List Value), us.length = r.ps.length → bindArgs (PySem.W.fnOf r.name r.name (r.args b) (r.body b) (r.sc b) .none kV doc pm an cdv ct) ⟨us, []⟩ = pure (r.ps.zip us)
  sc : C8.scC r.N r.ps (r.sc b) = true
  ck : (match r.rc with
    | 0 => ckSs (gamD r.N (r.sc b) G r.lv lvl r.lam nc r.d.lams) rz r.d.body (r.body b)
    | n + 1 => (List.range (n + 1)).all fun j => ckSs (gamD r.N (r.sc b) G (r.lv + j) (lvl ++ [r.lv + j]) r.lam nc r.d.lams) rz r.d.body (r.body b)) = true
  n : r.d.n = r.N.length
  p : r.d.ps = r.ps.length
  pn : r.ps.length ≤ r.N.length
  li : li + 1 ≤ r.lv
  lm : r.lam = true → (r.name, none) ∈ tf
inductive RecsOk (G : List (Str × Gv)) (rz : List Nat) (nc li : Nat) (tf : List He.Defn) : List Nat → List Rec → Prop where
  | nil {lvl : List Nat} : RecsOk G rz nc li tf lvl []
  | cons {lvl : List Nat} {r : Rec} {rs : List Rec} : RecOk b G rz nc li tf lvl r → RecsOk G rz nc li tf (lvl ++ [r.up]) rs → RecsOk G rz nc li tf lvl (r :: rs)
end
/-- a def that calls itself, so many calls deep -/
def recF (Fs : List Fn) (d : Def) : Nat → Fn
  | 0 => fun _ _ _ => none
  | n + 1 => runF (Fs ++ [recF Fs d n]) d
def Rec.f (r : Rec) (Fs : List Fn) : Fn := match r.rc with
  | 0 => runF Fs r.d
  | n + 1 => recF Fs r.d (n + 1)
def fnsOf : List Rec → List Fn → List Fn
  | [], Fs => Fs
  | r :: rs, Fs => fnsOf rs (Fs ++ [r.f Fs])
theorem fnsOf_len : ∀ (rs : List Rec) (Fs : List Fn), (fnsOf rs Fs).length = Fs.length + rs.length
  | [], Fs => rfl
  | r :: rs, Fs => by
    unfold fnsOf
    rw [fnsOf_len rs, List.length_append, List.length_cons]
    simp
    omega
def lvls : List Rec → List Nat → List Nat
  | [], l => l
  | r :: rs, l => lvls rs (l ++ [r.up])
theorem lvls_len : ∀ (rs : List Rec) (l : List Nat), (lvls rs l).length = l.length + rs.length
  | [], l => rfl
  | r :: rs, l => by
    unfold lvls
    rw [lvls_len rs, List.length_append, List.length_cons]
    simp
    omega
def lamQ (x : Str) : Str := x ++ ".<locals>." ++ "<lambda>"
/-- addresses by names -/
def zOf (K : PySem.W.Frag) (fns cl : List Str) (tf : List He.Defn) : Zt := { K := K, fa := fun k => He.ga K (fns.getD k "law"), ca := fun c => He.ga K (cl.getD c "WashError"), T := tf.map fun p => ((He.cT K p).2, lamQ p.1) }
/-! ### classes -/
def oexB (K : PySem.W.Frag) (C : Addr) : Bool := match K.lookup C with
  | some ⟨.type "type", _, .cls cd, sl⟩ => (match cd.mro, sl.toList with
    | .ref C' :: bm, [_, _, _, _, some (.builtin n), _] => C' == C && n == "ValueError.__new__" && !cd.hasDel && cd.hasDict && PySem.HandSPX.refsVE bm
    | _, _ => false)
  | _ => false
theorem oexB_ok {K : PySem.W.Frag} {C : Addr} (q : oexB K C = true) : ∃ nm q N bs bm sn sub ab col dd k0 k1 k2 k3 k5, K.lookup C = some (excClassObj nm q C N bs bm true sn sub ab col dd k0 k1 k2 k3 k5 "ValueError.__new__") ∧ PySem.HandSPX.refsVE bm = true := by
  unfold oexB at q
  split at q
  · rename_i dd cd sl ho
    split at q
    · rename_i C' bm k0 k1 k2 k3 n k5 hm hs
      simp only [Bool.and_eq_true, beq_iff_eq, Bool.not_eq_true'] at q
      obtain ⟨⟨⟨⟨rfl, rfl⟩, hdel⟩, hdct⟩, hr⟩ := q
      obtain ⟨nm, bs, mro, ns, qn, hd, sn, sub, ab, col, del⟩ := cd
      dsimp only at hm hdel hdct
      subst hm hdel hdct
      have hsl : sl = #[k0, k1, k2, k3, some (.builtin "ValueError.__new__"), k5] := by
        obtain ⟨l⟩ := sl
        simp only at hs
        rw [hs]
      subst hsl
      exact ⟨nm, qn, ns, bs, bm, sn, sub, ab, col, dd, k0, k1, k2, k3, k5, ho, hr⟩
    · cases q
  · cases q
def claB (K : PySem.W.Frag) (W C : Addr) : Bool :=
  oexB K C && (He.eqO (PySem.W.findIn K (.ref C) "__setattr__") (some (some (.builtin "object.__setattr__"))) && (decide (PySem.W.subIn K (.ref C) (.type "BaseException") = some true) && (decide (PySem.W.typeIn K (.ref C) = some (.type "type")) && (PySem.W.keepIn K (.ref C) &&
  (He.eqO (PySem.W.findIn K (.ref C) valK) (some none) && (He.eqO (PySem.W.findIn K (.ref C) "__getattribute__") (some (some (.builtin "BaseException.__getattribute__"))) && (He.eqO (PySem.W.findIn K (.ref C) "__getattr__") (some none) && (PySem.W.hasDictIn K C &&
  (He.eqO (PySem.W.findIn K (.ref C) "__class__") (some (some (.builtin "object.__class__"))) && (decide (PySem.W.mroIn K C (.type "object") = some true) && (decide (PySem.W.kitOne K (.ref C) (.type "ValueError") = some true) && (decide (PySem.W.exmOne K (.ref C) (.ref W) = some true) &&
  (He.eqO (PySem.W.findIn K (.ref C) "__init__") (some (some (.ref (He.ma K W "__init__")))) && decide (PySem.W.kitOne K (.type "NoneType") (.ref C) = some false))))))))))))))
def getsB (K : PySem.W.Frag) : Bool :=
  He.eqO (PySem.W.specialIn K (.builtin "object.__class__") "__get__") (some (some (.builtin "getset_descriptor.__get__"))) && decide (PySem.W.takesIn K (.builtin "object.__class__") = some true)
structure ClaD (K : PySem.W.Frag) (W C : Addr) : Prop where
  ox : OexC K C
  nv : PySem.W.findIn K (.ref C) valK = some none
  ec : ExcC K C
  xf : XfC K C
  kv : PySem.W.kitOne K (.ref C) (.type "ValueError") = some true
  xm : PySem.W.exmOne K (.ref C) (.ref W) = some true
  ini : PySem.W.findIn K (.ref C) "__init__" = some (some (.ref (He.ma K W "__init__")))
  kn : PySem.W.kitOne K (.type "NoneType") (.ref C) = some false
theorem claB_ok {K : PySem.W.Frag} {W C : Addr} (g : getsB K = true) (h : claB K W C = true) : ClaD K W C := by
  obtain ⟨g1, g2⟩ := He.ba g
  obtain ⟨h1, h⟩ := He.ba h
  obtain ⟨h2, h⟩ := He.ba h
  obtain ⟨h3, h⟩ := He.ba h
  obtain ⟨h4, h⟩ := He.ba h
  obtain ⟨h5, h⟩ := He.ba h
  obtain ⟨h6, h⟩ := He.ba h
  obtain ⟨h7, h⟩ := He.ba h
  obtain ⟨h8, h⟩ := He.ba h
  obtain ⟨h9, h⟩ := He.ba h
  obtain ⟨h10, h⟩ := He.ba h
  obtain ⟨h11, h⟩ := He.ba h
  obtain ⟨h12, h⟩ := He.ba h
  obtain ⟨h13, h⟩ := He.ba h
  obtain ⟨h14, h15⟩ := He.ba h
  exact ⟨⟨oexB_ok h1, He.eqO_ok h2, of_decide_eq_true h3, of_decide_eq_true h4, h5⟩, He.eqO_ok h6,
    ⟨He.eqO_ok h7, He.eqO_ok h8, of_decide_eq_true h3, h9, He.eqO_ok h10, He.eqO_ok g1, of_decide_eq_true g2, of_decide_eq_true h11⟩,
    ⟨He.eqO_ok h7, He.eqO_ok h8, of_decide_eq_true h3, h9⟩, of_decide_eq_true h12, of_decide_eq_true h13, He.eqO_ok h14, of_decide_eq_true h15⟩
def kitB (K : PySem.W.Frag) (cl : List Str) : Bool := (List.range cl.length).all fun e => (List.range cl.length).all fun c => decide (PySem.W.kitOne K (.ref (He.ga K (cl.getD e "WashError"))) (.ref (He.ga K (cl.getD c "WashError"))) = some (e == c || c == 0))
def veiB (K : PySem.W.Frag) : Bool := match PySem.W.findCls K (.type "ValueError") (.type "type") "__init__" with
  | some (.val (.builtin x)) => x == "ValueError.__init__"
  | _ => false
theorem veiB_ok {K : PySem.W.Frag} (h : veiB K = true) : PySem.W.findCls K (.type "ValueError") (.type "type") "__init__" = some (.val (.builtin "ValueError.__init__")) := by
  unfold veiB at h
  split at h
  · rename_i x e
    rw [e, beq_iff_eq.mp h]
  · cases h
/-- what the head's hook looks at besides: the classes, the tables -/
def exOf (cl : List Str) (tf : List He.Defn) (K : PySem.W.Frag) : Bool :=
  getsB K && (cl.all (fun x => claB K (He.ga K "WashError") (He.ga K x)) && (kitB K cl && (veiB K && (decide (PySem.W.typeIn K (.ref (He.ma K (He.ga K "WashError") "__init__")) = some (.type "function")) && decide ((tf.map fun p => (He.cT K p).2).Nodup)))))
structure ExD (cl : List Str) (tf : List He.Defn) (K : PySem.W.Frag) : Prop where
  cla : ∀ x ∈ cl, ClaD K (He.ga K "WashError") (He.ga K x)
  kit : ∀ e c, e < cl.length → c < cl.length → PySem.W.kitOne K (.ref (He.ga K (cl.getD e "WashError"))) (.ref (He.ga K (cl.getD c "WashError"))) = some (e == c || c == 0)
  vei : PySem.W.findCls K (.type "ValueError") (.type "type") "__init__" = some (.val (.builtin "ValueError.__init__"))
  fty : PySem.W.typeIn K (.ref (He.ma K (He.ga K "WashError") "__init__")) = some (.type "function")
  nd : (tf.map fun p => (He.cT K p).2).Nodup
theorem exOf_ok {cl : List Str} {tf : List He.Defn} {K : PySem.W.Frag} (h : exOf cl tf K = true) : ExD cl tf K := by
  obtain ⟨h1, h⟩ := He.ba h
  obtain ⟨h2, h⟩ := He.ba h
  obtain ⟨h3, h⟩ := He.ba h
  obtain ⟨h4, h⟩ := He.ba h
  obtain ⟨h5, h6⟩ := He.ba h
  refine ⟨fun x hx => claB_ok h1 (List.all_eq_true.mp h2 x hx), fun e c he hc => ?_, veiB_ok h4, of_decide_eq_true h5, of_decide_eq_true h6⟩
  have := List.all_eq_true.mp (List.all_eq_true.mp h3 e (List.mem_range.mpr he)) c (List.mem_range.mpr hc)
  exact of_decide_eq_true this
theorem errD_of {cl fns : List Str} {tf : List He.Defn} {K : PySem.W.Frag} (D : ExD cl tf K) (h0 : cl.getD 0 "" = "WashError") : ErrD K (zOf K fns cl tf) cl.length := by
  have hl : 0 < cl.length := by
    cases cl with
    | nil => cases h0
    | cons _ _ => simp
  have e0 : cl.getD 0 "WashError" = "WashError" := by
    cases cl with
    | nil => rfl
    | cons _ _ => exact h0
  have mem : ∀ e, cl.getD e "WashError" ∈ cl := fun e => by
    by_cases he : e < cl.length
    · rw [List.getD_eq_getElem?_getD, List.getElem?_eq_getElem he]
      exact List.getElem_mem he
    · rw [List.getD_eq_getElem?_getD, List.getElem?_eq_none (Nat.le_of_not_lt he)]
      show ("WashError" : Str) ∈ cl
      rw [← e0, List.getD_eq_getElem?_getD, List.getElem?_eq_getElem hl]
      exact List.getElem_mem hl
  refine ⟨fun e => (D.cla _ (mem e)).ec, fun e => (D.cla _ (mem e)).xf, fun e => (D.cla _ (mem e)).nv, fun e c hc => ?_, fun e => (D.cla _ (mem e)).kv, fun c hc => (D.cla _ (mem c)).kn⟩
  by_cases he : e < cl.length
  · exact D.kit e c he hc
  · have z : cl.getD e "WashError" = cl.getD 0 "WashError" := by
      rw [e0, List.getD_eq_getElem?_getD, List.getElem?_eq_none (Nat.le_of_not_lt he)]
      rfl
    show PySem.W.kitOne K (.ref (He.ga K (cl.getD e "WashError"))) (.ref (He.ga K (cl.getD c "WashError"))) = _
    rw [z, D.kit 0 c hl hc]
    have q1 : (e == c) = false := by
      rw [beq_eq_false_iff_ne]
      omega
    rw [q1]
    cases c with
    | zero => rfl
    | succ c => rfl
/-! ### names -/
def faOf : Str × Gv → He.Fa
  | (x, .int i) => .int x i
  | (x, .str s) => .str x s
  | (x, .fn _) => .glo x
  | (x, .cls _) => .glo x
  | (x, .free) => .free x
def gOk (fns cl : List Str) : Str × Gv → Bool
  | (x, .fn k) => decide (fns.getD k "law" = x)
  | (x, .cls c) => decide (cl.getD c "WashError" = x)
  | _ => true
theorem lkMem {α : Type} {x : Str} {o : α} : ∀ {l : List (Str × α)}, l.lookup x = some o → (x, o) ∈ l
  | [], h => by cases h
  | (y, u) :: r, h => by
    rw [List.lookup_cons] at h
    cases q : (x == y) with
    | true =>
      rw [q] at h
      cases h
      rw [beq_iff_eq.mp q]
      exact List.mem_cons_self
    | false =>
      rw [q] at h
      exact List.mem_cons_of_mem _ (lkMem h)
theorem gv_of {K : PySem.W.Frag} {h : Heap} {mg : Str → Option Value} {G : List (Str × Gv)} {fns cl : List Str} {tf : List He.Defn} (X : K.In h) (N : h.Ns mainGlobals mg) (hf : ∀ p ∈ G, (faOf p).ok K = true) (hg : G.all (gOk fns cl) = true) :
    ∀ x g, G.lookup x = some g → GvOk mg (zOf K fns cl tf) x g := fun x g e => by
  have m : (x, g) ∈ G := lkMem e
  have f := hf _ m
  have q := List.all_eq_true.mp hg _ m
  cases g with
  | int i => exact He.int_ok X N f
  | str s => exact He.str_ok X N f
  | fn k =>
    have z : fns.getD k "law" = x := of_decide_eq_true q
    have y := He.glo_ok X N f
    show mg x = some (.ref (He.ga K (fns.getD k "law")))
    rw [z]
    exact y
  | cls c =>
    have z : cl.getD c "WashError" = x := of_decide_eq_true q
    have y := He.glo_ok X N f
    show mg x = some (.ref (He.ga K (cl.getD c "WashError")))
    rw [z]
    exact y
  | free => exact He.free_ok X N f
end Ev

/-! A whole law: the records one behind another, the walk. -/
namespace Ev
open L2 PyProof.Rows PySem PySem.Spec
theorem nodup_inj {α β : Type} {f : α → β} : ∀ {l : List α}, (l.map f).Nodup → ∀ a ∈ l, ∀ b ∈ l, f a = f b → a = b
  | [], _, a, ha, _, _, _ => by cases ha
  | x :: l, h, a, ha, b, hb, e => by
    rw [List.map_cons, List.nodup_cons] at h
    obtain ⟨h1, h2⟩ := h
    rcases List.mem_cons.mp ha with ea | ha2
    · rcases List.mem_cons.mp hb with eb | hb2
      · rw [ea, eb]
      · exact (h1 (by rw [← ea, e]; exact List.mem_map.mpr ⟨b, hb2, rfl⟩)).elim
    · rcases List.mem_cons.mp hb with eb | hb2
      · exact (h1 (by rw [← eb, ← e]; exact List.mem_map.mpr ⟨a, ha2, rfl⟩)).elim
      · exact nodup_inj h2 a ha2 b hb2 e
section
variable {P : Program} {w : World} {K : PySem.W.Frag} {mg : Str → Option Value} {base : Heap} {Z : Zt} {G : List (Str × Gv)} {rz : List Nat} {li nc : Nat} {tf : List He.Defn} {b : List Stmt}
abbrev Fu (K : PySem.W.Frag) (b : List Stmt) (r : Rec) (fd : FuncData) : Prop := FunD K r.name r.name (r.args b) (r.body b) (r.sc b) [] [] (He.ga K r.name) fd
theorem rec_binds {lvl : List Nat} {r : Rec} {fd : FuncData} (o : RecOk b G rz nc li tf lvl r) (F : Fu K b r fd) : Binds K fd r.ps [] := F.bindsN o.bi
theorem sp_none {vs : List V} {H : Hp} {Q : VK} {E : XK} (h : spF Z (fun _ _ _ => none) vs H Q E) : False := by
  obtain ⟨_, _, _, _, _, _, _, h, _⟩ := h
  cases h
theorem fnx_none {fd : FuncData} {ps : List Str} {n l : Nat} (hb : Binds K fd ps []) (kp : PySem.W.keepIn K (.ref (Z.fa n)) = true) : FnX P w K mg base Z l n fun _ _ _ => none :=
  ⟨⟨fd, ps, ⟨fun _ _ _ _ h => (sp_none h).elim, fun _ _ _ _ _ _ _ _ _ _ _ _ _ _ h => (sp_none h).elim⟩, hb⟩, kp⟩
theorem app_ns {Fs : List Fn} {lvl : List Nat} {f : Fn} {l : Nat} (hl : lvl.length = Fs.length) (h : ∀ (k : Nat) f l, Fs[k]? = some f → lvl[k]? = some l → FnX P w K mg base Z l k f) (X : FnX P w K mg base Z l Fs.length f) : ∀ (k : Nat) g m, (Fs ++ [f])[k]? = some g → (lvl ++ [l])[k]? = some m → FnX P w K mg base Z m k g := fun k g m h1 h2 => by
  by_cases hk : k < Fs.length
  · rw [List.getElem?_append_left hk] at h1
    rw [List.getElem?_append_left (by rw [hl]; exact hk)] at h2
    exact h k g m h1 h2
  · have hk1 : k < (Fs ++ [f]).length := (List.getElem?_eq_some_iff.mp h1).1
    rw [List.length_append, List.length_singleton] at hk1
    have e : k = Fs.length := by omega
    subst e
    rw [List.getElem?_append_right (Nat.le_refl _), Nat.sub_self] at h1
    rw [List.getElem?_append_right (by rw [hl]; exact Nat.le_refl _), hl, Nat.sub_self] at h2
    cases h1
    cases h2
    exact X
theorem rec_f (Mo : Modu P w K mg base Z G rz li nc) {r : Rec} {Fs : List Fn} {lvl : List Nat} {fd : FuncData} (ez : Z.fa Fs.length = He.ga K r.name) (o : RecOk b G rz nc li tf lvl r) (F : Fu K b r fd) (h : ∀ (k : Nat) f l, Fs[k]? = some f → lvl[k]? = some l → FnX P w K mg base Z l k f) (hl : lvl.length = Fs.length)
    (hL : r.lam = true → LmD K mg base Z fd r.name) : FnX P w K mg base Z r.up Fs.length (r.f Fs) := by
  have F' : FunD K r.name r.name (r.args b) (r.body b) (r.sc b) [] [] (Z.fa Fs.length) fd := by
    rw [ez]
    exact F
  have hb := rec_binds o F
  have ck := o.ck
  unfold Rec.up Rec.f
  cases e : r.rc with
  | zero =>
    rw [e] at ck
    exact def_sound (n := Fs.length) Mo F' hb o.sc (Nat.le_of_eq hl) h hL o.li o.n o.p o.pn ck
  | succ n =>
    rw [e] at ck
    have ck' : ∀ j < n + 1, ckSs (gamD r.N (r.sc b) G (r.lv + j) (lvl ++ [r.lv + j]) r.lam nc r.d.lams) rz r.d.body (r.body b) = true := fun j hj => List.all_eq_true.mp ck j (List.mem_range.mpr hj)
    have all : ∀ j ≤ n + 1, FnX P w K mg base Z (r.lv + j) Fs.length (recF Fs r.d j) := by
      intro j
      induction j with
      | zero => exact fun _ => fnx_none hb F'.kp
      | succ j ih =>
        intro hj
        have X := ih (by omega)
        exact def_sound (n := Fs.length) (Fs := Fs ++ [recF Fs r.d j]) (lv := r.lv + j) Mo F' hb o.sc (by simp [hl]) (app_ns hl h X) hL (by have := o.li; omega) o.n o.p o.pn (ck' j (by omega))
    have := all (n + 1) (Nat.le_refl _)
    rw [show max (n + 1) 1 = n + 1 by omega]
    exact this
theorem recs_go (Mo : Modu P w K mg base Z G rz li nc) : ∀ (rs : List Rec) (Fs : List Fn) (lvl : List Nat), RecsOk b G rz nc li tf lvl rs → (∀ r ∈ rs, ∃ fd, Fu K b r fd) → (∀ r ∈ rs, r.lam = true → (r.name, none) ∈ tf → ∀ fd, Fu K b r fd → LmD K mg base Z fd r.name) →
    lvl.length = Fs.length → (∀ (i : Nat) r, rs[i]? = some r → Z.fa (Fs.length + i) = He.ga K r.name) → (∀ (k : Nat) f l, Fs[k]? = some f → lvl[k]? = some l → FnX P w K mg base Z l k f) →
    ∀ (k : Nat) f l, (fnsOf rs Fs)[k]? = some f → (lvls rs lvl)[k]? = some l → FnX P w K mg base Z l k f
  | [], Fs, lvl, _, _, _, _, _, h => h
  | r :: rs, Fs, lvl, .cons o os, hF, hL, hl, hz, h => by
    unfold fnsOf lvls
    obtain ⟨fd, F⟩ := hF r List.mem_cons_self
    have ez : Z.fa Fs.length = He.ga K r.name := by
      have := hz 0 r rfl
      rw [Nat.add_zero] at this
      exact this
    have X := rec_f Mo ez o F h hl fun e => hL r List.mem_cons_self e (o.lm e) fd F
    refine recs_go Mo rs (Fs ++ [r.f Fs]) (lvl ++ [r.up]) os (fun r' hr => hF r' (List.mem_cons_of_mem _ hr)) (fun r' hr => hL r' (List.mem_cons_of_mem _ hr)) (by simp [hl]) (fun i r' hr => ?_) (fun k f l h1 h2 => ?_)
    · have := hz (i + 1) r' (by rw [List.getElem?_cons_succ]; exact hr)
      rw [List.length_append, List.length_singleton, Nat.add_assoc, Nat.add_comm 1 i]
      exact this
    · by_cases hk : k < Fs.length
      · rw [List.getElem?_append_left hk] at h1
        rw [List.getElem?_append_left (by rw [hl]; exact hk)] at h2
        exact h k f l h1 h2
      · have hk1 : k < (Fs ++ [r.f Fs]).length := (List.getElem?_eq_some_iff.mp h1).1
        rw [List.length_append, List.length_singleton] at hk1
        have e : k = Fs.length := by omega
        subst e
        rw [List.getElem?_append_right (Nat.le_refl _), Nat.sub_self] at h1
        rw [List.getElem?_append_right (by rw [hl]; exact Nat.le_refl _), hl, Nat.sub_self] at h2
        cases h1
        cases h2
        exact X
/-! ### what a law's head tells -/
/-- the def that hears; the class's __init__ -/
structure LD where
  b : List Stmt
  G : List (Str × Gv)
  rz : List Nat
  cl : List Str
  recs : List Rec
  law : Rec
  tf : List He.Defn
  fns : List Str
  hI : Nat
  hQ : Nat → Pos
  iI : Nat
  iQ : Nat → Pos
def LD.hd (L : LD) : He.DefD := ⟨("_law_heard", none), "_law_heard", "_law_heard", defArgs (topAt L.b L.hI), defBody (topAt L.b L.hI), defScope (topAt L.b L.hI), [], []⟩
def LD.id (L : LD) : He.DefD := ⟨("WashError", some "__init__"), "__init__", "WashError.__init__", defArgs (inClass (topAt L.b L.iI) 0), defBody (inClass (topAt L.b L.iI) 0), defScope (inClass (topAt L.b L.iI) 0), [], []⟩
def LD.fa (L : LD) : List He.Fa := .glo "_law_heard" :: .glo "WashError" :: .free "ValueError" :: .glo "law" :: L.G.map faOf
def LD.fn (L : LD) : List He.DefD := L.law.dd L.b :: L.hd :: L.id :: L.recs.map (Rec.dd L.b)
def LD.ex (L : LD) : PySem.W.Frag → Bool := exOf L.cl L.tf
abbrev LD.hk (L : LD) : PySem.W.Hook := He.hookX 5 L.fa L.fn [] L.tf L.ex
def LD.z (L : LD) (K : PySem.W.Frag) : Zt := zOf K L.fns L.cl L.tf
structure LOk (L : LD) : Prop where
  recs : RecsOk L.b L.G L.rz L.cl.length 1 L.tf [] L.recs
  law : RecOk L.b L.G L.rz L.cl.length 1 L.tf (lvls L.recs []) L.law
  law0 : L.law.rc = 0
  fns : L.fns = L.recs.map (·.name)
  lawN : L.law.name = "law"
  lawP : L.law.ps = (["script"] : List Str)
  g : L.G.all (gOk L.fns L.cl) = true
  cl : L.cl.getD 0 "" = "WashError"
  hb : defBody (topAt L.b L.hI) = heBody L.hQ
  hs : defScope (topAt L.b L.hI) = heSc
  hl : (L.hQ 1).line = (L.hQ 0).line
  ha : ∀ (kV doc pm : Value) (an : Option Addr) (cdv ct : Value) (us : List Value), us.length = 1 → bindArgs (PySem.W.fnOf "_law_heard" "_law_heard" (defArgs (topAt L.b L.hI)) (defBody (topAt L.b L.hI)) (defScope (topAt L.b L.hI)) .none kV doc pm an cdv ct) ⟨us, []⟩ = pure ((["call"] : List Str).zip us)
  ib : defBody (inClass (topAt L.b L.iI) 0) = inBody L.iQ
  is : defScope (inClass (topAt L.b L.iI) 0) = inSc
  ip : InPos L.iQ
  ia : ∀ (kV doc pm : Value) (an : Option Addr) (cdv ct : Value) (us : List Value), us.length = 2 → bindArgs (PySem.W.fnOf "__init__" "WashError.__init__" (defArgs (inClass (topAt L.b L.iI) 0)) (defBody (inClass (topAt L.b L.iI) 0)) (defScope (inClass (topAt L.b L.iI) 0)) .none kV doc pm an cdv ct) ⟨us, []⟩ = pure ((["self", "value"] : List Str).zip us)
  room : Room (L.law.lv + 1) callerA
section
variable {L : LD}
theorem LOk.zfa (o : LOk L) {i : Nat} {r : Rec} (h : L.recs[i]? = some r) : (L.z K).fa i = He.ga K r.name := by
  show He.ga K (L.fns.getD i "law") = _
  rw [o.fns, List.getD_eq_getElem?_getD, List.getElem?_map, h]
  rfl
theorem LOk.zlaw (o : LOk L) : (L.z K).fa L.recs.length = He.ga K L.law.name := by
  show He.ga K (L.fns.getD L.recs.length "law") = _
  rw [o.fns, o.lawN, List.getD_eq_getElem?_getD, List.getElem?_eq_none (by simp)]
  rfl
theorem LOk.fu (o : LOk L) (c : He.SaysD L.fa L.fn K) {r : Rec} (h : r ∈ L.recs) : ∃ fd, Fu K L.b r fd := by
  obtain ⟨fd, F⟩ := c.defs (d := r.dd L.b) (List.mem_cons_of_mem _ (List.mem_cons_of_mem _ (List.mem_cons_of_mem _ (List.mem_map.mpr ⟨r, h, rfl⟩))))
  exact ⟨fd, F⟩
theorem LOk.fl (o : LOk L) (c : He.SaysD L.fa L.fn K) : ∃ fd, Fu K L.b L.law fd := by
  obtain ⟨fd, F⟩ := c.defs (d := L.law.dd L.b) List.mem_cons_self
  exact ⟨fd, F⟩
theorem LOk.mem (o : LOk L) (e : Nat) : L.cl.getD e "WashError" ∈ L.cl := by
  have h0 := o.cl
  by_cases he : e < L.cl.length
  · rw [List.getD_eq_getElem?_getD, List.getElem?_eq_getElem he]
    exact List.getElem_mem he
  · rw [List.getD_eq_getElem?_getD, List.getElem?_eq_none (Nat.le_of_not_lt he)]
    show ("WashError" : Str) ∈ L.cl
    cases hc : L.cl with
    | nil =>
      rw [hc] at h0
      cases h0
    | cons x xs =>
      rw [hc] at h0
      have : x = "WashError" := h0
      rw [this]
      exact List.mem_cons_self
theorem LOk.hear (o : LOk L) (X : K.In base) (N : base.Ns mainGlobals mg) (c : He.SaysD L.fa L.fn K) (D : ExD L.cl L.tf K) : HearD K mg (L.z K) := by
  obtain ⟨fd, F⟩ := c.defs (d := L.hd) (List.mem_cons_of_mem _ List.mem_cons_self)
  have F' : FunD K "_law_heard" "_law_heard" (defArgs (topAt L.b L.hI)) (heBody L.hQ) heSc [] [] (He.ga K "_law_heard") fd := by
    rw [← o.hb, ← o.hs]
    exact F
  have hb : Binds K fd ["call"] [] := FunD.bindsN (ps := ["call"]) F (fun kV doc pm an cdv ct us hl => o.ha kV doc pm an cdv ct us hl)
  exact ⟨He.ga K "_law_heard", He.ga K "WashError", fd, _, L.hQ, F', hb, He.glo_ok X N (c.facts List.mem_cons_self), He.glo_ok X N (c.facts (List.mem_cons_of_mem _ List.mem_cons_self)), fun e => (D.cla _ (o.mem e)).xm, o.hl⟩
theorem LOk.lm (o : LOk L) (X : K.In base) (N : base.Ns mainGlobals mg) (c : He.SaysD L.fa L.fn K) (D : ExD L.cl L.tf K) (tb : ∀ p ∈ L.tf.map (He.cT K), LamX.TabB base mg p.1 p.2) {r : Rec} {fd : FuncData} (ht : (r.name, none) ∈ L.tf) (F : Fu K L.b r fd) : LmD K mg base (L.z K) fd r.name := by
  refine ⟨o.hear X N c D, (He.cT K (r.name, none)).1, (He.cT K (r.name, none)).2, tb _ (List.mem_map.mpr ⟨_, ht, rfl⟩), ?_, List.mem_map.mpr ⟨_, ht, rfl⟩, fun p hp e => ?_⟩
  · obtain ⟨oc, od, dV, kV, doc, pm, an, cdv, ct, osl, rfl, lk, hcd, _, _⟩ := F.ex
    obtain ⟨c', rfl⟩ := He.codeIn_ref hcd
    have z := He.codeOf_eq (p := (r.name, none)) lk rfl
    show Value.ref c' = .ref (He.codeOf K (r.name, none))
    rw [z]
  · obtain ⟨t, h1, rfl⟩ := List.mem_map.mp hp
    have z : t = (r.name, none) := nodup_inj D.nd t h1 _ ht e
    subst z
    rfl
theorem LOk.modu (o : LOk L) (X : K.In base) (N : base.Ns mainGlobals mg) (c : He.SaysD L.fa L.fn K) (D : ExD L.cl L.tf K) : Modu P w K mg base (L.z K) L.G L.rz 1 L.cl.length := by
  refine ⟨rfl, gv_of X N (fun p hp => c.facts (List.mem_cons_of_mem _ (List.mem_cons_of_mem _ (List.mem_cons_of_mem _ (List.mem_cons_of_mem _ (List.mem_map.mpr ⟨p, hp, rfl⟩)))))) o.g, fun e _ => ?_, fun _ => errD_of D o.cl⟩
  obtain ⟨fd, F⟩ := c.defs (d := L.id) (List.mem_cons_of_mem _ (List.mem_cons_of_mem _ List.mem_cons_self))
  have F' : FunD K "__init__" "WashError.__init__" (defArgs (inClass (topAt L.b L.iI) 0)) (inBody L.iQ) inSc [] [] (He.ma K (He.ga K "WashError") "__init__") fd := by
    rw [← o.ib, ← o.is]
    exact F
  have hb : Binds K fd ["self", "value"] [] := FunD.bindsN (ps := ["self", "value"]) F (fun kV doc pm an cdv ct us hl => o.ia kV doc pm an cdv ct us hl)
  have C := D.cla _ (o.mem e)
  exact raz_of (k := 0) F' hb o.ip (He.free_ok X N (c.facts (List.mem_cons_of_mem _ (List.mem_cons_of_mem _ List.mem_cons_self)))) D.vei C.ox C.nv C.ini D.fty
theorem LOk.fns_ok (o : LOk L) (X : K.In base) (N : base.Ns mainGlobals mg) (c : He.SaysD L.fa L.fn K) (D : ExD L.cl L.tf K) (tb : ∀ p ∈ L.tf.map (He.cT K), LamX.TabB base mg p.1 p.2) :
    ∀ (k : Nat) f l, (fnsOf L.recs [])[k]? = some f → (lvls L.recs [])[k]? = some l → FnX P w K mg base (L.z K) l k f :=
  recs_go (o.modu X N c D) L.recs [] [] o.recs (fun r hr => o.fu c hr) (fun r hr _ ht fd F => o.lm X N c D tb ht F) rfl (fun i r hr => by rw [List.length_nil, Nat.zero_add]; exact o.zfa hr) (fun k f l h => by cases h)
theorem LOk.law_ok (o : LOk L) (X : K.In base) (N : base.Ns mainGlobals mg) (c : He.SaysD L.fa L.fn K) (D : ExD L.cl L.tf K) (tb : ∀ p ∈ L.tf.map (He.cT K), LamX.TabB base mg p.1 p.2) {fd : FuncData} (F : Fu K L.b L.law fd) :
    FnG P w K mg base (L.law.lv + 1) (He.ga K L.law.name) fd ["script"] (spF (L.z K) (runF (fnsOf L.recs []) L.law.d)) := by
  have F' : FunD K L.law.name L.law.name (L.law.args L.b) (L.law.body L.b) (L.law.sc L.b) [] [] ((L.z K).fa L.recs.length) fd := by
    rw [o.zlaw]
    exact F
  have hb := rec_binds o.law F
  have ck := o.law.ck
  rw [o.law0] at ck
  have q := def_fnG (Fs := fnsOf L.recs []) (n := L.recs.length) (o.modu (P := P) (w := w) X N c D) F' hb o.law.sc (by rw [lvls_len, fnsOf_len]; exact Nat.le_refl _) (o.fns_ok X N c D tb) (fun e => o.lm X N c D tb (o.law.lm e) F) o.law.li o.law.n o.law.p o.law.pn ck
  rw [o.zlaw, o.lawP] at q
  exact q
theorem law_go (o : LOk L) {l : PySem.W.OpenLaw} {q : Program} {loose : List Str} {XP : (Str → Option Value) → Heap → Prop} {d : DefRec} (hn : l.most = some 63) (hdn : d.name = "law") (hdf : d.params.defaults = [])
    (h : ∀ ns : List Int, ns.length ≤ 63 → (∀ z ∈ ns, Builtin.Int.intBits z ≤ 1048576) → ∃ M, runF (fnsOf L.recs []) L.law.d noClo [.scr ns] [] = some (.ok ⟨.py (.bool true), false, M⟩)) :
    PySem.W.WalkO q loose XP L.hk.says l.row.toRowW d [] (fun f vs => PySem.call f vs) := by
  refine Att.attach_callB hn hdf fun w s₀ s₁ mg mb fa ob pm cd doc a vs ns G Y ho hd hcd hmg hobj hints hlen hbits hg => ?_
  obtain ⟨K, KX, S⟩ := Y
  have c : He.SaysD L.fa L.fn K := S.t.d
  have D : ExD L.cl L.tf K := exOf_ok S.more
  obtain ⟨fd, F⟩ := o.fl c
  have efa : fa = He.ga K L.law.name := by
    obtain ⟨oc, od, dV, kV, doc, pm, an, cdv, ct, osl, rfl, lk, hcd2, _, _⟩ := F.ex
    have z : mg L.law.name = some (.ref (He.ga K L.law.name)) := by
      rw [o.lawN]
      exact He.glo_ok KX G.T.g (c.facts (f := .glo "law") (List.mem_cons_of_mem _ (List.mem_cons_of_mem _ (List.mem_cons_of_mem _ List.mem_cons_self))))
    rw [hdn, ← o.lawN] at hmg
    rw [z] at hmg
    cases hmg
    rfl
  subst efa
  have hz : (63 : Nat) ≤ sizeLine := by decide
  have hb : ∀ (s : Shared) (u : Value), BindsTo s fd ⟨[u], []⟩ [("script", u)] := fun s u => by
    have := FunD.bindsA (ps := L.law.ps) F o.law.bi s [u] (by rw [o.lawP]; rfl)
    rw [o.lawP] at this
    exact this
  refine law_endG (cs := L.tf.map (He.cT K)) KX G.T.g G.T.b G.T.builtins G.T.nolimit hg (fun p hp => ?_) (fun p hp => ?_) (fun p hp => ?_) G.T.bmain hobj hints (Nat.le_trans hlen hz) o.room (fun base X N tb => o.law_ok X N c D tb F) hb fun H h1 h2 h3 => ?_
  · obtain ⟨t, ht, rfl⟩ := List.mem_map.mp hp
    exact S.empty t ht
  · obtain ⟨t, ht, rfl⟩ := List.mem_map.mp hp
    exact S.out t ht
  · obtain ⟨t, ht, rfl⟩ := List.mem_map.mp hp
    exact PySem.W.codeHd_of_K KX (S.hd t ht)
  · obtain ⟨M, hM⟩ := h ns hlen hbits
    refine ⟨[.scr ns], [], fun b => b = a ∧ H a = some (.lst (ns.map V.int)), [], ⟨fun b z => ⟨by rw [z.1, z.2]; simp, by simp⟩, rfl, fun n ps z => (by cases z), List.nodup_nil, fun p hp => ?_⟩, .cons (.scr ?_) .nil, _, hM, fun F' φ' H' v po g ro => ?_⟩
    · obtain ⟨t, ht, rfl⟩ := List.mem_map.mp hp
      exact LamX.TabS.nil (h1 _ (List.mem_map.mpr ⟨t, ht, rfl⟩))
    · rcases h3 with (h3 | h3) | h3
      · exact .inr (.inl ⟨⟨rfl, h3⟩, h3⟩)
      · exact .inl h3
      · exact .inr (.inr (.inr h3))
    · have r : Rep (L.z K).bare F' φ' H' v (.py (.bool true)) := ro
      cases r with
      | py r => cases r; rfl
end
end
end Ev

/-! Places of the common texts. -/
namespace Ev
open L2 PyProof.Rows PySem PySem.Spec
abbrev pos0 : Pos := ⟨0, 0, 0, 0⟩
def posH : List Stmt → List Pos
  | [.Assign [.Tuple [.Name _ q0, .Name _ q1] _ q2] (.Tuple [.Constant _ _ q3, .Constant _ _ q4] _ q5) q6, .Try [.Assign [.Name _ q7] (.Call (.Name _ q8) [] [] q9) q10] [.ExceptHandler (some (.Name _ q11)) _ [.Assign [.Name _ q12] (.Name _ q13) q14] q15] [] [] q16, .Return (some (.Tuple [.Name _ q17, .Name _ q18] _ q19)) q20] =>
    [q0, q1, q2, q3, q4, q5, q6, q7, q8, q9, q10, q11, q12, q13, q14, q15, q16, q17, q18, q19, q20]
  | _ => []
def posI : List Stmt → List Pos
  | [.Expr (.Call (.Attribute (.Name _ q0) _ q1) [.Name _ q2, .Name _ q3] [] q4) q5, .Assign [.Attribute (.Name _ q6) _ q7] (.Name _ q8) q9] => [q0, q1, q2, q3, q4, q5, q6, q7, q8, q9]
  | _ => []
def atP (l : List Pos) (n : Nat) : Pos := l.getD n pos0
/-- a call of a def that is known -/
def callF (f : Fn) (a : Ls) : RE := if cleanL (a.ds.map (·.1)) = true then bz (f noClo (a.ds.map (·.1)) a.M) fun o => some (.ok ⟨o.d, mdOf o.fr, fzs a.ds a.ρ, o.M⟩) else none
@[simp] theorem callF_d (f : Fn) (a : Ls) : callF f a = if cleanL (a.ds.map (·.1)) = true then bz (f noClo (a.ds.map (·.1)) a.M) fun o => some (.ok ⟨o.d, mdOf o.fr, fzs a.ds a.ρ, o.M⟩) else none := (rfl)
end Ev

/-! Evaluation by rewriting. -/
namespace Ev
open PySem
section
variable {α β γ : Type} {Fs : List Fn} {C : Nv → Clo} {ρ ρ1 : Nv} {M : Mem}
@[simp] theorem bz_ok (a : α) (k : α → Option (Rz β)) : bz (some (.ok a)) k = k a := (rfl)
@[simp] theorem bz_er (c : Nat) (p : PyData) (M : Mem) (k : α → Option (Rz β)) : bz (some (.er c p M)) k = some (.er c p M) := (rfl)
@[simp] theorem ob_s (a : α) (k : α → Option β) : ob (some a) k = k a := (rfl)
@[simp] theorem vl_d (d : D) (m : Md) : vl d m ρ M = some (.ok ⟨d, m, ρ, M⟩) := (rfl)
@[simp] theorem nx_d : nx ρ M = some (.ok (.nx ρ M)) := (rfl)
@[simp] theorem gi_d (i : Int) (k : Int → Option β) : gi (.py (.int i)) k = k i := (rfl)
@[simp] theorem outOf_rt (o : Ov) : outOf (some (.ok (.rt o))) = some (.ok o) := (rfl)
@[simp] theorem outOf_nx : outOf (some (.ok (.nx ρ M))) = some (.ok ⟨.py .none, false, M⟩) := (rfl)
@[simp] theorem outOf_er (c : Nat) (p : PyData) : outOf (some (.er c p M)) = some (.er c p M) := (rfl)
@[simp] theorem cl_py (p : PyData) : clean (.py p) = true := by unfold clean; rfl
@[simp] theorem cl_mt (xs : List D) : clean (.mt xs) = cleanL xs := by rw [clean]
@[simp] theorem cl_ml (xs : List D) : clean (.ml xs) = cleanL xs := by rw [clean]
@[simp] theorem cl_fn (k : Nat) : clean (.fn k) = true := by unfold clean; rfl
@[simp] theorem cl_exc (c : Nat) (p : PyData) : clean (.exc c p) = true := by unfold clean; rfl
@[simp] theorem cl_cel (n : Nat) : clean (.cel n) = true := by unfold clean; rfl
@[simp] theorem cl_scr (ns : List Int) : clean (.scr ns) = true := by unfold clean; rfl
@[simp] theorem cl_nil : cleanL [] = true := by unfold cleanL; rfl
@[simp] theorem cl_cons (x : D) (xs : List D) : cleanL (x :: xs) = (clean x && cleanL xs) := by rw [cleanL]
theorem cl_pys : ∀ (ps : List PyData), cleanL (ps.map D.py) = true
  | [] => cl_nil
  | p :: ps => by rw [List.map_cons, cl_cons, cl_py, cl_pys ps]; rfl
@[simp] theorem outC_ok (o : Ov) : outC (some (.ok o)) = if clean o.d = true then some (.ok o) else none := (rfl)
@[simp] theorem outC_er (c : Nat) (p : PyData) : outC (some (.er c p M)) = some (.er c p M) := (rfl)
@[simp] theorem outC_no : outC none = none := (rfl)
@[simp] theorem e_lam (k : Nat) : evE Fs C (.lam k) ρ M = some (.ok ⟨.clo k, .sh, ρ, M⟩) := (rfl)
@[simp] theorem frOf_sh : frOf ρ .sh = false := (rfl)
@[simp] theorem frOf_fr : frOf ρ .fr = true := (rfl)
@[simp] theorem mdOf_t : mdOf true = .fr := (rfl)
@[simp] theorem mdOf_f : mdOf false = .sh := (rfl)
@[simp] theorem fz_sh : fz .sh ρ = ρ := (rfl)
@[simp] theorem fz_fr : fz .fr ρ = ρ := (rfl)
@[simp] theorem fz_bo (i : Nat) : fz (.bo i) ρ = unown ρ i := (rfl)
@[simp] theorem fzs_n : fzs [] ρ = ρ := (rfl)
@[simp] theorem fzs_c (p : D × Md) (ps : List (D × Md)) : fzs (p :: ps) ρ = fzs ps (fz p.2 ρ) := (rfl)
@[simp] theorem liftO_s (p : D × Bool) : liftO (some p) ρ M = some (.ok ⟨p.1, mdOf p.2, ρ, M⟩) := (rfl)
/-! variables -/
theorem var_sh {i : Nat} {d : D} (h : ρ[i]? = some (some (d, false))) : evE Fs C (.var i) ρ M = some (.ok ⟨d, .sh, ρ, M⟩) := by
  unfold evE
  rw [h] <;> rfl
theorem var_ow {i : Nat} {d : D} (h : ρ[i]? = some (some (d, true))) : evE Fs C (.var i) ρ M = some (.ok ⟨d, .bo i, ρ, M⟩) := by
  unfold evE
  rw [h] <;> rfl
theorem unown_ow {i : Nat} {d : D} (h : ρ[i]? = some (some (d, true))) : unown ρ i = ρ.set i (some (d, false)) := by
  unfold unown
  rw [h] <;> rfl
theorem unown_sh {i : Nat} {d : D} (h : ρ[i]? = some (some (d, false))) : unown ρ i = ρ := by
  unfold unown
  rw [h] <;> rfl
theorem owned_ow {i : Nat} {d : D} (h : ρ[i]? = some (some (d, true))) : owned ρ i = some d := by
  unfold owned
  rw [h] <;> rfl
theorem frOf_ow {i : Nat} {d : D} (h : ρ[i]? = some (some (d, true))) : frOf ρ (.bo i) = true := by
  show (match ρ[i]? with
    | some (some (_, true)) => true
    | _ => false) = _
  rw [h] <;> rfl
theorem frOf_bo {i : Nat} {d : D} (h : ρ[i]? = some (some (d, false))) : frOf ρ (.bo i) = false := by
  show (match ρ[i]? with
    | some (some (_, true)) => true
    | _ => false) = _
  rw [h] <;> rfl
def vget (i : Nat) (ρ : Nv) (M : Mem) : Option Slot → RE
  | some (some (d, true)) => some (.ok ⟨d, .bo i, ρ, M⟩)
  | some (some (d, false)) => some (.ok ⟨d, .sh, ρ, M⟩)
  | _ => none
@[simp] theorem vget_t (i : Nat) (d : D) : vget i ρ M (some (some (d, true))) = some (.ok ⟨d, .bo i, ρ, M⟩) := (rfl)
@[simp] theorem vget_f (i : Nat) (d : D) : vget i ρ M (some (some (d, false))) = some (.ok ⟨d, .sh, ρ, M⟩) := (rfl)
@[simp] theorem e_var (i : Nat) : evE Fs C (.var i) ρ M = vget i ρ M ρ[i]? := by
  unfold evE vget
  split <;> simp_all
def uget (i : Nat) (ρ : Nv) : Option Slot → Nv
  | some (some (d, true)) => ρ.set i (some (d, false))
  | _ => ρ
@[simp] theorem uget_t (i : Nat) (d : D) : uget i ρ (some (some (d, true))) = ρ.set i (some (d, false)) := (rfl)
@[simp] theorem uget_f (i : Nat) (d : D) : uget i ρ (some (some (d, false))) = ρ := (rfl)
@[simp] theorem unown_ (i : Nat) : unown ρ i = uget i ρ ρ[i]? := by
  unfold unown uget
  split <;> simp_all
def oget : Option Slot → Option D
  | some (some (d, true)) => some d
  | _ => none
@[simp] theorem oget_t (d : D) : oget (some (some (d, true))) = some d := (rfl)
@[simp] theorem owned_ (i : Nat) : owned ρ i = oget ρ[i]? := by
  unfold owned oget
  split <;> simp_all
def fget : Option Slot → Bool
  | some (some (_, true)) => true
  | _ => false
@[simp] theorem fget_t (d : D) : fget (some (some (d, true))) = true := (rfl)
@[simp] theorem fget_f (d : D) : fget (some (some (d, false))) = false := (rfl)
@[simp] theorem frOf_ (i : Nat) : frOf ρ (.bo i) = fget ρ[i]? := by
  show (match ρ[i]? with
    | some (some (_, true)) => true
    | _ => false) = _
  unfold fget
  split <;> simp_all
/-! terms -/
@[simp] theorem e_no : evE Fs C .no ρ M = some (.ok ⟨.py (.bool true), .sh, ρ, M⟩) := by unfold evE; rfl
@[simp] theorem e_lit (p : PyData) : evE Fs C (.lit p) ρ M = some (.ok ⟨.py p, .sh, ρ, M⟩) := by unfold evE; rfl
@[simp] theorem e_gli (x : Str) (i : Int) : evE Fs C (.gli x i) ρ M = some (.ok ⟨.py (.int i), .sh, ρ, M⟩) := by unfold evE; rfl
@[simp] theorem e_gls (x s : Str) : evE Fs C (.gls x s) ρ M = some (.ok ⟨.py (.str s), .sh, ρ, M⟩) := by unfold evE; rfl
@[simp] theorem e_glf (k : Nat) : evE Fs C (.glf k) ρ M = some (.ok ⟨.fn k, .sh, ρ, M⟩) := by unfold evE; rfl
@[simp] theorem e_tup (es : Es) : evE Fs C (.tup es) ρ M = bz (evL Fs C es ρ M) fun a => if a.ds.length ≤ sizeLine then some (.ok ⟨mkT (a.ds.map (·.1)), .sh, fzs a.ds a.ρ, a.M⟩) else none := (rfl)
@[simp] theorem e_lst (es : Es) : evE Fs C (.lst es) ρ M = bz (evL Fs C es ρ M) fun a => if a.ds.length ≤ sizeLine then some (.ok ⟨mkL (a.ds.map (·.1)), .fr, fzs a.ds a.ρ, a.M⟩) else none := (rfl)
@[simp] theorem e_bin (o : Op2) (a b : E) : evE Fs C (.bin o a b) ρ M = bz (evE Fs C a ρ M) fun x => bz (evE Fs C b x.ρ x.M) fun y => liftO (o2 o x.d y.d) y.ρ y.M := (rfl)
@[simp] theorem e_neg (a : E) : evE Fs C (.neg a) ρ M = bz (evE Fs C a ρ M) fun x => gi x.d fun i => some (.ok ⟨.py (.int (-i)), .sh, x.ρ, x.M⟩) := (rfl)
@[simp] theorem e_not (a : E) : evE Fs C (.not a) ρ M = bz (evE Fs C a ρ M) fun x => ob (tru x.d) fun b => some (.ok ⟨.py (.bool (!b)), .sh, x.ρ, x.M⟩) := (rfl)
@[simp] theorem e_bop (k : Bool) (es : Es) : evE Fs C (.bop k es) ρ M = evB Fs C k es ρ M := (rfl)
@[simp] theorem e_cmp (a : E) (os : List Cm) (es : Es) : evE Fs C (.cmp a os es) ρ M = bz (evE Fs C a ρ M) fun x => evC Fs C os es x.d x.ρ x.M := (rfl)
@[simp] theorem e_ite (c a b : E) : evE Fs C (.ite c a b) ρ M = bz (evE Fs C c ρ M) fun x => ob (tru x.d) fun t => if t = true then evE Fs C a x.ρ x.M else evE Fs C b x.ρ x.M := (rfl)
@[simp] theorem e_ix (a b : E) : evE Fs C (.ix a b) ρ M = bz (evE Fs C a ρ M) fun x => bz (evE Fs C b x.ρ x.M) fun y => ob (ixD y.M x.d y.d) fun d => some (.ok ⟨d, .sh, y.ρ, y.M⟩) := (rfl)
@[simp] theorem e_rev (a : E) : evE Fs C (.rev a) ρ M = bz (evE Fs C a ρ M) fun x => liftO (revD x.d) x.ρ x.M := (rfl)
@[simp] theorem e_call (k : Nat) (es : Es) : evE Fs C (.call k es) ρ M = bz (evL Fs C es ρ M) fun a => callV Fs k a := (rfl)
@[simp] theorem e_bi (b : Bi) (es : Es) : evE Fs C (.bi b es) ρ M = bz (evL Fs C es ρ M) fun a => liftO (bi b (a.ds.map (·.1))) a.ρ a.M := (rfl)
@[simp] theorem e_isi (t : Ty) (e : E) : evE Fs C (.isi t e) ρ M = bz (evE Fs C e ρ M) fun x => ob (isi t x.d) fun b => some (.ok ⟨.py (.bool b), .sh, x.ρ, x.M⟩) := (rfl)
@[simp] theorem e_attr (a : E) : evE Fs C (.attr a) ρ M = bz (evE Fs C a ρ M) fun x => ob (attrD x.d) fun d => some (.ok ⟨d, .sh, x.ρ, x.M⟩) := (rfl)
@[simp] theorem e_lsrc (s : Src) : evE Fs C (.lsrc s) ρ M = bz (evSrc Fs C s ρ M) fun s => ob (items s.d) fun xs => some (.ok ⟨mkL xs, .fr, s.ρ, s.M⟩) := (rfl)
@[simp] theorem l_nil : evL Fs C .nil ρ M = some (.ok ⟨[], ρ, M⟩) := by unfold evL; rfl
@[simp] theorem l_cons (e : E) (es : Es) : evL Fs C (.cons false e es) ρ M = bz (evE Fs C e ρ M) fun x => bz (evL Fs C es x.ρ x.M) fun a => some (.ok ⟨(x.d, x.m) :: a.ds, a.ρ, a.M⟩) := (rfl)
@[simp] theorem l_star (e : E) (es : Es) : evL Fs C (.cons true e es) ρ M = bz (evE Fs C e ρ M) fun x => ob (items x.d) fun xs => bz (evL Fs C es x.ρ x.M) fun a => some (.ok ⟨xs.map (fun x => (x, Md.sh)) ++ a.ds, a.ρ, a.M⟩) := (rfl)
@[simp] theorem b_one (k s : Bool) (e : E) : evB Fs C k (.cons s e .nil) ρ M = evE Fs C e ρ M := by unfold evB; rfl
@[simp] theorem b_two (k s s2 : Bool) (e e2 : E) (es : Es) : evB Fs C k (.cons s e (.cons s2 e2 es)) ρ M = bz (evE Fs C e ρ M) fun x => ob (tru x.d) fun b => if b = k then evB Fs C k (.cons s2 e2 es) x.ρ x.M else some (.ok ⟨x.d, x.m, x.ρ, x.M⟩) := (rfl)
@[simp] theorem c_one (o : Cm) (s : Bool) (e : E) (x : D) : evC Fs C [o] (.cons s e .nil) x ρ M = bz (evE Fs C e ρ M) fun y => ob (cm o x y.d) fun b => some (.ok ⟨.py (.bool b), .sh, y.ρ, y.M⟩) := (rfl)
@[simp] theorem c_two (o : Cm) (os : List Cm) (s s2 : Bool) (e e2 : E) (es : Es) (x : D) : evC Fs C (o :: os) (.cons s e (.cons s2 e2 es)) x ρ M = bz (evE Fs C e ρ M) fun y => ob (cm o x y.d) fun b => if b = true then evC Fs C os (.cons s2 e2 es) y.d y.ρ y.M else some (.ok ⟨.py (.bool false), .sh, y.ρ, y.M⟩) := by
  cases os <;> rfl
@[simp] theorem s_it_ (e : E) : evSrc Fs C (.it e) ρ M = bz (evE Fs C e ρ M) fun x => ob (items x.d) fun _ => some (.ok x) := (rfl)
@[simp] theorem s_r1 (b : E) : evSrc Fs C (.rng1 b) ρ M = bz (evE Fs C b ρ M) fun y => gi y.d fun j => ob (rngL 0 j 1) fun xs => some (.ok ⟨.ml xs, .sh, y.ρ, y.M⟩) := (rfl)
@[simp] theorem s_r2 (a b : E) : evSrc Fs C (.rng2 a b) ρ M = bz (evE Fs C a ρ M) fun x => gi x.d fun i => bz (evE Fs C b x.ρ x.M) fun y => gi y.d fun j => ob (rngL i j 1) fun xs => some (.ok ⟨.ml xs, .sh, y.ρ, y.M⟩) := (rfl)
@[simp] theorem s_en (e : E) : evSrc Fs C (.enu e) ρ M = bz (evE Fs C e ρ M) fun x => ob (items x.d) fun xs => some (.ok ⟨.ml (enuFrom 0 xs), x.m, x.ρ, x.M⟩) := (rfl)
@[simp] theorem s_zp (a b : E) : evSrc Fs C (.zip a b) ρ M = bz (evE Fs C a ρ M) fun x => bz (evE Fs C b x.ρ x.M) fun y => ob (items x.d) fun xs => ob (items y.d) fun ys => if isLst x.d != isLst y.d then none else some (.ok ⟨.ml (zipL xs ys), .sh, fz y.m (fz x.m y.ρ), y.M⟩) := (rfl)
def compE (Fs : List Fn) (C : Nv → Clo) (t : T) (cond elt : E) (own : List Nat) (xs : List D) (ρ : Nv) (M : Mem) : Option Cv := compL (bindT t) (fun ρ M => evE Fs C cond ρ M) (fun ρ M => evE Fs C elt ρ M) own xs ρ M
def forE (Fs : List Fn) (C : Nv → Clo) (t : T) (body : Ss) (xs : List D) (ρ : Nv) (M : Mem) : RS := forL (bindT t) (fun ρ M => evSs Fs C body ρ M) xs ρ M
@[simp] theorem e_comp (own : List (Str × Nat)) (t : T) (src : Src) (cond elt : E) : evE Fs C (.comp own t src cond elt) ρ M = bz (evSrc Fs C src ρ M) fun s => ob (items s.d) fun xs => if xs.length ≤ sizeLine then
      ob (compE Fs C t cond elt (own.map (·.2)) xs (wipeN s.ρ (own.map (·.2))) s.M) fun r => some (.ok ⟨mkL r.xs, .fr, backN s.ρ r.ρ (own.map (·.2)), r.M⟩)
      else none := (rfl)
@[simp] theorem e_hearL (a : E) : evE Fs C (.hearL a) ρ M = (match evE Fs C a (frzAll ρ) M with
    | some (.ok x) => some (.ok ⟨mkT [.py .none, x.d], .sh, fz x.m x.ρ, x.M⟩)
    | some (.er c p M1) => some (.ok ⟨mkT [.exc c p, .py .none], .sh, frzAll ρ, M1⟩)
    | none => none) := (rfl)
@[simp] theorem e_cv (ks : List Nat) (f : E) (es : Es) : evE Fs C (.cv ks f es) ρ M = bz (evE Fs C f ρ M) fun x => (match x.d with
    | .fn k => if ks.contains k = true then ob Fs[k]? fun _ => bz (evL Fs C es x.ρ x.M) fun a => callV Fs k a else none
    | _ => none) := (rfl)
/-! statements -/
@[simp] theorem t_asg (t : T) (e : E) : evS Fs C (.asg t e) ρ M = bz (evE Fs C e ρ M) fun x => ob (store t x.d x.m x.ρ) fun ρ2 => some (.ok (.nx ρ2 x.M)) := (rfl)
@[simp] theorem t_par (is : List Nat) (es : Es) : evS Fs C (.par is es) ρ M = bz (evL Fs C es ρ M) fun a => ob (storeAll is a.ds a.ρ) fun ρ2 => some (.ok (.nx ρ2 a.M)) := (rfl)
@[simp] theorem t_set (i : Nat) (ix v : E) : evS Fs C (.set i ix v) ρ M = ob (hasX ρ i) fun _ => bz (evE Fs C v ρ M) fun x => bz (evE Fs C ix (fz x.m x.ρ) x.M) fun y => gi y.d fun k => putX i k x.d y.ρ y.M := (rfl)
@[simp] theorem t_app (i : Nat) (e : E) : evS Fs C (.app i e) ρ M = ob (owned ρ i) fun _ => bz (evE Fs C e ρ M) fun x => ob (owned (fz x.m x.ρ) i) fun l => ob (appD l x.d) fun l' => some (.ok (.nx ((fz x.m x.ρ).set i (some (l', true))) x.M)) := (rfl)
@[simp] theorem t_ext (i : Nat) (e : E) : evS Fs C (.ext i e) ρ M = ob (owned ρ i) fun _ => bz (evE Fs C e ρ M) fun x => ob (owned (fz x.m x.ρ) i) fun l => ob (extD l x.d) fun l' => some (.ok (.nx ((fz x.m x.ρ).set i (some (l', true))) x.M)) := (rfl)
@[simp] theorem t_ex (e : E) : evS Fs C (.ex e) ρ M = bz (evE Fs C e ρ M) fun x => some (.ok (.nx x.ρ x.M)) := (rfl)
@[simp] theorem t_ret (e : E) : evS Fs C (.ret e) ρ M = bz (evE Fs C e ρ M) fun x => some (.ok (.rt ⟨x.d, frOf x.ρ x.m, x.M⟩)) := (rfl)
@[simp] theorem t_retn : evS Fs C .retn ρ M = some (.ok (.rt ⟨.py .none, false, M⟩)) := by unfold evS; rfl
@[simp] theorem t_ifs (c : E) (a b : Ss) : evS Fs C (.ifs c a b) ρ M = bz (evE Fs C c ρ M) fun x => ob (tru x.d) fun t => if t = true then evSs Fs C a x.ρ x.M else evSs Fs C b x.ρ x.M := (rfl)
@[simp] theorem t_for (t : T) (src : Src) (body : Ss) : evS Fs C (.for_ t src body) ρ M = bz (evSrc Fs C src ρ M) fun s => ob (items s.d) fun xs => forE Fs C t body xs (fz s.m s.ρ) s.M := (rfl)
@[simp] theorem t_rai (c : Nat) (e : E) : evS Fs C (.rai c e) ρ M = bz (evE Fs C e ρ M) fun x => (match x.d with
    | .py p => some (.er c p x.M)
    | _ => none) := (rfl)
@[simp] theorem t_pas : evS Fs C .pas ρ M = some (.ok (.nx ρ M)) := by unfold evS; rfl
@[simp] theorem t_brk : evS Fs C .brk ρ M = some (.ok (.br ρ M)) := by unfold evS; rfl
@[simp] theorem t_cnt : evS Fs C .cnt ρ M = some (.ok (.ct ρ M)) := by unfold evS; rfl
@[simp] theorem ss_nil : evSs Fs C .nil ρ M = some (.ok (.nx ρ M)) := by unfold evSs; rfl
@[simp] theorem ss_cons (s : S) (ss : Ss) : evSs Fs C (.cons s ss) ρ M = bz (evS Fs C s ρ M) fun f => (match f with
    | .nx ρ1 M1 => evSs Fs C ss ρ1 M1
    | f => some (.ok f)) := (rfl)
theorem callV_at {k : Nat} {f : Fn} (h : Fs[k]? = some f) (a : Ls) : callV Fs k a = callF f a := by
  unfold callV
  rw [h] <;> rfl
/-! stores -/
@[simp] theorem st_fr (i : Nat) (d : D) : store (.nm i) d .fr ρ = some (ρ.set i (some (d, true))) := (rfl)
@[simp] theorem st_sh (i : Nat) (d : D) : store (.nm i) d .sh ρ = some (ρ.set i (some (d, false))) := (rfl)
@[simp] theorem st_bo (i j : Nat) (d : D) : store (.nm i) d (.bo j) ρ = some ((unown ρ j).set i (some (d, false))) := (rfl)
@[simp] theorem st_tp (ts : List T) (d : D) (m : Md) : store (.tp ts) d m ρ = bindT (.tp ts) d (fz m ρ) := by
  unfold store
  cases m <;> rfl
@[simp] theorem bd_nm (i : Nat) (d : D) : bindT (.nm i) d ρ = some (ρ.set i (some (d, false))) := (rfl)
@[simp] theorem bd_tp (ts : List T) (d : D) : bindT (.tp ts) d ρ = ob (itemsT d) fun ds => bindTs ts ds ρ := (rfl)
@[simp] theorem bds_nil : bindTs [] [] ρ = some ρ := (rfl)
@[simp] theorem bds_cons (t : T) (ts : List T) (d : D) (ds : List D) : bindTs (t :: ts) (d :: ds) ρ = ob (bindT t d ρ) fun ρ1 => bindTs ts ds ρ1 := (rfl)
@[simp] theorem stA (is : List Nat) (ps : List (D × Md)) : storeAll is ps ρ = setAll is ps (fzs ps ρ) := (rfl)
@[simp] theorem sA_nil : setAll [] [] ρ = some ρ := (rfl)
@[simp] theorem sA_fr (i : Nat) (is : List Nat) (d : D) (ps : List (D × Md)) : setAll (i :: is) ((d, .fr) :: ps) ρ = setAll is ps (ρ.set i (some (d, true))) := (rfl)
@[simp] theorem sA_sh (i : Nat) (is : List Nat) (d : D) (ps : List (D × Md)) : setAll (i :: is) ((d, .sh) :: ps) ρ = setAll is ps (ρ.set i (some (d, false))) := (rfl)
@[simp] theorem sA_bo (i j : Nat) (is : List Nat) (d : D) (ps : List (D × Md)) : setAll (i :: is) ((d, .bo j) :: ps) ρ = setAll is ps (ρ.set i (some (d, false))) := (rfl)
@[simp] theorem wN_nil : wipeN ρ [] = ρ := (rfl)
@[simp] theorem wN_cons (v : Nat) (vs : List Nat) : wipeN ρ (v :: vs) = (wipeN ρ vs).set v none := (rfl)
@[simp] theorem bN_nil : backN ρ1 ρ [] = ρ := (rfl)
@[simp] theorem bN_cons (v : Nat) (vs : List Nat) : backN ρ1 ρ (v :: vs) = (backN ρ1 ρ vs).set v (ρ1.getD v none) := (rfl)
@[simp] theorem frz_nil : frzAll [] = [] := (rfl)
@[simp] theorem frz_n : frzAll (none :: ρ) = none :: frzAll ρ := (rfl)
@[simp] theorem frz_s (d : D) (b : Bool) : frzAll (some (d, b) :: ρ) = some (d, false) :: frzAll ρ := (rfl)
/-! values -/
@[simp] theorem all_nil : allPy [] = some [] := (rfl)
@[simp] theorem all_py (p : PyData) (r : List D) : allPy (.py p :: r) = ob (allPy r) fun ps => some (p :: ps) := by
  rw [show allPy (.py p :: r) = (match allPy r with | some ps => some (p :: ps) | none => none) from rfl]
  cases allPy r <;> rfl
@[simp] theorem all_map : ∀ ps : List PyData, allPy (ps.map .py) = some ps
  | [] => rfl
  | p :: ps => by rw [List.map_cons, all_py, all_map ps]; rfl
@[simp] theorem all_exc (c : Nat) (p : PyData) (r : List D) : allPy (.exc c p :: r) = none := (rfl)
@[simp] theorem all_fn (c : Nat) (r : List D) : allPy (.fn c :: r) = none := (rfl)
@[simp] theorem mkT_py {ds : List D} {ps : List PyData} (h : allPy ds = some ps) : mkT ds = .py (.tuple ps) := by
  unfold mkT
  rw [h]
@[simp] theorem mkL_py {ds : List D} {ps : List PyData} (h : allPy ds = some ps) : mkL ds = .py (.list ps) := by
  unfold mkL
  rw [h]
@[simp] theorem mkT_mt {ds : List D} (h : allPy ds = none) : mkT ds = .mt ds := by
  unfold mkT
  rw [h]
@[simp] theorem mkL_ml {ds : List D} (h : allPy ds = none) : mkL ds = .ml ds := by
  unfold mkL
  rw [h]
@[simp] theorem it_t (ps : List PyData) : items (.py (.tuple ps)) = some (ps.map .py) := (rfl)
@[simp] theorem it_l (ps : List PyData) : items (.py (.list ps)) = some (ps.map .py) := (rfl)
@[simp] theorem it_mt (ds : List D) : items (.mt ds) = some ds := (rfl)
@[simp] theorem it_ml (ds : List D) : items (.ml ds) = some ds := (rfl)
@[simp] theorem itT_t (ps : List PyData) : itemsT (.py (.tuple ps)) = some (ps.map .py) := (rfl)
@[simp] theorem itT_mt (ds : List D) : itemsT (.mt ds) = some ds := (rfl)
@[simp] theorem isL_l (ps : List PyData) : isLst (.py (.list ps)) = true := (rfl)
@[simp] theorem isL_t (ps : List PyData) : isLst (.py (.tuple ps)) = false := (rfl)
@[simp] theorem tru_n : tru (.py .none) = some false := (rfl)
@[simp] theorem tru_b (b : Bool) : tru (.py (.bool b)) = some b := (rfl)
@[simp] theorem tru_i (i : Int) : tru (.py (.int i)) = some (i != 0) := (rfl)
@[simp] theorem tru_t (ps : List PyData) : tru (.py (.tuple ps)) = some (!ps.isEmpty) := (rfl)
@[simp] theorem tru_l (ps : List PyData) : tru (.py (.list ps)) = some (!ps.isEmpty) := (rfl)
@[simp] theorem add_i (i j : Int) : o2 .add (.py (.int i)) (.py (.int j)) = some (.py (.int (i + j)), false) := (rfl)
@[simp] theorem sub_i (i j : Int) : o2 .sub (.py (.int i)) (.py (.int j)) = some (.py (.int (i - j)), false) := (rfl)
@[simp] theorem add_t (xs ys : List PyData) : o2 .add (.py (.tuple xs)) (.py (.tuple ys)) = if xs.length + ys.length ≤ sizeLine then some (.py (.tuple (xs ++ ys)), false) else none := by
  have e : oTup (.py (.tuple xs)) (.py (.tuple ys)) = if xs.length + ys.length ≤ sizeLine then some (.py (.tuple (xs ++ ys)), false) else none := (rfl)
  have e2 : o2 .add (.py (.tuple xs)) (.py (.tuple ys)) = orO oTup oLst (.py (.tuple xs)) (.py (.tuple ys)) := (rfl)
  rw [e2]
  unfold orO
  rw [e]
  split
  · rename_i h
    rw [← h]
  · rename_i h
    rw [h] <;> rfl
@[simp] theorem add_l (xs ys : List PyData) : o2 .add (.py (.list xs)) (.py (.list ys)) = if xs.length + ys.length ≤ sizeLine then some (.py (.list (xs ++ ys)), true) else none := (rfl)
@[simp] theorem le_i (i j : Int) : cm .le (.py (.int i)) (.py (.int j)) = some (decide (i ≤ j)) := (rfl)
@[simp] theorem lt_i (i j : Int) : cm .lt (.py (.int i)) (.py (.int j)) = some (decide (i < j)) := (rfl)
@[simp] theorem ge_i (i j : Int) : cm .ge (.py (.int i)) (.py (.int j)) = some (decide (j ≤ i)) := (rfl)
@[simp] theorem gt_i (i j : Int) : cm .gt (.py (.int i)) (.py (.int j)) = some (decide (j < i)) := (rfl)
@[simp] theorem eq_i (i j : Int) : cm .eq (.py (.int i)) (.py (.int j)) = some (i == j) := (rfl)
@[simp] theorem ne_i (i j : Int) : cm .ne (.py (.int i)) (.py (.int j)) = some (!(i == j)) := (rfl)
@[simp] theorem eq_s (i j : Str) : cm .eq (.py (.str i)) (.py (.str j)) = some (decide (i = j)) := (rfl)
@[simp] theorem ne_s (i j : Str) : cm .ne (.py (.str i)) (.py (.str j)) = some (!decide (i = j)) := (rfl)
@[simp] theorem is_n (p : PyData) : cm .is (.py p) (.py .none) = some (match p with | .none => true | _ => false) := by cases p <;> rfl
@[simp] theorem isn_n (p : PyData) : cm .isnot (.py p) (.py .none) = some (match p with | .none => false | _ => true) := by cases p <;> rfl
@[simp] theorem is_e (c : Nat) (p : PyData) : cm .is (.exc c p) (.py .none) = some false := (rfl)
@[simp] theorem isn_e (c : Nat) (p : PyData) : cm .isnot (.exc c p) (.py .none) = some true := (rfl)
@[simp] theorem len_t (xs : List PyData) : bi .len [.py (.tuple xs)] = some (.py (.int xs.length), false) := (rfl)
@[simp] theorem len_l (xs : List PyData) : bi .len [.py (.list xs)] = some (.py (.int xs.length), false) := (rfl)
@[simp] theorem len_mt (xs : List D) : bi .len [.mt xs] = some (.py (.int xs.length), false) := (rfl)
@[simp] theorem len_ml (xs : List D) : bi .len [.ml xs] = some (.py (.int xs.length), false) := (rfl)
@[simp] theorem len_sc (xs : List Int) : bi .len [.scr xs] = some (.py (.int xs.length), false) := (rfl)
@[simp] theorem tup_t (xs : List PyData) : bi .tuple [.py (.tuple xs)] = some (.py (.tuple xs), false) := (rfl)
@[simp] theorem tup_l (xs : List PyData) : bi .tuple [.py (.list xs)] = some (.py (.tuple xs), false) := (rfl)
@[simp] theorem lst_t (xs : List PyData) : bi .list [.py (.tuple xs)] = some (.py (.list xs), true) := (rfl)
@[simp] theorem lst_l (xs : List PyData) : bi .list [.py (.list xs)] = some (.py (.list xs), true) := (rfl)
@[simp] theorem int_i (i : Int) : bi .int [.py (.int i)] = some (.py (.int i), false) := (rfl)
@[simp] theorem int_b (b : Bool) : bi .int [.py (.bool b)] = some (.py (.int (if b then 1 else 0)), false) := (rfl)
@[simp] theorem min_i (i j : Int) : bi .min [.py (.int i), .py (.int j)] = some (.py (.int (if j < i then j else i)), false) := (rfl)
@[simp] theorem max_i (i j : Int) : bi .max [.py (.int i), .py (.int j)] = some (.py (.int (if j > i then j else i)), false) := (rfl)
@[simp] theorem abs_i (i : Int) : bi .abs [.py (.int i)] = some (.py (.int (if i < 0 then -i else i)), false) := (rfl)
@[simp] theorem ext_l (ps qs : List PyData) : extD (.py (.list ps)) (.py (.list qs)) = if ps.length + qs.length ≤ sizeLine then some (.py (.list (ps ++ qs))) else none := (rfl)
@[simp] theorem app_l (ps : List PyData) (p : PyData) : appD (.py (.list ps)) (.py p) = if ps.length < sizeLine then some (.py (.list (ps ++ [p]))) else none := (rfl)
@[simp] theorem eq_b (a b : Bool) : cm .eq (.py (.bool a)) (.py (.bool b)) = some (a == b) := (rfl)
@[simp] theorem ne_b (a b : Bool) : cm .ne (.py (.bool a)) (.py (.bool b)) = some (!(a == b)) := (rfl)
theorem allB_map : ∀ bs : List Bool, allB (bs.map .bool) = some bs
  | [] => rfl
  | b :: bs => by
    rw [List.map_cons]
    unfold allB
    rw [allB_map bs]
theorem allI_map : ∀ bs : List Int, allI (bs.map .int) = some bs
  | [] => rfl
  | b :: bs => by
    rw [List.map_cons]
    unfold allI
    rw [allI_map bs]
@[simp] theorem all_b (bs : List Bool) : bi .all [.py (.list (bs.map .bool))] = some (.py (.bool (bs.all id)), false) := by
  show ob (allB _) _ = _
  rw [allB_map] <;> rfl
@[simp] theorem any_b (bs : List Bool) : bi .any [.py (.list (bs.map .bool))] = some (.py (.bool (bs.any id)), false) := by
  show ob (allB _) _ = _
  rw [allB_map] <;> rfl
@[simp] theorem sum_i (bs : List Int) : bi .sum [.py (.list (bs.map .int))] = some (.py (.int bs.sum), false) := by
  show ob (allI _) _ = _
  rw [allI_map] <;> rfl
theorem rngL_up {n : Nat} (h : n ≤ sizeLine) : rngL 0 (n : Int) 1 = some ((List.range n).map fun (i : Nat) => .py (.int i)) := by
  have hz : sizeLine < 2 ^ 40 := by decide
  have e : rngN 0 (n : Int) 1 = n := by rw [rngN1]; omega
  unfold rngL
  rw [e, if_pos (by simp only [Bool.and_eq_true, decide_eq_true_eq]; omega)]
  congr 1
  refine List.map_congr_left fun i _ => ?_
  rw [Int.mul_one, Int.zero_add]
/-! turns -/
/-- a comprehension whose turns change nothing -/
theorem compL_pure {bind : D → Nv → Option Nv} {cond elt : Nv → Mem → RE} {own : List Nat} {α : Type} (emb : α → D) (P : α → Bool) (g : α → D) (at_ : α → Nv) : ∀ (xs : List α) (ρ : Nv) (M : Mem),
    (∀ x ∈ xs, bind (emb x) ρ = some (at_ x)) → (∀ x ∈ xs, ∃ c, cond (at_ x) M = some (.ok ⟨c, .sh, at_ x, M⟩) ∧ tru c = some (P x)) → (∀ x ∈ xs, P x = true → ∃ m, elt (at_ x) M = some (.ok ⟨g x, m, at_ x, M⟩) ∧ wipeN (fz m (at_ x)) own = ρ) → (∀ x ∈ xs, wipeN (at_ x) own = ρ) →
    compL bind cond elt own (xs.map emb) ρ M = some ⟨(xs.filter P).map g, ρ, M⟩
  | [], _, _, _, _, _, _ => rfl
  | x :: xs, ρ, M, hb, hc, he, hw => by
    have ih := compL_pure emb P g at_ xs ρ M (fun y hy => hb y (List.mem_cons_of_mem _ hy)) (fun y hy => hc y (List.mem_cons_of_mem _ hy)) (fun y hy => he y (List.mem_cons_of_mem _ hy)) (fun y hy => hw y (List.mem_cons_of_mem _ hy))
    obtain ⟨c, h1, h2⟩ := hc x List.mem_cons_self
    rw [List.map_cons]
    unfold compL
    rw [hb x List.mem_cons_self, ob_s, h1]
    simp only
    rw [h2, ob_s]
    cases hp : P x with
    | true =>
      obtain ⟨m, h3, h4⟩ := he x List.mem_cons_self hp
      rw [if_pos rfl, h3]
      simp only
      rw [h4, ih, ob_s, List.filter_cons_of_pos hp, List.map_cons]
    | false =>
      rw [if_neg (by simp), hw x List.mem_cons_self, ih, List.filter_cons_of_neg (by rw [hp]; simp)]
/-- a for with an invariant, no way out -/
theorem forL_inv {bind : D → Nv → Option Nv} {body : Nv → Mem → RS} {α : Type} (emb : α → D) (I : List α → Nv → Mem → Prop) : ∀ (xs done : List α) (ρ : Nv) (M : Mem), I done ρ M →
    (∀ (done : List α) (x : α) (rest : List α) (ρ : Nv) (M : Mem), xs = rest ∨ True → x ∈ xs → I done ρ M → ∃ ρ1, bind (emb x) ρ = some ρ1 ∧ ∃ ρ2 M2, body ρ1 M = some (.ok (.nx ρ2 M2)) ∧ I (done ++ [x]) ρ2 M2) →
    ∃ ρ' M', forL bind body (xs.map emb) ρ M = some (.ok (.nx ρ' M')) ∧ I (done ++ xs) ρ' M'
  | [], done, ρ, M, h, _ => ⟨ρ, M, rfl, by rw [List.append_nil]; exact h⟩
  | x :: xs, done, ρ, M, h, st => by
    obtain ⟨ρ1, h1, ρ2, M2, h2, h3⟩ := st done x xs ρ M (.inr trivial) List.mem_cons_self h
    obtain ⟨ρ', M', h4, h5⟩ := forL_inv emb I xs (done ++ [x]) ρ2 M2 h3 (fun d y r ρ M _ hy => st d y r ρ M (.inr trivial) (List.mem_cons_of_mem _ hy))
    refine ⟨ρ', M', ?_, by rw [List.append_assoc] at h5; exact h5⟩
    rw [List.map_cons]
    unfold forL
    rw [h1, ob_s, h2, bz_ok]
    exact h4
end
end Ev

/-! What is shown; turns that change the memory; pots. -/
namespace Ev
open L2 PyProof.Rows PySem PySem.Spec
/-! ### what is shown -/
structure Rp (d w : Nat) (p : PyData) : Prop where
  sh : p.showable = true
  nd : p.hasDict = false
  dp : p.depth ≤ d
  lv : p.leavesShort 13 = true
  wt : p.weight ≤ w
  cl : p.canLay0 = true
structure Rps (d w : Nat) (ps : List PyData) : Prop where
  sh : PyData.showableAll ps = true
  nd : PyData.hasDictAll ps = false
  dp : PyData.depthAll ps ≤ d
  lv : PyData.leavesShortAll 13 ps = true
  wt : PyData.weightAll ps ≤ w
  cl : PyData.canLayAll0 ps = true
theorem Rp.mono {d w d' w' : Nat} {p : PyData} (h : Rp d w p) (h1 : d ≤ d') (h2 : w ≤ w') : Rp d' w' p := ⟨h.sh, h.nd, Nat.le_trans h.dp h1, h.lv, Nat.le_trans h.wt h2, h.cl⟩
theorem rp_non {d w : Nat} : Rp d w .none := ⟨rfl, rfl, Nat.zero_le _, rfl, Nat.zero_le _, rfl⟩
theorem rp_bool {d w : Nat} (b : Bool) : Rp d w (.bool b) := ⟨rfl, rfl, Nat.zero_le _, rfl, Nat.zero_le _, rfl⟩
theorem rp_int {d w : Nat} {i : Int} (h : i.natAbs < 10 ^ 12) (hw : 40 ≤ w) : Rp d w (.int i) := by
  have h2 : i.natAbs < 2 ^ 40 := Nat.lt_trans h (by decide)
  have h3 : i.natAbs.log2 < 40 := by
    by_cases h0 : i.natAbs = 0
    · rw [h0]; decide
    · exact (Nat.log2_lt h0).mpr h2
  refine ⟨?_, rfl, Nat.zero_le _, ?_, ?_, rfl⟩
  · show decide (i.natAbs.log2 < 1920) = true
    exact decide_eq_true (by omega)
  · show decide ((PyData.shown (.int i)).length ≤ 13) = true
    refine decide_eq_true ?_
    show (Str.ofString (toString i)).length ≤ 13
    rw [PySem.ofString_length]
    exact int_text_length_le10 (k := 12) (by decide) h
  · show (if i == 0 then 0 else i.natAbs.log2 + 1) ≤ w
    split <;> omega
theorem rp_nat {d w n : Nat} (h : n < 10 ^ 12) (hw : 40 ≤ w) : Rp d w (.int (n : Int)) := rp_int (by omega) hw
theorem rps_nil {d w : Nat} : Rps d w [] := ⟨rfl, rfl, Nat.zero_le _, rfl, Nat.zero_le _, rfl⟩
theorem rps_cons {d w w' : Nat} {p : PyData} {ps : List PyData} (h : Rp d w p) (hs : Rps d w' ps) : Rps d (w + 1 + w') (p :: ps) := by
  refine ⟨?_, ?_, ?_, ?_, ?_, ?_⟩
  · show (p.showable && PyData.showableAll ps) = true
    rw [h.sh, hs.sh] <;> rfl
  · show (p.hasDict || PyData.hasDictAll ps) = false
    rw [h.nd, hs.nd] <;> rfl
  · show max p.depth (PyData.depthAll ps) ≤ d
    have a := h.dp
    have b := hs.dp
    omega
  · show (p.leavesShort 13 && PyData.leavesShortAll 13 ps) = true
    rw [h.lv, hs.lv] <;> rfl
  · show p.weight + 1 + PyData.weightAll ps ≤ w + 1 + w'
    have a := h.wt
    have b := hs.wt
    omega
  · show (p.canLay0 && PyData.canLayAll0 ps) = true
    rw [h.cl, hs.cl] <;> rfl
theorem Rps.mono {d w d' w' : Nat} {p : List PyData} (h : Rps d w p) (h1 : d ≤ d') (h2 : w ≤ w') : Rps d' w' p := ⟨h.sh, h.nd, Nat.le_trans h.dp h1, h.lv, Nat.le_trans h.wt h2, h.cl⟩
theorem rps_all {d w : Nat} : ∀ {ps : List PyData}, (∀ p ∈ ps, Rp d w p) → Rps d ((w + 1) * ps.length) ps
  | [], _ => rps_nil
  | p :: ps, h => by
    have := rps_cons (h p List.mem_cons_self) (rps_all fun q hq => h q (List.mem_cons_of_mem _ hq))
    exact this.mono (Nat.le_refl _) (by rw [List.length_cons, Nat.mul_add]; omega)
theorem rps_app {d w w' : Nat} : ∀ {ps qs : List PyData}, Rps d w ps → Rps d w' qs → Rps d (w + w') (ps ++ qs)
  | [], qs, h, h' => h'.mono (Nat.le_refl _) (by omega)
  | p :: ps, qs, h, h' => by
    have e1 : (p.showable && PyData.showableAll ps) = true := h.sh
    have e2 : (p.hasDict || PyData.hasDictAll ps) = false := h.nd
    have e3 : max p.depth (PyData.depthAll ps) ≤ d := h.dp
    have e4 : (p.leavesShort 13 && PyData.leavesShortAll 13 ps) = true := h.lv
    have e5 : p.weight + 1 + PyData.weightAll ps ≤ w := h.wt
    have e6 : (p.canLay0 && PyData.canLayAll0 ps) = true := h.cl
    rw [Bool.and_eq_true] at e1 e4 e6
    rw [Bool.or_eq_false_iff] at e2
    have r1 : Rp d p.weight p := ⟨e1.1, e2.1, by omega, e4.1, Nat.le_refl _, e6.1⟩
    have r2 : Rps d (w - p.weight - 1) ps := ⟨e1.2, e2.2, by omega, e4.2, by omega, e6.2⟩
    exact (rps_cons r1 (rps_app r2 h')).mono (Nat.le_refl _) (by omega)
theorem rp_tup {d w : Nat} {ps : List PyData} (h : Rps d w ps) : Rp (d + 1) w (.tuple ps) := ⟨h.sh, h.nd, by show PyData.depthAll ps + 1 ≤ _; have := h.dp; omega, h.lv, h.wt, h.cl⟩
theorem rp_lst {d w : Nat} {ps : List PyData} (h : Rps d w ps) : Rp (d + 1) w (.list ps) := ⟨h.sh, h.nd, by show PyData.depthAll ps + 1 ≤ _; have := h.dp; omega, h.lv, h.wt, h.cl⟩
theorem repr_ok {d w : Nat} {p : PyData} (h : Rp d w p) (h1 : d ≤ 60) (h2 : w ≤ 2 ^ 20) : bi .repr [.py p] = some (.py (.str p.shown), false) := by
  show (if p.showable && !p.hasDict && decide (p.depth ≤ 60) && decide (p.shown.length ≤ sizeLine) then _ else _) = _
  rw [if_pos]
  · rfl
  · have a := h.dp
    have b := PyData.shown_fits (by decide) (by decide) h.lv (Nat.le_trans h.wt h2)
    rw [h.sh, h.nd, decide_eq_true b, decide_eq_true (show p.depth ≤ 60 by omega)] <;> rfl
theorem Rp.shaped {d w : Nat} {p : PyData} (h : Rp d w p) (h1 : d ≤ 60) : SeqAt.shaped p = true := by
  show (p.canLay0 && decide (p.depth ≤ 64)) = true
  have a := h.dp
  rw [h.cl, decide_eq_true (show p.depth ≤ 64 by omega)] <;> rfl
/-! ### turns that change the memory -/
theorem compL_st {bind : D → Nv → Option Nv} {cond elt : Nv → Mem → RE} {own : List Nat} {α : Type} (emb : α → D) (at_ : α → Nv) (I : List α → List D → Mem → Prop) {ρ : Nv} : ∀ (xs done : List α) (rs : List D) (M : Mem), I done rs M →
    (∀ x ∈ xs, bind (emb x) ρ = some (at_ x)) →
    (∀ (d : List α) (x : α) (rest : List α) (rs : List D) (M : Mem), done ++ xs = d ++ x :: rest → I d rs M → ∃ c M1 b, cond (at_ x) M = some (.ok ⟨c, .sh, at_ x, M1⟩) ∧ tru c = some b ∧
      ((b = true ∧ ∃ y m M2, elt (at_ x) M1 = some (.ok ⟨y, m, at_ x, M2⟩) ∧ wipeN (fz m (at_ x)) own = ρ ∧ I (d ++ [x]) (rs ++ [y]) M2) ∨ (b = false ∧ wipeN (at_ x) own = ρ ∧ I (d ++ [x]) rs M1))) →
    ∃ ys M', compL bind cond elt own (xs.map emb) ρ M = some ⟨ys, ρ, M'⟩ ∧ I (done ++ xs) (rs ++ ys) M'
  | [], done, rs, M, h, _, _ => ⟨[], M, rfl, by rw [List.append_nil, List.append_nil]; exact h⟩
  | x :: xs, done, rs, M, h, hb, st => by
    obtain ⟨c, M1, b, h1, h2, h3⟩ := st done x xs rs M rfl h
    have hb' := fun y hy => hb y (List.mem_cons_of_mem x hy)
    have st' := fun d y r rs M (e : (done ++ [x]) ++ xs = d ++ y :: r) => st d y r rs M (by rw [← e, List.append_assoc]; rfl)
    rw [List.map_cons]
    unfold compL
    rw [hb x List.mem_cons_self, ob_s, h1]
    simp only
    rw [h2, ob_s]
    rcases h3 with ⟨rfl, y, m, M2, h4, h5, h6⟩ | ⟨rfl, h5, h6⟩
    · rw [if_pos rfl, h4]
      simp only
      rw [h5]
      obtain ⟨ys, M', h7, h8⟩ := compL_st emb at_ I xs (done ++ [x]) (rs ++ [y]) M2 h6 hb' st'
      rw [h7, ob_s]
      exact ⟨y :: ys, M', rfl, by rw [List.append_assoc, List.append_assoc] at h8; exact h8⟩
    · rw [if_neg (by simp), h5]
      obtain ⟨ys, M', h7, h8⟩ := compL_st emb at_ I xs (done ++ [x]) rs M1 h6 hb' st'
      exact ⟨ys, M', h7, by rw [List.append_assoc] at h8; exact h8⟩
theorem compE_pure {Fs : List Fn} {C : Nv → Clo} {t : T} {cond elt : E} {own : List Nat} {α : Type} (emb : α → D) (P : α → Bool) (g : α → D) (at_ : α → Nv) (xs : List α) (ρ : Nv) (M : Mem)
    (hb : ∀ x ∈ xs, bindT t (emb x) ρ = some (at_ x)) (hc : ∀ x ∈ xs, ∃ c, evE Fs C cond (at_ x) M = some (.ok ⟨c, .sh, at_ x, M⟩) ∧ tru c = some (P x)) (he : ∀ x ∈ xs, P x = true → ∃ m, evE Fs C elt (at_ x) M = some (.ok ⟨g x, m, at_ x, M⟩) ∧ wipeN (fz m (at_ x)) own = ρ) (hw : ∀ x ∈ xs, wipeN (at_ x) own = ρ) :
    compE Fs C t cond elt own (xs.map emb) ρ M = some ⟨(xs.filter P).map g, ρ, M⟩ := compL_pure emb P g at_ xs ρ M hb hc he hw
theorem compE_map {Fs : List Fn} {C : Nv → Clo} {t : T} {elt : E} {own : List Nat} {α : Type} (emb : α → D) (g : α → D) (at_ : α → Nv) (xs : List α) (ρ : Nv) (M : Mem)
    (hb : ∀ x ∈ xs, bindT t (emb x) ρ = some (at_ x)) (he : ∀ x ∈ xs, ∃ m, evE Fs C elt (at_ x) M = some (.ok ⟨g x, m, at_ x, M⟩) ∧ wipeN (fz m (at_ x)) own = ρ) (hw : ∀ x ∈ xs, wipeN (at_ x) own = ρ) :
    compE Fs C t .no elt own (xs.map emb) ρ M = some ⟨xs.map g, ρ, M⟩ := by
  rw [compE_pure emb (fun _ => true) g at_ xs ρ M hb (fun x _ => ⟨_, e_no, rfl⟩) (fun x hx _ => he x hx) hw, List.filter_eq_self.mpr (fun _ _ => rfl)]
theorem compE_st {Fs : List Fn} {C : Nv → Clo} {t : T} {cond elt : E} {own : List Nat} {α : Type} (emb : α → D) (at_ : α → Nv) (I : List α → List D → Mem → Prop) {ρ : Nv} (xs : List α) (M : Mem) (h : I [] [] M)
    (hb : ∀ x ∈ xs, bindT t (emb x) ρ = some (at_ x))
    (st : ∀ (d : List α) (x : α) (rest : List α) (rs : List D) (M : Mem), xs = d ++ x :: rest → I d rs M → ∃ c M1 b, evE Fs C cond (at_ x) M = some (.ok ⟨c, .sh, at_ x, M1⟩) ∧ tru c = some b ∧
      ((b = true ∧ ∃ y m M2, evE Fs C elt (at_ x) M1 = some (.ok ⟨y, m, at_ x, M2⟩) ∧ wipeN (fz m (at_ x)) own = ρ ∧ I (d ++ [x]) (rs ++ [y]) M2) ∨ (b = false ∧ wipeN (at_ x) own = ρ ∧ I (d ++ [x]) rs M1))) :
    ∃ ys M', compE Fs C t cond elt own (xs.map emb) ρ M = some ⟨ys, ρ, M'⟩ ∧ I xs ys M' := by
  have := compL_st (bind := bindT t) (cond := fun ρ M => evE Fs C cond ρ M) (elt := fun ρ M => evE Fs C elt ρ M) (own := own) emb at_ I xs [] [] M h hb st
  unfold compE
  simpa using this
theorem forL_inv2 {bind : D → Nv → Option Nv} {body : Nv → Mem → RS} {α : Type} (emb : α → D) (I : List α → Nv → Mem → Prop) : ∀ (xs done : List α) (ρ : Nv) (M : Mem), I done ρ M →
    (∀ (d : List α) (x : α) (rest : List α) (ρ : Nv) (M : Mem), done ++ xs = d ++ x :: rest → I d ρ M → ∃ ρ1, bind (emb x) ρ = some ρ1 ∧ ∃ ρ2 M2, body ρ1 M = some (.ok (.nx ρ2 M2)) ∧ I (d ++ [x]) ρ2 M2) →
    ∃ ρ' M', forL bind body (xs.map emb) ρ M = some (.ok (.nx ρ' M')) ∧ I (done ++ xs) ρ' M'
  | [], done, ρ, M, h, _ => ⟨ρ, M, rfl, by rw [List.append_nil]; exact h⟩
  | x :: xs, done, ρ, M, h, st => by
    obtain ⟨ρ1, h1, ρ2, M2, h2, h3⟩ := st done x xs ρ M rfl h
    obtain ⟨ρ', M', h4, h5⟩ := forL_inv2 emb I xs (done ++ [x]) ρ2 M2 h3 (fun d y r ρ M e hI => st d y r ρ M (by rw [← e, List.append_assoc]; rfl) hI)
    refine ⟨ρ', M', ?_, by rw [List.append_assoc] at h5; exact h5⟩
    rw [List.map_cons]
    unfold forL
    rw [h1, ob_s, h2, bz_ok]
    exact h4
theorem forE_inv {Fs : List Fn} {C : Nv → Clo} {t : T} {body : Ss} {α : Type} (emb : α → D) (I : List α → Nv → Mem → Prop) (xs : List α) (ρ : Nv) (M : Mem) (h : I [] ρ M)
    (st : ∀ (done : List α) (x : α) (rest : List α) (ρ : Nv) (M : Mem), xs = done ++ x :: rest → I done ρ M → ∃ ρ1, bindT t (emb x) ρ = some ρ1 ∧ ∃ ρ2 M2, evSs Fs C body ρ1 M = some (.ok (.nx ρ2 M2)) ∧ I (done ++ [x]) ρ2 M2) :
    ∃ ρ' M', forE Fs C t body (xs.map emb) ρ M = some (.ok (.nx ρ' M')) ∧ I xs ρ' M' := by
  have := forL_inv2 (bind := bindT t) (body := fun ρ M => evSs Fs C body ρ M) emb I xs [] ρ M h (fun d x r ρ M e hI => st d x r ρ M e hI)
  unfold forE
  simpa using this
theorem forE_cons {Fs : List Fn} {C : Nv → Clo} {t : T} {body : Ss} (d : D) (ds : List D) (ρ : Nv) (M : Mem) : forE Fs C t body (d :: ds) ρ M = ob (bindT t d ρ) fun ρ1 => bz (evSs Fs C body ρ1 M) fun f => (match f with
      | .nx ρ2 M2 => forE Fs C t body ds ρ2 M2
      | .ct ρ2 M2 => forE Fs C t body ds ρ2 M2
      | .br ρ2 M2 => some (.ok (.nx ρ2 M2))
      | .rt o => some (.ok (.rt o))) := rfl
@[simp] theorem forE_nil {Fs : List Fn} {C : Nv → Clo} {t : T} {body : Ss} (ρ : Nv) (M : Mem) : forE Fs C t body [] ρ M = some (.ok (.nx ρ M)) := (rfl)
@[simp] theorem forL_nil {bind : D → Nv → Option Nv} {body : Nv → Mem → RS} {ρ : Nv} {M : Mem} : forL bind body [] ρ M = some (.ok (.nx ρ M)) := (rfl)
theorem forL_cons {bind : D → Nv → Option Nv} {body : Nv → Mem → RS} {ρ : Nv} {M : Mem} (d : D) (ds : List D) : forL bind body (d :: ds) ρ M = ob (bind d ρ) fun ρ1 => bz (body ρ1 M) fun f => (match f with
      | .nx ρ2 M2 => forL bind body ds ρ2 M2
      | .ct ρ2 M2 => forL bind body ds ρ2 M2
      | .br ρ2 M2 => some (.ok (.nx ρ2 M2))
      | .rt o => some (.ok (.rt o))) := rfl
/-! ### pots -/
def PotAt (M : Mem) (n c : Nat) : Prop := ∃ o s k : Int, M[n]? = some [.int o, .int s, .int k] ∧ 0 ≤ o ∧ o < 2 ^ 1200 ∧ 0 ≤ s ∧ s < 2 ^ 62 ∧ 0 ≤ k ∧ k ≤ c
theorem PotAt.mono {M : Mem} {n c c' : Nat} (h : PotAt M n c) (e : c ≤ c') : PotAt M n c' := by
  obtain ⟨o, s, k, h1, h2, h3, h4, h5, h6, h7⟩ := h
  exact ⟨o, s, k, h1, h2, h3, h4, h5, h6, by omega⟩
theorem bits_of {n : Nat} {i : Int} (h : i.natAbs < 2 ^ n) : bits n i = true := decide_eq_true h
theorem oInt_ok {C : Int → Int → Bool} {g : Int → Int → Int} {i j : Int} (h : C i j = true) : oInt C g (.py (.int i)) (.py (.int j)) = some (.py (.int (g i j)), false) := by
  show (if C i j = true then some (D.py (.int (g i j)), false) else none) = _
  rw [if_pos h]
theorem mul_ok {i j : Int} (h1 : i.natAbs < 2 ^ 4000) (h2 : j.natAbs < 2 ^ 4000) : o2 .mul (.py (.int i)) (.py (.int j)) = some (.py (.int (i * j)), false) := by
  show orO (oInt (fun i j => bits 4000 i && bits 4000 j) fun i j => i * j) (orO oRepT (orO oRepT1 oRepL)) _ _ = _
  unfold orO
  rw [oInt_ok (by rw [bits_of h1, bits_of h2]; rfl)]
theorem mod_ok {i j : Int} (h : 0 < j) : o2 .mod (.py (.int i)) (.py (.int j)) = some (.py (.int (i % j)), false) := oInt_ok (C := fun _ j => decide (0 < j)) (g := fun i j => i % j) (decide_eq_true h)
theorem fdiv_ok {i j : Int} (h : 0 < j) (h2 : j < 1073741824) : o2 .fdiv (.py (.int i)) (.py (.int j)) = some (.py (.int (i / j)), false) := oInt_ok (C := fun _ j => decide (0 < j) && decide (j < 1073741824)) (g := fun i j => i / j) (by show (decide (0 < j) && decide (j < 1073741824)) = true; rw [decide_eq_true h, decide_eq_true h2]; rfl)
theorem pow_ok {i : Int} {j : Nat} (h : i.natAbs < 2 ^ 1000) (h2 : j ≤ 1000) : o2 .pow (.py (.int i)) (.py (.int (j : Int))) = some (.py (.int (i ^ j)), false) := by
  have e := oInt_ok (C := fun i j => decide (0 ≤ j) && decide (j ≤ 1000) && bits 1000 i) (g := fun i j => i ^ j.toNat) (i := i) (j := (j : Int)) (by
    show (decide (0 ≤ (j : Int)) && decide ((j : Int) ≤ 1000) && bits 1000 i) = true
    rw [bits_of h, decide_eq_true (by omega), decide_eq_true (by omega)] <;> rfl)
  rw [Int.toNat_natCast] at e
  exact e
theorem put_cel {ρ : Nv} {M : Mem} {i n : Nat} {ps : List PyData} {k : Nat} {p : PyData} (h : ρ[i]? = some (some (.cel n, false))) (hm : M[n]? = some ps) (hk : k < ps.length) : putX i (k : Int) (.py p) ρ M = some (.ok (.nx ρ (M.set n (ps.set k p)))) := by
  unfold putX
  rw [h]
  simp only
  rw [hm, ob_s]
  have : ixN ps.length (k : Int) = some k := by
    unfold ixN
    rw [if_pos (by omega), if_pos (by omega)]
    simp
  rw [this, ob_s]
  rfl
theorem hasX_cel {ρ : Nv} {i n : Nat} (h : ρ[i]? = some (some (.cel n, false))) : hasX ρ i = some () := by
  unfold hasX
  rw [h] <;> rfl
theorem ix_cel {M : Mem} {n : Nat} {ps : List PyData} {k : Nat} {p : PyData} (hm : M[n]? = some ps) (hk : ps[k]? = some p) : ixD M (.cel n) (.py (.int (k : Int))) = some (.py p) := by
  show (match M[n]? with
    | some xs => (atI xs (k : Int)).map D.py
    | none => none) = _
  rw [hm]
  have hl := (List.getElem?_eq_some_iff.mp hk).1
  unfold atI ixN
  simp only
  rw [if_pos (by omega), if_pos (by omega)]
  simp [hk]
end Ev

set_option exponentiation.threshold 5000
/-! The laws' pots. -/
namespace Ev
open L2 PyProof.Rows PySem PySem.Spec
def takeD (a b e f g h : Int) : Def := ⟨5, 2,
    (.cons (.ifs (.cmp (.ix (.var 0) (.lit (.int 0))) [.gt] (.cons false (.lit (.int 0)) .nil))
    (.cons (.asg (.nm 4) (.bin .mod (.bi .int (.cons false (.ix (.var 0) (.lit (.int 0))) .nil)) (.var 1)))
    (.cons (.set 0 (.lit (.int 0)) (.bin .fdiv (.ix (.var 0) (.lit (.int 0))) (.var 1)))
    (.cons (.ret (.var 4))
    .nil)))
    .nil)
    (.cons (.set 0 (.lit (.int 2)) (.bin .add (.ix (.var 0) (.lit (.int 2))) (.lit (.int 1))))
    (.cons (.asg (.nm 2) (.ix (.lst (.cons false (.lit (.int 2147483647)) (.cons false (.lit (.int 2147483629)) (.cons false (.lit (.int 2147483587)) (.cons false (.lit (.int 2147483579)) (.cons false (.lit (.int 2147483563)) .nil)))))) (.bin .mod (.bi .int (.cons false (.ix (.var 0) (.lit (.int 2))) .nil)) (.lit (.int 5)))))
    (.cons (.asg (.nm 3) (.bin .mod (.bi .int (.cons false (.bin .pow (.bi .int (.cons false (.bin .add (.bin .add (.ix (.var 0) (.lit (.int 1))) (.bin .mul (.bin .mul (.lit (.int a)) (.ix (.var 0) (.lit (.int 2)))) (.ix (.var 0) (.lit (.int 2))))) (.lit (.int b))) .nil)) (.lit (.int 3))) .nil)) (.var 2)))
    (.cons (.asg (.nm 3) (.bin .mod (.bi .int (.cons false (.bin .mul (.var 3) (.bin .add (.bin .mod (.bi .int (.cons false (.var 3) .nil)) (.lit (.int e))) (.bin .mul (.lit (.int f)) (.ix (.var 0) (.lit (.int 2)))))) .nil)) (.lit (.int g))))
    (.cons (.ret (.bin .mod (.bi .int (.cons false (.bin .fdiv (.var 3) (.lit (.int h))) .nil)) (.var 1)))
    .nil)))))), []⟩
theorem runF_eq {Fs : List Fn} {d : Def} {C : Clo} {ds : List D} {M : Mem} (h : ds.length = d.ps) : runF Fs d C ds M = outC (outOf (evSs Fs (lamC Fs d.lams) d.body (startN d.n ds) M)) := if_pos h
theorem put_cel2 {ρ : Nv} {M : Mem} {i n : Nat} {ps : List PyData} (kk : Int) (k : Nat) {p : PyData} (h : ρ[i]? = some (some (.cel n, false))) (hm : M[n]? = some ps) (hk : k < ps.length) (e : kk = k) : putX i kk (.py p) ρ M = some (.ok (.nx ρ (M.set n (ps.set k p)))) := by
  subst e
  exact put_cel h hm hk
theorem mul_lt {x y : Int} {a b : Nat} (h1 : x.natAbs < 2 ^ a) (h2 : y.natAbs < 2 ^ b) : (x * y).natAbs < 2 ^ (a + b) := by
  rw [Int.natAbs_mul, Nat.pow_add]
  exact Nat.mul_lt_mul'' h1 h2
theorem lt_up {x a b : Nat} (h : x < 2 ^ a) (e : a ≤ b) : x < 2 ^ b := Nat.lt_of_lt_of_le h (Nat.pow_le_pow_right (by decide) e)
theorem s_take {Fs : List Fn} {a b e f g h : Int} (C : Clo) {M : Mem} {n c u : Nat} (hp : PotAt M n c) (hc : c ≤ 10 ^ 9) (hu : 0 < u) (hu2 : u < 2 ^ 30) (ha : 0 ≤ a ∧ a < 2 ^ 40) (hb : 0 ≤ b ∧ b < 2 ^ 40) (he : 0 < e ∧ e < 2 ^ 40) (hf : 0 ≤ f ∧ f < 2 ^ 40) (hg : 0 < g) (hh : 0 < h ∧ h < 2 ^ 30) :
    ∃ (d : Nat) (M' : Mem), runF Fs (takeD a b e f g h) C [.cel n, .py (.int (u : Int))] M = some (.ok ⟨.py (.int (d : Int)), false, M'⟩) ∧ d < u ∧ PotAt M' n (c + 1) := by
  obtain ⟨o, s, k, hm, o1, o2', s1, s2, k1, k2⟩ := hp
  have hl : n < M.length := (List.getElem?_eq_some_iff.mp hm).1
  have i0 : ixD M (.cel n) (.py (.int 0)) = some (.py (.int o)) := ix_cel (k := 0) hm rfl
  by_cases ho : 0 < o
  · have hu' : (0 : Int) < (u : Int) := by omega
    have e1 : o2 .mod (.py (.int o)) (.py (.int (u : Int))) = some (.py (.int (o % u)), false) := mod_ok hu'
    have e2 : o2 .fdiv (.py (.int o)) (.py (.int (u : Int))) = some (.py (.int (o / u)), false) := fdiv_ok hu' (by omega)
    have hx : hasX [some (.cel n, false), some (.py (.int (u : Int)), false), none, none, some (.py (.int (o % u)), false)] 0 = some () := rfl
    have hs : putX 0 0 (.py (.int (o / u))) [some (.cel n, false), some (.py (.int (u : Int)), false), none, none, some (.py (.int (o % u)), false)] M = some (.ok (.nx [some (.cel n, false), some (.py (.int (u : Int)), false), none, none, some (.py (.int (o % u)), false)] (M.set n [.int (o / u), .int s, .int k]))) := put_cel2 0 0 rfl hm (by simp) rfl
    refine ⟨(o % u).toNat, M.set n [.int (o / u), .int s, .int k], ?_, ?_, ?_⟩
    · have h0 := Int.emod_nonneg o (b := (u : Int)) (by omega)
      rw [Int.toNat_of_nonneg h0]
      simp [runF, takeD, startN, i0, ho, e1, e2, hx, hs]
    · have h0 := Int.emod_nonneg o (b := (u : Int)) (by omega)
      have h1 := Int.emod_lt_of_pos o hu'
      omega
    · refine ⟨o / u, s, k, by rw [List.getElem?_set_self hl], Int.ediv_nonneg o1 (by omega), Int.lt_of_le_of_lt (Int.ediv_le_self _ o1) o2', s1, s2, k1, by omega⟩
  · have i1 : ixD (M.set n [.int o, .int s, .int (k + 1)]) (.cel n) (.py (.int 1)) = some (.py (.int s)) := ix_cel (k := 1) (by rw [List.getElem?_set_self hl]) rfl
    have i2 : ixD M (.cel n) (.py (.int 2)) = some (.py (.int k)) := ix_cel (k := 2) hm rfl
    have i3 : ixD (M.set n [.int o, .int s, .int (k + 1)]) (.cel n) (.py (.int 2)) = some (.py (.int (k + 1))) := ix_cel (k := 2) (by rw [List.getElem?_set_self hl]) rfl
    have hx : hasX [some (.cel n, false), some (.py (.int (u : Int)), false), none, none, none] 0 = some () := rfl
    have hs : putX 0 2 (.py (.int (k + 1))) [some (.cel n, false), some (.py (.int (u : Int)), false), none, none, none] M = some (.ok (.nx [some (.cel n, false), some (.py (.int (u : Int)), false), none, none, none] (M.set n [.int o, .int s, .int (k + 1)]))) := put_cel2 2 2 rfl hm (by simp) rfl
    have kk : (k + 1).natAbs < 2 ^ 40 := by omega
    have e1 : o2 .mod (.py (.int (k + 1))) (.py (.int 5)) = some (.py (.int ((k + 1) % 5)), false) := mod_ok (by decide)
    have p5 : ∃ p : Int, 0 < p ∧ p < 2 ^ 31 ∧ ixD (M.set n [.int o, .int s, .int (k + 1)]) (.py (.list [.int 2147483647, .int 2147483629, .int 2147483587, .int 2147483579, .int 2147483563])) (.py (.int ((k + 1) % 5))) = some (.py (.int p)) := by
      have h0 := Int.emod_nonneg (k + 1) (b := 5) (by decide)
      have h1 := Int.emod_lt_of_pos (k + 1) (b := 5) (by decide)
      have : (k + 1) % 5 = 0 ∨ (k + 1) % 5 = 1 ∨ (k + 1) % 5 = 2 ∨ (k + 1) % 5 = 3 ∨ (k + 1) % 5 = 4 := by omega
      rcases this with q | q | q | q | q <;> rw [q]
      · exact ⟨2147483647, by decide, by decide, rfl⟩
      · exact ⟨2147483629, by decide, by decide, rfl⟩
      · exact ⟨2147483587, by decide, by decide, rfl⟩
      · exact ⟨2147483579, by decide, by decide, rfl⟩
      · exact ⟨2147483563, by decide, by decide, rfl⟩
    obtain ⟨p, p1, p2, p3⟩ := p5
    have b1 : (a * (k + 1)).natAbs < 2 ^ (40 + 40) := mul_lt (by omega) kk
    have b2 : (a * (k + 1) * (k + 1)).natAbs < 2 ^ (80 + 40) := mul_lt b1 kk
    have e2 : o2 .mul (.py (.int a)) (.py (.int (k + 1))) = some (.py (.int (a * (k + 1))), false) := mul_ok (lt_up (a := 40) (by omega) (by decide)) (lt_up kk (by decide))
    have e3 : o2 .mul (.py (.int (a * (k + 1)))) (.py (.int (k + 1))) = some (.py (.int (a * (k + 1) * (k + 1))), false) := mul_ok (lt_up b1 (by decide)) (lt_up kk (by decide))
    have b3 : (s + a * (k + 1) * (k + 1) + b).natAbs < 2 ^ 1000 := by
      refine lt_up (a := 122) ?_ (by decide)
      have : (a * (k + 1) * (k + 1)).natAbs < 2 ^ 120 := b2
      omega
    have e4 : o2 .pow (.py (.int (s + a * (k + 1) * (k + 1) + b))) (.py (.int 3)) = some (.py (.int ((s + a * (k + 1) * (k + 1) + b) ^ 3)), false) := pow_ok (j := 3) b3 (by decide)
    generalize hv : (s + a * (k + 1) * (k + 1) + b) = v at e4
    have e5 : o2 .mod (.py (.int (v ^ 3))) (.py (.int p)) = some (.py (.int (v ^ 3 % p)), false) := mod_ok p1
    have w0 := Int.emod_nonneg (v ^ 3) (b := p) (by omega)
    have w1 := Int.emod_lt_of_pos (v ^ 3) p1
    generalize hw : v ^ 3 % p = w at e5 w0 w1
    have e6 : o2 .mod (.py (.int w)) (.py (.int e)) = some (.py (.int (w % e)), false) := mod_ok he.1
    have x0 := Int.emod_nonneg w (b := e) (by omega)
    have x1 := Int.emod_lt_of_pos w he.1
    have e7 : o2 .mul (.py (.int f)) (.py (.int (k + 1))) = some (.py (.int (f * (k + 1))), false) := mul_ok (lt_up (a := 40) (by omega) (by decide)) (lt_up kk (by decide))
    have b4 : (f * (k + 1)).natAbs < 2 ^ (40 + 40) := mul_lt (by omega) kk
    have e8 : o2 .mul (.py (.int w)) (.py (.int (w % e + f * (k + 1)))) = some (.py (.int (w * (w % e + f * (k + 1)))), false) := mul_ok (lt_up (a := 40) (by omega) (by decide)) (lt_up (a := 82) (by
      have : (f * (k + 1)).natAbs < 2 ^ 80 := b4
      omega) (by decide))
    generalize hy : w * (w % e + f * (k + 1)) = y at e8
    have e9 : o2 .mod (.py (.int y)) (.py (.int g)) = some (.py (.int (y % g)), false) := mod_ok hg
    have z0 := Int.emod_nonneg y (b := g) (by omega)
    generalize hz : y % g = z at e9 z0
    have e10 : o2 .fdiv (.py (.int z)) (.py (.int h)) = some (.py (.int (z / h)), false) := fdiv_ok hh.1 (by omega)
    have hu' : (0 : Int) < (u : Int) := by omega
    have e11 : o2 .mod (.py (.int (z / h))) (.py (.int (u : Int))) = some (.py (.int (z / h % u)), false) := mod_ok hu'
    refine ⟨(z / h % u).toNat, M.set n [.int o, .int s, .int (k + 1)], ?_, ?_, ?_⟩
    · have h0 := Int.emod_nonneg (z / h) (b := (u : Int)) (by omega)
      rw [Int.toNat_of_nonneg h0]
      simp [runF, takeD, startN, i0, ho, i2, hx, hs, i3, e1, i1, p3, e2, e3, hv, e4, e5, hw, e6, e7, e8, hy, e9, hz, e10, e11, show (5 : Nat) ≤ sizeLine from by decide]
    · have h0 := Int.emod_nonneg (z / h) (b := (u : Int)) (by omega)
      have h1 := Int.emod_lt_of_pos (z / h) hu'
      omega
    · exact ⟨o, s, k + 1, by rw [List.getElem?_set_self hl], o1, o2', s1, s2, by omega, by omega⟩
def cellE (a b : Int) : E := .ite (.cmp (.var 1) [.lt] (.cons false (.bi .len (.cons false (.var 0) .nil)) .nil)) (.ix (.var 0) (.var 1)) (.bin .add (.bin .add (.bin .mod (.bi .sum (.cons false (.slc (.var 0) .no (.lit (.int 1))) .nil)) (.lit (.int 1000003))) (.bin .mul (.lit (.int a)) (.var 1))) (.lit (.int b)))
def potD (a b p q r t : Int) : Def := ⟨5, 2,
    (.cons (.asg (.nm 2) (cellE a b))
    (.cons (.asg (.nm 3) (.bin .mul (.bin .mod (.bi .int (.cons false (.bi .abs (.cons false (.var 2) .nil)) .nil)) (.bin .pow (.bin .pow (.lit (.int 10)) (.lit (.int 60))) (.lit (.int 5)))) (.bi .int (.cons false (.cmp (.bi .abs (.cons false (.var 2) .nil)) [.ge] (.cons false (.bin .pow (.lit (.int 10)) (.lit (.int 18))) .nil)) .nil))))
    (.cons (.asg (.nm 4) (.bin .mod (.bi .int (.cons false (.var 2) .nil)) (.lit (.int 2305843009213693951))))
    (.cons (.ret (.cell (.cons false (.var 3) (.cons false (.bin .mod (.bi .int (.cons false (.bin .add (.bin .add (.bin .mul (.var 4) (.lit (.int p))) (.bin .mul (.bin .mul (.lit (.int q)) (.var 1)) (.var 1))) (.lit (.int r))) .nil)) (.lit (.int t))) (.cons false (.lit (.int 0)) .nil)))))
    .nil)))), []⟩
section
variable {Fs : List Fn} {C : Nv → Clo} {ρ : Nv} {M : Mem}
@[simp] theorem isNo_no : isNo .no = true := (rfl)
@[simp] theorem isNo_lit (p : PyData) : isNo (.lit p) = false := (rfl)
@[simp] theorem isNo_var (p : Nat) : isNo (.var p) = false := (rfl)
@[simp] theorem isNo_bin (o : Op2) (a b : E) : isNo (.bin o a b) = false := (rfl)
@[simp] theorem isNo_neg (a : E) : isNo (.neg a) = false := (rfl)
@[simp] theorem isNo_call (k : Nat) (es : Es) : isNo (.call k es) = false := (rfl)
@[simp] theorem isNo_gli (x : Str) (i : Int) : isNo (.gli x i) = false := (rfl)
@[simp] theorem prt_t (r : RE) : prt true r ρ M = some (.ok ⟨.py .none, .sh, ρ, M⟩) := (rfl)
@[simp] theorem prt_f (r : RE) : prt false r ρ M = r := (rfl)
@[simp] theorem part_t : part true (.py .none) = some none := (rfl)
@[simp] theorem part_i (b : Bool) (i : Int) : part b (.py (.int i)) = some (some i) := (rfl)
@[simp] theorem e_slc (a lo hi : E) : evE Fs C (.slc a lo hi) ρ M = bz (evE Fs C a ρ M) fun x => bz (prt (isNo lo) (evE Fs C lo x.ρ x.M) x.ρ x.M) fun l => ob (part (isNo lo) l.d) fun l' => bz (prt (isNo hi) (evE Fs C hi l.ρ l.M) l.ρ l.M) fun h => ob (part (isNo hi) h.d) fun h' => liftO (slD x.d l' h') h.ρ h.M := (rfl)
@[simp] theorem sl_t (xs : List PyData) (lo hi : Option Int) : slD (.py (.tuple xs)) lo hi = some (.py (.tuple (cutL xs lo hi)), false) := (rfl)
@[simp] theorem sl_l (xs : List PyData) (lo hi : Option Int) : slD (.py (.list xs)) lo hi = some (.py (.list (cutL xs lo hi)), true) := (rfl)
@[simp] theorem sl_s (xs : List Int) (lo hi : Option Int) : slD (.scr xs) lo hi = some (.py (.list ((cutL xs lo hi).map .int)), true) := (rfl)
@[simp] theorem cut_from {α : Type} (xs : List α) (k : Nat) : cutL xs (some (k : Int)) none = xs.drop k := by
  unfold cutL
  rw [HT.sIx_nat, HT.sIx_none]
  by_cases h : k ≤ xs.length
  · rw [Nat.min_eq_left h, List.take_of_length_le (by rw [List.length_drop]; omega)]
  · rw [Nat.min_eq_right (by omega), List.drop_of_length_le (by omega), List.drop_of_length_le (by omega)]
    simp
@[simp] theorem cut_to {α : Type} (xs : List α) (k : Nat) : cutL xs none (some (k : Int)) = xs.take k := by
  unfold cutL
  rw [HT.sIx_nat, HT.sIx_none, List.drop_zero, Nat.sub_zero]
  by_cases h : k ≤ xs.length
  · rw [Nat.min_eq_left h]
  · rw [Nat.min_eq_right (by omega), List.take_of_length_le (by omega), List.take_of_length_le (by omega)]
@[simp] theorem cut_1 {α : Type} (xs : List α) : cutL xs (some 1) none = xs.drop 1 := cut_from xs 1
@[simp] theorem cut_t1 {α : Type} (xs : List α) : cutL xs none (some 1) = xs.take 1 := cut_to xs 1
@[simp] theorem e_cell (es : Es) : evE Fs C (.cell es) ρ M = bz (evL Fs C es ρ M) fun a => ob (allPy (a.ds.map (·.1))) fun ps => if ps.length ≤ sizeLine then some (.ok ⟨.cel a.M.length, .sh, fzs a.ds a.ρ, a.M ++ [ps]⟩) else none := (rfl)
end
theorem s_pot {Fs : List Fn} {a b p q r t : Int} (C : Clo) {M : Mem} {ns : List Int} {pl : Nat} (hp : pl ≤ 1000) (ha : 0 ≤ a ∧ a < 2 ^ 40) (hpp : 0 ≤ p ∧ p < 2 ^ 40) (hq : 0 ≤ q ∧ q < 2 ^ 40) (ht : 0 < t ∧ t < 2 ^ 62) :
    ∃ ps, runF Fs (potD a b p q r t) C [.scr ns, .py (.int (pl : Int))] M = some (.ok ⟨.cel M.length, false, M ++ [ps]⟩) ∧ PotAt (M ++ [ps]) M.length 0 := by
  have c1 : ∃ cell : Int, evE Fs (lamC Fs []) (cellE a b) [some (.scr ns, false), some (.py (.int (pl : Int)), false), none, none, none] M = some (.ok ⟨.py (.int cell), .sh, [some (.scr ns, false), some (.py (.int (pl : Int)), false), none, none, none], M⟩) := by
    unfold cellE
    by_cases h : pl < ns.length
    · refine ⟨ns[pl], ?_⟩
      have e : ixD M (.scr ns) (.py (.int (pl : Int))) = some (.py (.int ns[pl])) := by
        show (atI ns (pl : Int)).map (fun n => D.py (.int n)) = _
        unfold atI ixN
        rw [if_pos (by omega), if_pos (by omega)]
        simp [h]
      simp [h, e]
    · have e1 : o2 .mod (.py (.int (ns.take 1).sum)) (.py (.int 1000003)) = some (.py (.int ((ns.take 1).sum % 1000003)), false) := mod_ok (by decide)
      have e2 : o2 .mul (.py (.int a)) (.py (.int (pl : Int))) = some (.py (.int (a * pl)), false) := mul_ok (lt_up (a := 40) (by omega) (by decide)) (lt_up (a := 40) (by omega) (by decide))
      exact ⟨_, by simp [h, e1, e2, -List.map_take]; rfl⟩
  obtain ⟨cell, c1⟩ := c1
  have hA : o2 .pow (.py (.int 10)) (.py (.int 60)) = some (.py (.int (10 ^ 60)), false) := pow_ok (j := 60) (lt_up (a := 40) (by decide) (by decide)) (by decide)
  have hB : o2 .pow (.py (.int (10 ^ 60))) (.py (.int 5)) = some (.py (.int ((10 ^ 60) ^ 5)), false) := pow_ok (j := 5) (lt_up (a := 240) (by decide) (by decide)) (by decide)
  have hC : o2 .pow (.py (.int 10)) (.py (.int 18)) = some (.py (.int (10 ^ 18)), false) := pow_ok (j := 18) (lt_up (a := 40) (by decide) (by decide)) (by decide)
  have hm : (0 : Int) < (10 ^ 60) ^ 5 := by decide
  have hD : ∀ x : Int, o2 .mod (.py (.int x)) (.py (.int ((10 ^ 60) ^ 5))) = some (.py (.int (x % (10 ^ 60) ^ 5)), false) := fun x => mod_ok hm
  generalize hx : (if cell < 0 then -cell else cell) = x
  have x0 := Int.emod_nonneg x (b := (10 ^ 60) ^ 5) (by omega)
  have x1 := Int.emod_lt_of_pos x hm
  have big : ((10 : Int) ^ 60) ^ 5 < 2 ^ 1100 := by decide
  generalize hy : x % (10 ^ 60) ^ 5 = y at x0 x1
  have hE : ∀ g : Bool, o2 .mul (.py (.int y)) (.py (.int (if g = true then 1 else 0))) = some (.py (.int (y * if g = true then 1 else 0)), false) := fun g => mul_ok (lt_up (a := 1100) (by omega) (by decide)) (lt_up (a := 2) (by split <;> decide) (by decide))
  have hF : o2 .mod (.py (.int cell)) (.py (.int 2305843009213693951)) = some (.py (.int (cell % 2305843009213693951)), false) := mod_ok (by decide)
  have s0 := Int.emod_nonneg cell (b := 2305843009213693951) (by decide)
  have s1 := Int.emod_lt_of_pos cell (b := 2305843009213693951) (by decide)
  generalize hs : cell % 2305843009213693951 = z at hF s0 s1
  have hG : o2 .mul (.py (.int z)) (.py (.int p)) = some (.py (.int (z * p)), false) := mul_ok (lt_up (a := 70) (by omega) (by decide)) (lt_up (a := 40) (by omega) (by decide))
  have hH : o2 .mul (.py (.int q)) (.py (.int (pl : Int))) = some (.py (.int (q * pl)), false) := mul_ok (lt_up (a := 40) (by omega) (by decide)) (lt_up (a := 40) (by omega) (by decide))
  have b1 : (q * pl).natAbs < 2 ^ (40 + 40) := mul_lt (by omega) (by omega)
  have hI : o2 .mul (.py (.int (q * pl))) (.py (.int (pl : Int))) = some (.py (.int (q * pl * pl)), false) := mul_ok (lt_up b1 (by decide)) (lt_up (a := 40) (by omega) (by decide))
  have hJ : ∀ x : Int, o2 .mod (.py (.int x)) (.py (.int t)) = some (.py (.int (x % t)), false) := fun x => mod_ok ht.1
  generalize hv : z * p + q * pl * pl + r = v
  generalize hg : decide ((10 : Int) ^ 18 ≤ x) = g
  refine ⟨[.int (y * if g = true then 1 else 0), .int (v % t), .int 0], ?_, ?_⟩
  · rw [runF_eq rfl]
    show outC (outOf (evSs Fs (lamC Fs []) (.cons (.asg (.nm 2) (cellE a b)) _) [some (.scr ns, false), some (.py (.int (pl : Int)), false), none, none, none] M)) = _
    rw [ss_cons, t_asg, c1]
    simp [-Int.reducePow, hA, hB, hC, hx, hD, hy, hg, hE, hF, hs, hG, hH, hI, hv, hJ, show (3 : Nat) ≤ sizeLine from by decide]
  · refine ⟨_, _, _, by rw [List.getElem?_append_right (Nat.le_refl _), Nat.sub_self]; rfl, ?_, ?_, Int.emod_nonneg v (by omega), ?_, by decide, by decide⟩
    · split <;> omega
    · split <;> omega
    · have := Int.emod_lt_of_pos v ht.1
      omega
end Ev

/-! Comprehensions as a whole. -/
namespace Ev
open L2 PyProof.Rows PySem PySem.Spec
section
variable {Fs : List Fn} {C : Nv → Clo} {own : List (Str × Nat)} {t : T} {src : Src} {cond elt : E} {ρ : Nv} {M : Mem} {α : Type}
theorem mkL_map (g : α → PyData) (xs : List α) : mkL (xs.map fun x => .py (g x)) = .py (.list (xs.map g)) := by
  refine mkL_py ?_
  rw [← all_map, List.map_map]
  rfl
theorem comp_filter {sd : D} {sm : Md} {ρ' ρw : Nv} {M' : Mem} (emb : α → D) (P : α → Bool) (g : α → PyData) (at_ : α → Nv) (xs : List α) (hs : evSrc Fs C src ρ M = some (.ok ⟨sd, sm, ρ', M'⟩)) (hi : items sd = some (xs.map emb)) (hz : xs.length ≤ sizeLine)
    (hw0 : wipeN ρ' (own.map (·.2)) = ρw) (hb : ∀ x ∈ xs, bindT t (emb x) ρw = some (at_ x)) (hc : ∀ x ∈ xs, ∃ c, evE Fs C cond (at_ x) M' = some (.ok ⟨c, .sh, at_ x, M'⟩) ∧ tru c = some (P x))
    (he : ∀ x ∈ xs, P x = true → ∃ m, evE Fs C elt (at_ x) M' = some (.ok ⟨.py (g x), m, at_ x, M'⟩) ∧ wipeN (fz m (at_ x)) (own.map (·.2)) = ρw) (hw : ∀ x ∈ xs, wipeN (at_ x) (own.map (·.2)) = ρw) (hk : backN ρ' ρw (own.map (·.2)) = ρ') :
    evE Fs C (.comp own t src cond elt) ρ M = some (.ok ⟨.py (.list ((xs.filter P).map g)), .fr, ρ', M'⟩) := by
  rw [e_comp, hs, bz_ok]
  simp only
  rw [hi, ob_s, if_pos (by rw [List.length_map]; exact hz), hw0, compE_pure emb P (fun x => .py (g x)) at_ xs ρw M' hb hc he hw, ob_s]
  simp only
  rw [hk, mkL_map]
theorem comp_map {sd : D} {sm : Md} {ρ' ρw : Nv} {M' : Mem} (emb : α → D) (g : α → PyData) (at_ : α → Nv) (xs : List α) (hs : evSrc Fs C src ρ M = some (.ok ⟨sd, sm, ρ', M'⟩)) (hi : items sd = some (xs.map emb)) (hz : xs.length ≤ sizeLine)
    (hw0 : wipeN ρ' (own.map (·.2)) = ρw) (hb : ∀ x ∈ xs, bindT t (emb x) ρw = some (at_ x))
    (he : ∀ x ∈ xs, ∃ m, evE Fs C elt (at_ x) M' = some (.ok ⟨.py (g x), m, at_ x, M'⟩) ∧ wipeN (fz m (at_ x)) (own.map (·.2)) = ρw) (hw : ∀ x ∈ xs, wipeN (at_ x) (own.map (·.2)) = ρw) (hk : backN ρ' ρw (own.map (·.2)) = ρ') :
    evE Fs C (.comp own t src .no elt) ρ M = some (.ok ⟨.py (.list (xs.map g)), .fr, ρ', M'⟩) := by
  rw [comp_filter (cond := .no) emb (fun _ => true) g at_ xs hs hi hz hw0 hb (fun x _ => ⟨_, e_no, rfl⟩) (fun x hx _ => he x hx) hw hk, List.filter_eq_self.mpr (fun _ _ => rfl)]
/-- .. whose turns may change the memory -/
theorem comp_st {sd : D} {sm : Md} {ρ' ρw : Nv} {M' : Mem} (emb : α → D) (at_ : α → Nv) (I : List α → List D → Mem → Prop) (xs : List α) (hs : evSrc Fs C src ρ M = some (.ok ⟨sd, sm, ρ', M'⟩)) (hi : items sd = some (xs.map emb)) (hz : xs.length ≤ sizeLine)
    (hw0 : wipeN ρ' (own.map (·.2)) = ρw) (h : I [] [] M') (hb : ∀ x ∈ xs, bindT t (emb x) ρw = some (at_ x))
    (st : ∀ (d : List α) (x : α) (rest : List α) (rs : List D) (M : Mem), xs = d ++ x :: rest → I d rs M → ∃ c M1 b, evE Fs C cond (at_ x) M = some (.ok ⟨c, .sh, at_ x, M1⟩) ∧ tru c = some b ∧
      ((b = true ∧ ∃ y m M2, evE Fs C elt (at_ x) M1 = some (.ok ⟨y, m, at_ x, M2⟩) ∧ wipeN (fz m (at_ x)) (own.map (·.2)) = ρw ∧ I (d ++ [x]) (rs ++ [y]) M2) ∨ (b = false ∧ wipeN (at_ x) (own.map (·.2)) = ρw ∧ I (d ++ [x]) rs M1))) (hk : backN ρ' ρw (own.map (·.2)) = ρ') :
    ∃ ys M2, evE Fs C (.comp own t src cond elt) ρ M = some (.ok ⟨mkL ys, .fr, ρ', M2⟩) ∧ I xs ys M2 := by
  obtain ⟨ys, M2, h1, h2⟩ := compE_st (Fs := Fs) (C := C) (t := t) (cond := cond) (elt := elt) (own := own.map (·.2)) emb at_ I xs M' h hb st
  refine ⟨ys, M2, ?_, h2⟩
  rw [e_comp, hs, bz_ok]
  simp only
  rw [hi, ob_s, if_pos (by rw [List.length_map]; exact hz), hw0, h1, ob_s]
  simp only
  rw [hk]
@[simp] theorem fzs_shs {β : Type} (f : β → D) : ∀ (xs : List β) (ps : List (D × Md)) (ρ : Nv), fzs (xs.map (fun x => (f x, Md.sh)) ++ ps) ρ = fzs ps ρ
  | [], _, _ => rfl
  | x :: xs, ps, ρ => fzs_shs f xs ps ρ
theorem allb (f : α → Bool) (xs : List α) : bi .all [.py (.list (xs.map fun x => .bool (f x)))] = some (.py (.bool (xs.all f)), false) := by
  have := all_b (xs.map f)
  rw [List.map_map] at this
  rw [show (fun x => PyData.bool (f x)) = PyData.bool ∘ f from rfl, this, List.all_map]
  rfl
theorem anyb (f : α → Bool) (xs : List α) : bi .any [.py (.list (xs.map fun x => .bool (f x)))] = some (.py (.bool (xs.any f)), false) := by
  have := any_b (xs.map f)
  rw [List.map_map] at this
  rw [show (fun x => PyData.bool (f x)) = PyData.bool ∘ f from rfl, this, List.any_map]
  rfl
theorem sumi (f : α → Int) (xs : List α) : bi .sum [.py (.list (xs.map fun x => .int (f x)))] = some (.py (.int (xs.map f).sum), false) := by
  have := sum_i (xs.map f)
  rw [List.map_map] at this
  exact this
end
end Ev

/-! More rewriting. -/
namespace Ev
open L2 PyProof.Rows PySem PySem.Spec
section
variable {Fs : List Fn} {C : Nv → Clo} {ρ : Nv} {M : Mem}
@[simp] theorem e_hear (a : E) : evE Fs C (.hear a) ρ M = bz (evE Fs C a ρ M) fun x => (match x.d with
    | .clo k => heard (frzAll x.ρ) (C (frzAll x.ρ) k x.M)
    | _ => none) := (rfl)
@[simp] theorem heard_ok (x : Vl) : heard ρ (some (.ok x)) = some (.ok ⟨mkT [.py .none, x.d], .sh, fz x.m x.ρ, x.M⟩) := (rfl)
@[simp] theorem heard_er (c : Nat) (p : PyData) : heard ρ (some (.er c p M)) = some (.ok ⟨mkT [.exc c p, .py .none], .sh, ρ, M⟩) := (rfl)
@[simp] theorem e_lset (a : E) : evE Fs C (.lset a) ρ M = bz (evE Fs C a ρ M) fun x => ob (lsetD x.d) fun n => some (.ok ⟨.py (.int n), .sh, x.ρ, x.M⟩) := (rfl)
@[simp] theorem all_clo (k : Nat) (r : List D) : allPy (.clo k :: r) = none := (rfl)
theorem atI_nat {α : Type} {xs : List α} {k : Nat} {x : α} (h : xs[k]? = some x) : atI xs (k : Int) = some x := by
  have hk := (List.getElem?_eq_some_iff.mp h).1
  unfold atI ixN
  rw [if_pos (by omega), if_pos (by omega)]
  simpa using h
theorem atI_last {α : Type} {xs : List α} {x : α} (h : xs.getLast? = some x) : atI xs (-1) = some x := by
  have hn : xs ≠ [] := fun e => by rw [e] at h; cases h
  have hp := List.length_pos_iff.mpr hn
  have e : ixN xs.length (-1) = some (xs.length - 1) := by
    unfold ixN
    rw [if_neg (by omega), if_pos (by omega)]
    congr 1
    omega
  unfold atI
  rw [e]
  show xs[xs.length - 1]? = some x
  rw [← List.getLast?_eq_getElem?, h]
theorem ix_t {ps : List PyData} {k : Nat} {p : PyData} (h : ps[k]? = some p) : ixD M (.py (.tuple ps)) (.py (.int (k : Int))) = some (.py p) := by
  show (atI ps (k : Int)).map D.py = _
  rw [atI_nat h] <;> rfl
theorem ix_l {ps : List PyData} {k : Nat} {p : PyData} (h : ps[k]? = some p) : ixD M (.py (.list ps)) (.py (.int (k : Int))) = some (.py p) := by
  show (atI ps (k : Int)).map D.py = _
  rw [atI_nat h] <;> rfl
theorem ix_tl {ps : List PyData} {p : PyData} (h : ps.getLast? = some p) : ixD M (.py (.tuple ps)) (.py (.int (-1))) = some (.py p) := by
  show (atI ps (-1)).map D.py = _
  rw [atI_last h] <;> rfl
@[simp] theorem ix_t0 (p : PyData) (ps : List PyData) : ixD M (.py (.tuple (p :: ps))) (.py (.int 0)) = some (.py p) := ix_t (k := 0) rfl
@[simp] theorem ix_t1 (p q : PyData) (ps : List PyData) : ixD M (.py (.tuple (p :: q :: ps))) (.py (.int 1)) = some (.py q) := ix_t (k := 1) rfl
@[simp] theorem ix_t2 (p q r : PyData) (ps : List PyData) : ixD M (.py (.tuple (p :: q :: r :: ps))) (.py (.int 2)) = some (.py r) := ix_t (k := 2) rfl
@[simp] theorem ix_m0 (p : D) (ps : List D) : ixD M (.mt (p :: ps)) (.py (.int 0)) = some p := atI_nat (k := 0) rfl
theorem put_own {i k : Nat} {ps : List PyData} {p : PyData} (h : ρ[i]? = some (some (.py (.list ps), true))) (hk : k < ps.length) : putX i (k : Int) (.py p) ρ M = some (.ok (.nx (ρ.set i (some (.py (.list (ps.set k p)), true))) M)) := by
  have e : ixN ps.length (k : Int) = some k := by
    unfold ixN
    rw [if_pos (by omega), if_pos (by omega)]
    simp
  unfold putX
  rw [h]
  show ob ((ixN ps.length (k : Int)).map fun j => D.py (.list (ps.set j p))) _ = _
  rw [e] <;> rfl
theorem hasX_own {i : Nat} {d : D} (h : ρ[i]? = some (some (d, true))) : hasX ρ i = some () := by
  unfold hasX
  rw [h]
  cases d <;> rfl
end
end Ev

namespace k31
open L2 PyProof.Rows PySem PySem.Spec Ev
def c_is_job_1 : E := .comp [("one", 2)] (.nm 2) (.it (.var 1)) .no (.call 2 (.cons false (.var 2) (.cons false (.lit (.int 0)) (.cons false (.gli "MOST_TIME" (1000)) .nil))))
def c_check_jobs_1 : E := .comp [("job", 3)] (.nm 3) (.it (.var 0)) .no (.call 3 (.cons false (.var 2) (.cons false (.var 3) .nil)))
def c_is_order_1 : E := .comp [("one", 2)] (.nm 2) (.it (.var 1)) .no (.call 2 (.cons false (.var 2) (.cons false (.lit (.int 0)) (.cons false (.bin .sub (.var 0) (.lit (.int 1))) .nil))))
def b_ends_of_2 : Ss := (.cons (.asg (.nm 5) (.bin .add (.bi .max (.cons false (.var 5) (.cons false (.ix (.var 3) (.var 6)) .nil))) (.var 7)))
    (.cons (.set 3 (.var 6) (.var 5))
    .nil))
def l_ends_of_2 : S := .for_ (.tp [(.nm 6), (.nm 7)]) (.enu (.ix (.var 0) (.var 2))) b_ends_of_2
def b_ends_of_1 : Ss := (.cons (.asg (.nm 5) (.lit (.int 0)))
    (.cons l_ends_of_2
    (.cons (.app 4 (.bi .tuple (.cons false (.var 3) .nil)))
    .nil)))
def l_ends_of_1 : S := .for_ (.nm 2) (.it (.var 1)) b_ends_of_1
def c_johnson_1 : E := .comp [("at", 3), ("wash", 5), ("wring", 6)] (.tp [(.nm 3), (.tp [(.nm 5), (.nm 6)])]) (.enu (.var 0)) (.cmp (.var 5) [.le] (.cons false (.var 6) .nil)) (.tup (.cons false (.var 5) (.cons false (.var 3) .nil)))
def c_johnson_2 : E := .comp [("at", 3), ("wash", 5), ("wring", 6)] (.tp [(.nm 3), (.tp [(.nm 5), (.nm 6)])]) (.enu (.var 0)) (.cmp (.var 5) [.gt] (.cons false (.var 6) .nil)) (.tup (.cons false (.neg (.var 6)) (.cons false (.var 3) .nil)))
def c_johnson_3 : E := .comp [("time", 4), ("at", 3)] (.tp [(.nm 4), (.nm 3)]) (.it (.lst (.cons true (.var 1) (.cons true (.var 2) .nil)))) .no (.var 3)
def c_waits_1 : E := .comp [("wash", 3), ("wring", 4)] (.tp [(.nm 3), (.nm 4)]) (.it (.var 0)) .no (.var 4)
def c_all_orders_1 : E := .comp [("one", 5)] (.nm 5) (.rng1 (.var 0)) (.cmp (.var 5) [.notin] (.cons false (.var 4) .nil)) (.tup (.cons true (.var 4) (.cons false (.var 5) .nil)))
def b_all_orders_2 : Ss := (.cons (.ext 3 c_all_orders_1)
    .nil)
def l_all_orders_2 : S := .for_ (.nm 4) (.it (.var 1)) b_all_orders_2
def b_all_orders_1 : Ss := (.cons (.asg (.nm 3) (.lst .nil))
    (.cons l_all_orders_2
    (.cons (.asg (.nm 1) (.var 3))
    .nil)))
def l_all_orders_1 : S := .for_ (.nm 2) (.rng1 (.var 0)) b_all_orders_1
def c_soonest_three_1 : E := .comp [("order", 1)] (.nm 1) (.it (.call 15 (.cons false (.bi .len (.cons false (.var 0) .nil)) .nil))) .no (.tup (.cons false (.ix (.ix (.call 7 (.cons false (.var 0) (.cons false (.var 1) .nil))) (.neg (.lit (.int 1)))) (.gli "PAIR" (2))) (.cons false (.var 1) .nil)))
def c_middle_rule_1 : E := .comp [("wash", 4), ("wring", 5), ("iron", 6)] (.tp [(.nm 4), (.nm 5), (.nm 6)]) (.it (.var 0)) .no (.tup (.cons false (.bin .add (.var 4) (.var 5)) (.cons false (.bin .add (.var 5) (.var 6)) .nil)))
def c_middle_rule_2 : E := .comp [("wash", 4), ("wring", 5), ("iron", 6)] (.tp [(.nm 4), (.nm 5), (.nm 6)]) (.it (.var 0)) .no (.var 5)
def c_middle_rule_3 : E := .comp [("wash", 4), ("wring", 5), ("iron", 6)] (.tp [(.nm 4), (.nm 5), (.nm 6)]) (.it (.var 0)) .no (.var 4)
def c_middle_rule_4 : E := .comp [("wash", 4), ("wring", 5), ("iron", 6)] (.tp [(.nm 4), (.nm 5), (.nm 6)]) (.it (.var 0)) .no (.var 6)
def c_law_orders_1 : E := .comp [("one", 5)] (.nm 5) (.rng1 (.var 0)) (.cmp (.var 5) [.notin] (.cons false (.var 4) .nil)) (.bin .add (.var 4) (.tup (.cons false (.var 5) .nil)))
def b_law_orders_2 : Ss := (.cons (.ext 3 c_law_orders_1)
    .nil)
def l_law_orders_2 : S := .for_ (.nm 4) (.it (.var 1)) b_law_orders_2
def b_law_orders_1 : Ss := (.cons (.asg (.nm 3) (.lst .nil))
    (.cons l_law_orders_2
    (.cons (.asg (.nm 1) (.var 3))
    .nil)))
def l_law_orders_1 : S := .for_ (.nm 2) (.rng1 (.var 0)) b_law_orders_1
def b_law_ends_2 : Ss := (.cons (.asg (.nm 5) (.bin .add (.bi .max (.cons false (.var 5) (.cons false (.ix (.var 3) (.var 6)) .nil))) (.ix (.ix (.var 0) (.var 2)) (.var 6))))
    (.cons (.set 3 (.var 6) (.var 5))
    .nil))
def l_law_ends_2 : S := .for_ (.nm 6) (.rng1 (.bi .len (.cons false (.var 3) .nil))) b_law_ends_2
def b_law_ends_1 : Ss := (.cons (.asg (.nm 5) (.lit (.int 0)))
    (.cons l_law_ends_2
    (.cons (.app 4 (.bi .tuple (.cons false (.var 3) .nil)))
    .nil)))
def l_law_ends_1 : S := .for_ (.nm 2) (.it (.var 1)) b_law_ends_1
def c_law_jobs_1 : E := .comp [("at", 5)] (.nm 5) (.rng1 (.var 2)) .no (.call 18 (.cons false (.var 0) (.cons false (.var 3) .nil)))
def c_law_jobs_2 : E := .comp [("lap", 4)] (.nm 4) (.rng1 (.bin .add (.lit (.int 1)) (.call 18 (.cons false (.var 0) (.cons false (.var 1) .nil))))) .no (.bi .tuple (.cons false c_law_jobs_1 .nil))
def c_law_due_1 : E := .comp [("at", 3)] (.nm 3) (.it (.ix (.var 2) (.lit (.int 1)))) .no (.call 25 (.cons false (.var 3) (.cons false (.lit (.int 0)) (.cons false (.bin .sub (.bi .len (.cons false (.var 0) .nil)) (.lit (.int 1))) .nil))))
def c_law_are_refused_1 : E := .comp [("is_kind", 11), ("name", 12)] (.tp [(.nm 11), (.nm 12)]) (.it (.var 10)) (.var 11) (.var 12)
def b_law_are_refused_1 : Ss := (.cons (.asg (.nm 9) (.ix (.hear (.var 6)) (.lit (.int 0))))
    (.cons (.asg (.nm 10) (.lst (.cons false (.tup (.cons false (.isi (.exc 1) (.var 9)) (.cons false (.lit (.str "jobs")) .nil))) (.cons false (.tup (.cons false (.isi (.exc 2) (.var 9)) (.cons false (.lit (.str "order")) .nil))) .nil))))
    (.cons (.ifs (.bop false (.cons false (.cmp c_law_are_refused_1 [.ne] (.cons false (.lst (.cons false (.var 7) .nil)) .nil)) (.cons false (.cmp (.bi .repr (.cons false (.attr (.var 9)) .nil)) [.ne] (.cons false (.bi .repr (.cons false (.var 8) .nil)) .nil)) .nil)))
    (.cons (.ret (.lit (.bool false)))
    .nil)
    .nil)
    .nil)))
def l_law_are_refused_1 : S := .for_ (.tp [(.nm 6), (.nm 7), (.nm 8)]) (.it (.var 5)) b_law_are_refused_1
def c_law_rule_1 : E := .comp [("wash", 4), ("wring", 5), ("iron", 6)] (.tp [(.nm 4), (.nm 5), (.nm 6)]) (.it (.var 0)) .no (.tup (.cons false (.bin .add (.var 4) (.var 5)) (.cons false (.bin .add (.var 5) (.var 6)) .nil)))
def c_law_rule_2 : E := .comp [("at", 7), ("one", 9), ("other", 10)] (.tp [(.nm 7), (.tp [(.nm 9), (.nm 10)])]) (.enu (.var 1)) (.cmp (.var 9) [.le] (.cons false (.var 10) .nil)) (.tup (.cons false (.var 9) (.cons false (.var 7) .nil)))
def c_law_rule_3 : E := .comp [("at", 7), ("one", 9), ("other", 10)] (.tp [(.nm 7), (.tp [(.nm 9), (.nm 10)])]) (.enu (.var 1)) (.cmp (.var 9) [.gt] (.cons false (.var 10) .nil)) (.tup (.cons false (.neg (.var 10)) (.cons false (.var 7) .nil)))
def c_law_rule_4 : E := .comp [("time", 8), ("at", 7)] (.tp [(.nm 8), (.nm 7)]) (.it (.bin .add (.var 2) (.var 3))) .no (.var 7)
def c_law_right_1 : E := .comp [("job", 18)] (.nm 18) (.it (.var 1)) .no (.ix (.var 18) (.lit (.int 1)))
def c_law_right_2 : E := .comp [("one", 17)] (.nm 17) (.it (.var 13)) .no (.ix (.ix (.call 23 (.cons false (.var 1) (.cons false (.var 17) .nil))) (.neg (.lit (.int 1)))) (.lit (.int 1)))
def c_law_right_3 : E := .comp [("lap", 16)] (.nm 16) (.rng1 (.lit (.int 6))) .no (.tup (.cons false (.var 14) (.cons false (.call 19 (.cons false (.var 0) (.cons false (.var 13) .nil))) .nil)))
def c_law_right_4 : E := .comp [("lap", 16)] (.nm 16) (.rng1 (.lit (.int 6))) .no (.call 21 (.cons false (.var 0) (.cons false (.var 15) .nil)))
def b_law_right_1 : Ss := (.cons (.ifs (.cmp (.bi .repr (.cons false (.call 14 (.cons false (.var 1) (.cons false (.var 5) .nil))) .nil)) [.ne] (.cons false (.bi .repr (.cons false (.call 26 (.cons false (.var 1) (.cons false (.var 14) (.cons false (.var 5) .nil)))) .nil)) .nil))
    (.cons (.ret (.lit (.bool false)))
    .nil)
    .nil)
    .nil)
def l_law_right_1 : S := .for_ (.nm 5) (.it (.bin .add (.var 4) c_law_right_4)) b_law_right_1
def c_law_right_5 : E := .comp [("one", 17)] (.nm 17) (.it (.call 22 (.cons false (.bi .len (.cons false (.var 6) .nil)) .nil))) .no (.tup (.cons false (.ix (.ix (.call 23 (.cons false (.var 6) (.cons false (.var 17) .nil))) (.neg (.lit (.int 1)))) (.lit (.int 2))) (.cons false (.var 17) .nil)))
def c_law_right_6 : E := .comp [("job", 18)] (.nm 18) (.it (.var 6)) .no (.ix (.var 18) (.lit (.int 1)))
def c_law_right_7 : E := .comp [("job", 18)] (.nm 18) (.it (.var 6)) .no (.ix (.var 18) (.lit (.int 0)))
def c_law_right_8 : E := .comp [("job", 18)] (.nm 18) (.it (.var 6)) .no (.ix (.var 18) (.lit (.int 2)))
def c_law_1 : E := .comp [("lap", 3)] (.nm 3) (.rng1 (.lit (.int 2))) .no (.call 29 (.cons false (.var 2) .nil))
def b_law_1 : Ss := (.cons (.asg (.nm 2) (.call 11 (.cons false (.var 0) (.cons false (.var 1) .nil))))
    (.cons (.ifs (.not (.bi .all (.cons false c_law_1 .nil)))
    (.cons (.ret (.lit (.bool false)))
    .nil)
    .nil)
    .nil))
def l_law_1 : S := .for_ (.nm 1) (.it (.call 12 (.cons false (.var 0) (.cons false (.lit (.int 4)) .nil)))) b_law_1
def d_is_tuple : Def := ⟨3, 3,
    (.cons (.ret (.bop true (.cons false (.isi .tup (.var 0)) (.cons false (.cmp (.var 1) [.le, .le] (.cons false (.bi .len (.cons false (.var 0) .nil)) (.cons false (.var 2) .nil))) .nil))))
    .nil), []⟩
def d_is_whole : Def := ⟨1, 1,
    (.cons (.ret (.bop true (.cons false (.isi .int (.var 0)) (.cons false (.not (.isi .bool (.var 0))) .nil))))
    .nil), []⟩
def d_is_integer : Def := ⟨3, 3,
    (.cons (.ret (.bop true (.cons false (.call 1 (.cons false (.var 0) .nil)) (.cons false (.cmp (.var 1) [.le, .le] (.cons false (.var 0) (.cons false (.var 2) .nil))) .nil))))
    .nil), []⟩
def d_is_job : Def := ⟨3, 2,
    (.cons (.ret (.bop true (.cons false (.call 0 (.cons false (.var 1) (.cons false (.var 0) (.cons false (.var 0) .nil)))) (.cons false (.bi .all (.cons false c_is_job_1 .nil)) .nil))))
    .nil), []⟩
def d_check_jobs : Def := ⟨4, 3,
    (.cons (.ifs (.bop false (.cons false (.not (.call 0 (.cons false (.var 0) (.cons false (.lit (.int 1)) (.cons false (.var 1) .nil))))) (.cons false (.not (.bi .all (.cons false c_check_jobs_1 .nil))) .nil)))
    (.cons (.rai 1 (.var 0))
    .nil)
    .nil)
    .nil), []⟩
def d_is_order : Def := ⟨3, 2,
    (.cons (.ifs (.bop false (.cons false (.not (.call 0 (.cons false (.var 1) (.cons false (.var 0) (.cons false (.var 0) .nil))))) (.cons false (.not (.bi .all (.cons false c_is_order_1 .nil))) .nil)))
    (.cons (.ret (.lit (.bool false)))
    .nil)
    .nil)
    (.cons (.ret (.cmp (.lset (.var 1)) [.eq] (.cons false (.var 0) .nil)))
    .nil)), []⟩
def d_check_order : Def := ⟨2, 2,
    (.cons (.ifs (.not (.call 5 (.cons false (.var 0) (.cons false (.var 1) .nil))))
    (.cons (.rai 2 (.var 1))
    .nil)
    .nil)
    .nil), []⟩
def d_ends_of : Def := ⟨8, 2,
    (.cons (.par [3, 4] (.cons false (.bin .mul (.lst (.cons false (.lit (.int 0)) .nil)) (.bi .len (.cons false (.ix (.var 0) (.lit (.int 0))) .nil))) (.cons false (.lst .nil) .nil)))
    (.cons l_ends_of_1
    (.cons (.ret (.bi .tuple (.cons false (.var 4) .nil)))
    .nil))), []⟩
def d_ends : Def := ⟨2, 2,
    (.cons (.ex (.call 4 (.cons false (.var 0) (.cons false (.gli "MOST_JOBS" (20)) (.cons false (.gli "PAIR" (2)) .nil)))))
    (.cons (.ex (.call 6 (.cons false (.bi .len (.cons false (.var 0) .nil)) (.cons false (.var 1) .nil))))
    (.cons (.ret (.call 7 (.cons false (.var 0) (.cons false (.var 1) .nil))))
    .nil))), []⟩
def d_johnson : Def := ⟨7, 1,
    (.cons (.asg (.nm 1) (.bi .sorted (.cons false c_johnson_1 .nil)))
    (.cons (.asg (.nm 2) (.bi .sorted (.cons false c_johnson_2 .nil)))
    (.cons (.ret (.bi .tuple (.cons false c_johnson_3 .nil)))
    .nil))), []⟩
def d_soonest : Def := ⟨2, 1,
    (.cons (.ex (.call 4 (.cons false (.var 0) (.cons false (.gli "MOST_JOBS" (20)) (.cons false (.gli "PAIR" (2)) .nil)))))
    (.cons (.asg (.nm 1) (.call 9 (.cons false (.var 0) .nil)))
    (.cons (.ret (.tup (.cons false (.ix (.ix (.call 7 (.cons false (.var 0) (.cons false (.var 1) .nil))) (.neg (.lit (.int 1)))) (.lit (.int 1))) (.cons false (.var 1) .nil))))
    .nil))), []⟩
def d_law_pot : Def := ⟨5, 2,
    (.cons (.asg (.nm 2) (.ite (.cmp (.var 1) [.lt] (.cons false (.bi .len (.cons false (.var 0) .nil)) .nil)) (.ix (.var 0) (.var 1)) (.bin .add (.bin .add (.bin .mod (.bi .sum (.cons false (.slc (.var 0) .no (.lit (.int 1))) .nil)) (.lit (.int 1000003))) (.bin .mul (.lit (.int 7183)) (.var 1))) (.lit (.int 462)))))
    (.cons (.asg (.nm 3) (.bin .mul (.bin .mod (.bi .int (.cons false (.bi .abs (.cons false (.var 2) .nil)) .nil)) (.bin .pow (.bin .pow (.lit (.int 10)) (.lit (.int 60))) (.lit (.int 5)))) (.bi .int (.cons false (.cmp (.bi .abs (.cons false (.var 2) .nil)) [.ge] (.cons false (.bin .pow (.lit (.int 10)) (.lit (.int 18))) .nil)) .nil))))
    (.cons (.asg (.nm 4) (.bin .mod (.bi .int (.cons false (.var 2) .nil)) (.lit (.int 2305843009213693951))))
    (.cons (.ret (.cell (.cons false (.var 3) (.cons false (.bin .mod (.bi .int (.cons false (.bin .add (.bin .add (.bin .mul (.var 4) (.lit (.int 94925))) (.bin .mul (.bin .mul (.lit (.int 11647)) (.var 1)) (.var 1))) (.lit (.int 869))) .nil)) (.lit (.int 2305843009213693921))) (.cons false (.lit (.int 0)) .nil)))))
    .nil)))), []⟩
def d_law_places : Def := ⟨2, 2,
    (.cons (.ret (.lsrc (.rng1 (.bi .max (.cons false (.lit (.int 1)) (.cons false (.bi .min (.cons false (.var 1) (.cons false (.bi .len (.cons false (.var 0) .nil)) .nil))) .nil))))))
    .nil), []⟩
def d_waits : Def := ⟨5, 2,
    (.cons (.asg (.nm 2) (.call 8 (.cons false (.var 0) (.cons false (.var 1) .nil))))
    (.cons (.ret (.bin .sub (.ix (.ix (.var 2) (.neg (.lit (.int 1)))) (.lit (.int 1))) (.bi .sum (.cons false c_waits_1 .nil))))
    .nil)), []⟩
def d_shows_soonest : Def := ⟨3, 2,
    (.cons (.asg (.nm 2) (.ix (.call 10 (.cons false (.var 0) .nil)) (.lit (.int 0))))
    (.cons (.ifs (.bop false (.cons false (.not (.call 0 (.cons false (.var 1) (.cons false (.gli "PAIR" (2)) (.cons false (.gli "PAIR" (2)) .nil))))) (.cons false (.not (.call 5 (.cons false (.bi .len (.cons false (.var 0) .nil)) (.cons false (.ix (.var 1) (.lit (.int 1))) .nil)))) (.cons false (.not (.call 2 (.cons false (.ix (.var 1) (.lit (.int 0))) (.cons false (.var 2) (.cons false (.var 2) .nil))))) .nil))))
    (.cons (.ret (.lit (.bool false)))
    .nil)
    .nil)
    (.cons (.ret (.cmp (.ix (.ix (.call 7 (.cons false (.var 0) (.cons false (.ix (.var 1) (.lit (.int 1))) .nil))) (.neg (.lit (.int 1)))) (.lit (.int 1))) [.eq] (.cons false (.var 2) .nil)))
    .nil))), []⟩
def d_all_orders : Def := ⟨6, 1,
    (.cons (.asg (.nm 1) (.lst (.cons false (.tup .nil) .nil)))
    (.cons l_all_orders_1
    (.cons (.ret (.var 1))
    .nil))), []⟩
def d_soonest_three : Def := ⟨2, 1,
    (.cons (.ex (.call 4 (.cons false (.var 0) (.cons false (.gli "MOST_TRIED" (6)) (.cons false (.gli "TRIPLE" (3)) .nil)))))
    (.cons (.ret (.bi .min (.cons false c_soonest_three_1 .nil)))
    .nil)), []⟩
def d_middle_rule : Def := ⟨7, 1,
    (.cons (.ex (.call 4 (.cons false (.var 0) (.cons false (.gli "MOST_JOBS" (20)) (.cons false (.gli "TRIPLE" (3)) .nil)))))
    (.cons (.asg (.nm 1) (.call 9 (.cons false c_middle_rule_1 .nil)))
    (.cons (.asg (.nm 2) (.bi .max (.cons false c_middle_rule_2 .nil)))
    (.cons (.asg (.nm 3) (.bop false (.cons false (.cmp (.bi .min (.cons false c_middle_rule_3 .nil)) [.ge] (.cons false (.var 2) .nil)) (.cons false (.cmp (.bi .min (.cons false c_middle_rule_4 .nil)) [.ge] (.cons false (.var 2) .nil)) .nil))))
    (.cons (.ret (.tup (.cons false (.ix (.ix (.call 7 (.cons false (.var 0) (.cons false (.var 1) .nil))) (.neg (.lit (.int 1)))) (.gli "PAIR" (2))) (.cons false (.var 1) (.cons false (.var 3) .nil)))))
    .nil))))), []⟩
def d_law_take : Def := ⟨5, 2,
    (.cons (.ifs (.cmp (.ix (.var 0) (.lit (.int 0))) [.gt] (.cons false (.lit (.int 0)) .nil))
    (.cons (.asg (.nm 4) (.bin .mod (.bi .int (.cons false (.ix (.var 0) (.lit (.int 0))) .nil)) (.var 1)))
    (.cons (.set 0 (.lit (.int 0)) (.bin .fdiv (.ix (.var 0) (.lit (.int 0))) (.var 1)))
    (.cons (.ret (.var 4))
    .nil)))
    .nil)
    (.cons (.set 0 (.lit (.int 2)) (.bin .add (.ix (.var 0) (.lit (.int 2))) (.lit (.int 1))))
    (.cons (.asg (.nm 2) (.ix (.lst (.cons false (.lit (.int 2147483647)) (.cons false (.lit (.int 2147483629)) (.cons false (.lit (.int 2147483587)) (.cons false (.lit (.int 2147483579)) (.cons false (.lit (.int 2147483563)) .nil)))))) (.bin .mod (.bi .int (.cons false (.ix (.var 0) (.lit (.int 2))) .nil)) (.lit (.int 5)))))
    (.cons (.asg (.nm 3) (.bin .mod (.bi .int (.cons false (.bin .pow (.bi .int (.cons false (.bin .add (.bin .add (.ix (.var 0) (.lit (.int 1))) (.bin .mul (.bin .mul (.lit (.int 91830)) (.ix (.var 0) (.lit (.int 2)))) (.ix (.var 0) (.lit (.int 2))))) (.lit (.int 669))) .nil)) (.lit (.int 3))) .nil)) (.var 2)))
    (.cons (.asg (.nm 3) (.bin .mod (.bi .int (.cons false (.bin .mul (.var 3) (.bin .add (.bin .mod (.bi .int (.cons false (.var 3) .nil)) (.lit (.int 10259))) (.bin .mul (.lit (.int 122)) (.ix (.var 0) (.lit (.int 2)))))) .nil)) (.lit (.int 2305843009213693907))))
    (.cons (.ret (.bin .mod (.bi .int (.cons false (.bin .fdiv (.var 3) (.lit (.int 152))) .nil)) (.var 1)))
    .nil)))))), []⟩
def d_law_of : Def := ⟨2, 2,
    (.cons (.ret (.ix (.var 1) (.call 18 (.cons false (.var 0) (.cons false (.bi .len (.cons false (.var 1) .nil)) .nil)))))
    .nil), []⟩
def d_law_odd : Def := ⟨2, 1,
    (.cons (.asg (.nm 1) (.lst (.cons false (.lit .none) (.cons false (.lit (.bool true)) (.cons false (.lit (.bool false)) (.cons false (.lit (.int 0)) (.cons false (.lit (.int 1)) (.cons false (.neg (.lit (.int 1))) (.cons false (.lit (.int 2)) (.cons false (.lit (.int 1001)) (.cons false (.lit (.str "")) (.cons false (.lit (.str "a")) (.cons false (.lit (.str "map")) (.cons false (.lit (.str "to")) (.cons false (.tup .nil) (.cons false (.lst .nil) (.cons false (.tup (.cons false (.lit (.int 0)) .nil)) (.cons false (.tup (.cons false (.tup .nil) .nil)) (.cons false (.lst (.cons false (.lit (.int 1)) .nil)) (.cons false (.tup (.cons false (.lit (.bool true)) .nil)) (.cons false (.tup (.cons false (.lit .none) .nil)) .nil)))))))))))))))))))))
    (.cons (.asg (.nm 1) (.bin .add (.var 1) (.lst (.cons false (.tup (.cons false (.lit (.str "a")) .nil)) (.cons false (.tup (.cons false (.tup (.cons false (.lit (.int 0)) .nil)) (.cons false (.tup .nil) .nil))) (.cons false (.tup (.cons false (.lit (.int 7)) .nil)) (.cons false (.tup (.cons false (.lit (.int 0)) (.cons false (.lst (.cons false (.lit (.int 0)) .nil)) .nil))) (.cons false (.tup (.cons false (.tup (.cons false (.lit (.int 0)) .nil)) (.cons false (.tup (.cons false (.tup (.cons false (.lit (.int 0)) (.cons false (.lit (.int 1)) .nil))) .nil)) .nil))) (.cons false (.lst (.cons false (.tup (.cons false (.lit (.int 0)) .nil)) (.cons false (.tup (.cons false (.tup (.cons false (.lit (.int 0)) (.cons false (.lit (.int 0)) .nil))) .nil)) .nil))) (.cons false (.lit (.str "map 0")) (.cons false (.bin .pow (.lit (.int 10)) (.lit (.int 20))) .nil)))))))))))
    (.cons (.ret (.call 19 (.cons false (.var 0) (.cons false (.var 1) .nil))))
    .nil))), []⟩
def d_law_bent : Def := ⟨4, 2,
    (.cons (.ifs (.bop true (.cons false (.isi .tup (.var 1)) (.cons false (.cmp (.var 1) [.ne] (.cons false (.tup .nil) .nil)) (.cons false (.cmp (.call 18 (.cons false (.var 0) (.cons false (.lit (.int 5)) .nil))) [.gt] (.cons false (.lit (.int 0)) .nil)) .nil))))
    (.cons (.asg (.nm 2) (.call 18 (.cons false (.var 0) (.cons false (.bi .len (.cons false (.var 1) .nil)) .nil))))
    (.cons (.ret (.bin .add (.bin .add (.slc (.var 1) .no (.var 2)) (.tup (.cons false (.call 21 (.cons false (.var 0) (.cons false (.ix (.var 1) (.var 2)) .nil))) .nil))) (.slc (.var 1) (.bin .add (.var 2) (.lit (.int 1))) .no)))
    .nil))
    .nil)
    (.cons (.ifs (.isi .tup (.var 1))
    (.cons (.ret (.call 19 (.cons false (.var 0) (.cons false (.lst (.cons false (.bi .list (.cons false (.var 1) .nil)) (.cons false (.slc (.var 1) (.lit (.int 1)) .no) (.cons false (.slc (.var 1) .no (.neg (.lit (.int 1)))) (.cons false (.bin .add (.var 1) (.slc (.var 1) (.neg (.lit (.int 1))) .no)) (.cons false (.rev (.var 1)) (.cons false (.tup .nil) (.cons false (.lit .none) .nil)))))))) .nil))))
    .nil)
    .nil)
    (.cons (.ifs (.isi .bool (.var 1))
    (.cons (.ret (.call 19 (.cons false (.var 0) (.cons false (.lst (.cons false (.not (.var 1)) (.cons false (.bi .int (.cons false (.var 1) .nil)) (.cons false (.lit .none) .nil)))) .nil))))
    .nil)
    .nil)
    (.cons (.ifs (.isi .int (.var 1))
    (.cons (.ret (.call 19 (.cons false (.var 0) (.cons false (.lst (.cons false (.bin .add (.var 1) (.lit (.int 1))) (.cons false (.bin .sub (.var 1) (.lit (.int 1))) (.cons false (.neg (.var 1)) (.cons false (.bi .str (.cons false (.var 1) .nil)) (.cons false (.lit .none) (.cons false (.cmp (.var 1) [.eq] (.cons false (.lit (.int 1)) .nil)) (.cons false (.tup (.cons false (.var 1) .nil)) .nil)))))))) .nil))))
    .nil)
    .nil)
    (.cons (.ifs (.isi .str (.var 1))
    (.cons (.asg (.nm 3) (.lst (.cons false (.bin .add (.var 1) (.lit (.str "a"))) (.cons false (.slc (.var 1) .no (.neg (.lit (.int 1)))) (.cons false .stuck (.cons false (.lst (.cons false (.var 1) .nil)) (.cons false (.lit (.str "a")) (.cons false (.lit .none) (.cons false (.lit (.int 0)) (.cons false (.lit (.str "")) (.cons false (.bin .add (.lit (.str "b")) (.var 1)) (.cons false (.bin .add (.var 1) (.lit (.str "/"))) .nil))))))))))))
    (.cons (.ret (.call 19 (.cons false (.var 0) (.cons false (.var 3) .nil))))
    .nil))
    .nil)
    (.cons (.ret (.call 20 (.cons false (.var 0) .nil)))
    .nil)))))), []⟩
def d_law_orders : Def := ⟨6, 1,
    (.cons (.asg (.nm 1) (.lst (.cons false (.tup .nil) .nil)))
    (.cons l_law_orders_1
    (.cons (.ret (.var 1))
    .nil))), []⟩
def d_law_ends : Def := ⟨7, 2,
    (.cons (.par [3, 4] (.cons false (.bin .mul (.lst (.cons false (.lit (.int 0)) .nil)) (.bi .len (.cons false (.ix (.var 0) (.lit (.int 0))) .nil))) (.cons false (.lst .nil) .nil)))
    (.cons l_law_ends_1
    (.cons (.ret (.bi .tuple (.cons false (.var 4) .nil)))
    .nil))), []⟩
def d_law_jobs : Def := ⟨6, 3,
    (.cons (.asg (.nm 3) (.call 19 (.cons false (.var 0) (.cons false (.lst (.cons false (.lit (.int 3)) (.cons false (.lit (.int 10)) .nil))) .nil))))
    (.cons (.ret (.bi .tuple (.cons false c_law_jobs_2 .nil)))
    .nil)), []⟩
def d_law_is_int : Def := ⟨3, 3,
    (.cons (.ret (.bop true (.cons false (.isi .int (.var 0)) (.cons false (.not (.isi .bool (.var 0))) (.cons false (.cmp (.var 1) [.le, .le] (.cons false (.var 0) (.cons false (.var 2) .nil))) .nil)))))
    .nil), []⟩
def d_law_due : Def := ⟨4, 3,
    (.cons (.ifs (.bop false (.cons false (.not (.isi .tup (.var 2))) (.cons false (.cmp (.bi .len (.cons false (.var 2) .nil)) [.ne] (.cons false (.lit (.int 2)) .nil)) (.cons false (.not (.call 25 (.cons false (.ix (.var 2) (.lit (.int 0))) (.cons false (.var 1) (.cons false (.var 1) .nil))))) .nil))))
    (.cons (.ret (.lit (.bool false)))
    .nil)
    .nil)
    (.cons (.ifs (.bop false (.cons false (.not (.isi .tup (.ix (.var 2) (.lit (.int 1))))) (.cons false (.not (.bi .all (.cons false c_law_due_1 .nil))) .nil)))
    (.cons (.ret (.lit (.bool false)))
    .nil)
    .nil)
    (.cons (.ret (.bop true (.cons false (.cmp (.bi .sorted (.cons false (.ix (.var 2) (.lit (.int 1))) .nil)) [.eq] (.cons false (.lsrc (.rng1 (.bi .len (.cons false (.var 0) .nil)))) .nil)) (.cons false (.cmp (.ix (.ix (.call 23 (.cons false (.var 0) (.cons false (.ix (.var 2) (.lit (.int 1))) .nil))) (.neg (.lit (.int 1)))) (.lit (.int 1))) [.eq] (.cons false (.var 1) .nil)) .nil))))
    .nil))), []⟩
def m_law_are_refused_0 : E := (.call 8 (.cons false (.var 2) (.cons false (.var 3) .nil)))
def m_law_are_refused_1 : E := (.call 8 (.cons false (.var 1) (.cons false (.var 3) .nil)))
def m_law_are_refused_2 : E := (.call 13 (.cons false (.var 2) (.cons false (.var 3) .nil)))
def m_law_are_refused_3 : E := (.call 13 (.cons false (.var 1) (.cons false (.var 3) .nil)))
def m_law_are_refused_4 : E := (.call 10 (.cons false (.var 2) .nil))
def m_law_are_refused_5 : E := (.call 14 (.cons false (.var 2) (.cons false (.lit .none) .nil)))
def m_law_are_refused_6 : E := (.call 16 (.cons false (.var 4) .nil))
def m_law_are_refused_7 : E := (.call 17 (.cons false (.var 2) .nil))
def d_law_are_refused : Def := ⟨13, 2,
    (.cons (.asg (.nm 2) (.call 19 (.cons false (.var 0) (.cons false (.lst (.cons false (.lit .none) (.cons false (.tup .nil) (.cons false (.lst (.cons false (.tup (.cons false (.lit (.int 1)) (.cons false (.lit (.int 1)) .nil))) .nil)) (.cons false (.tup (.cons false (.tup (.cons false (.lit (.int 1)) .nil)) .nil)) (.cons false (.tup (.cons false (.tup (.cons false (.lit (.int 1)) (.cons false (.neg (.lit (.int 1))) .nil))) .nil)) (.cons false (.tup (.cons false (.tup (.cons false (.lit (.int 1001)) (.cons false (.lit (.int 0)) .nil))) .nil)) (.cons false (.tup (.cons false (.tup (.cons false (.lit (.bool true)) (.cons false (.lit (.int 1)) .nil))) .nil)) (.cons false (.bin .mul (.tup (.cons false (.tup (.cons false (.lit (.int 1)) (.cons false (.lit (.int 1)) .nil))) .nil)) (.lit (.int 21))) .nil))))))))) .nil))))
    (.cons (.asg (.nm 3) (.call 19 (.cons false (.var 0) (.cons false (.lst (.cons false (.lit .none) (.cons false (.tup .nil) (.cons false (.bin .mul (.tup (.cons false (.lit (.int 0)) .nil)) (.bin .add (.bi .len (.cons false (.var 1) .nil)) (.lit (.int 1)))) (.cons false (.lst (.cons false (.lit (.int 0)) .nil)) (.cons false (.bin .mul (.tup (.cons false (.bi .len (.cons false (.var 1) .nil)) .nil)) (.bi .len (.cons false (.var 1) .nil))) (.cons false (.bin .add (.tup (.cons false (.lit (.bool true)) .nil)) (.bin .mul (.tup (.cons false (.lit (.int 1)) .nil)) (.bi .len (.cons false (.var 1) .nil)))) .nil))))))) .nil))))
    (.cons (.asg (.nm 4) (.call 19 (.cons false (.var 0) (.cons false (.lst (.cons false (.lit .none) (.cons false (.tup .nil) (.cons false (.tup (.cons false (.tup (.cons false (.lit (.int 1)) (.cons false (.lit (.int 1)) .nil))) .nil)) (.cons false (.bin .mul (.tup (.cons false (.tup (.cons false (.lit (.int 1)) (.cons false (.lit (.int 1)) (.cons false (.lit (.int 1)) .nil)))) .nil)) (.lit (.int 7))) (.cons false (.tup (.cons false (.tup (.cons false (.lit (.int 1)) (.cons false (.lit (.int 1)) (.cons false (.neg (.lit (.int 1))) .nil)))) .nil)) .nil)))))) .nil))))
    (.cons (.asg (.nm 5) (.lst (.cons false (.tup (.cons false (.lam 0) (.cons false (.lit (.str "jobs")) (.cons false (.var 2) .nil)))) .nil)))
    (.cons (.app 5 (.tup (.cons false (.lam 1) (.cons false (.lit (.str "order")) (.cons false (.var 3) .nil)))))
    (.cons (.app 5 (.tup (.cons false (.lam 2) (.cons false (.lit (.str "jobs")) (.cons false (.var 2) .nil)))))
    (.cons (.app 5 (.tup (.cons false (.lam 3) (.cons false (.lit (.str "order")) (.cons false (.var 3) .nil)))))
    (.cons (.app 5 (.tup (.cons false (.lam 4) (.cons false (.lit (.str "jobs")) (.cons false (.var 2) .nil)))))
    (.cons (.app 5 (.tup (.cons false (.lam 5) (.cons false (.lit (.str "jobs")) (.cons false (.var 2) .nil)))))
    (.cons (.app 5 (.tup (.cons false (.lam 6) (.cons false (.lit (.str "jobs")) (.cons false (.var 4) .nil)))))
    (.cons (.app 5 (.tup (.cons false (.lam 7) (.cons false (.lit (.str "jobs")) (.cons false (.var 2) .nil)))))
    (.cons l_law_are_refused_1
    (.cons (.ret (.lit (.bool true)))
    .nil))))))))))))), [m_law_are_refused_0, m_law_are_refused_1, m_law_are_refused_2, m_law_are_refused_3, m_law_are_refused_4, m_law_are_refused_5, m_law_are_refused_6, m_law_are_refused_7]⟩
def d_law_rule : Def := ⟨11, 1,
    (.cons (.asg (.nm 1) c_law_rule_1)
    (.cons (.asg (.nm 2) (.bi .sorted (.cons false c_law_rule_2 .nil)))
    (.cons (.asg (.nm 3) (.bi .sorted (.cons false c_law_rule_3 .nil)))
    (.cons (.ret (.bi .tuple (.cons false c_law_rule_4 .nil)))
    .nil)))), []⟩
def d_law_right : Def := ⟨19, 1,
    (.cons (.asg (.nm 1) (.call 24 (.cons false (.var 0) (.cons false (.lit (.int 5)) (.cons false (.lit (.int 2)) .nil)))))
    (.cons (.asg (.tp [(.nm 12), (.nm 13)]) (.tup (.cons false (.bi .len (.cons false (.var 1) .nil)) (.cons false (.call 22 (.cons false (.bi .len (.cons false (.var 1) .nil)) .nil)) .nil))))
    (.cons (.asg (.nm 2) (.call 19 (.cons false (.var 0) (.cons false (.var 13) .nil))))
    (.cons (.asg (.nm 3) (.call 23 (.cons false (.var 1) (.cons false (.var 2) .nil))))
    (.cons (.ifs (.cmp (.bi .repr (.cons false (.call 8 (.cons false (.var 1) (.cons false (.var 2) .nil))) .nil)) [.ne] (.cons false (.bi .repr (.cons false (.var 3) .nil)) .nil))
    (.cons (.ret (.lit (.bool false)))
    .nil)
    .nil)
    (.cons (.ifs (.cmp (.bi .repr (.cons false (.call 13 (.cons false (.var 1) (.cons false (.var 2) .nil))) .nil)) [.ne] (.cons false (.bi .repr (.cons false (.bin .sub (.ix (.ix (.var 3) (.neg (.lit (.int 1)))) (.lit (.int 1))) (.bi .sum (.cons false c_law_right_1 .nil))) .nil)) .nil))
    (.cons (.ret (.lit (.bool false)))
    .nil)
    .nil)
    (.cons (.asg (.tp [(.nm 14), (.nm 15)]) (.tup (.cons false (.bi .min (.cons false c_law_right_2 .nil)) (.cons false (.call 10 (.cons false (.var 1) .nil)) .nil))))
    (.cons (.ifs (.not (.call 26 (.cons false (.var 1) (.cons false (.var 14) (.cons false (.var 15) .nil)))))
    (.cons (.ret (.lit (.bool false)))
    .nil)
    .nil)
    (.cons (.asg (.nm 4) (.lst (.cons false (.var 15) (.cons false (.rev (.var 15)) (.cons false (.bi .list (.cons false (.var 15) .nil)) (.cons false (.slc (.var 15) .no (.lit (.int 1))) (.cons false (.bin .add (.var 15) (.tup (.cons false (.tup .nil) .nil))) (.cons false (.tup (.cons false (.bin .add (.var 14) (.lit (.int 1))) (.cons false (.ix (.var 15) (.lit (.int 1))) .nil))) (.cons false (.tup (.cons false (.var 14) (.cons false (.rev (.ix (.var 15) (.lit (.int 1)))) .nil))) .nil)))))))))
    (.cons (.ext 4 (.lst (.cons false (.tup (.cons false (.var 14) (.cons false (.slc (.ix (.var 15) (.lit (.int 1))) (.lit (.int 1)) .no) .nil))) (.cons false (.tup (.cons false (.var 14) (.cons false (.bi .list (.cons false (.ix (.var 15) (.lit (.int 1))) .nil)) .nil))) (.cons false (.tup (.cons false (.var 14) (.cons false (.bin .mul (.tup (.cons false (.lit (.int 0)) .nil)) (.var 12)) .nil))) (.cons false (.call 20 (.cons false (.var 0) .nil)) .nil))))))
    (.cons (.ext 4 c_law_right_3)
    (.cons l_law_right_1
    (.cons (.asg (.nm 6) (.call 24 (.cons false (.var 0) (.cons false (.lit (.int 4)) (.cons false (.lit (.int 3)) .nil)))))
    (.cons (.asg (.nm 7) (.bi .min (.cons false c_law_right_5 .nil)))
    (.cons (.ifs (.cmp (.bi .repr (.cons false (.call 16 (.cons false (.var 6) .nil)) .nil)) [.ne] (.cons false (.bi .repr (.cons false (.var 7) .nil)) .nil))
    (.cons (.ret (.lit (.bool false)))
    .nil)
    .nil)
    (.cons (.asg (.nm 8) (.call 28 (.cons false (.var 6) .nil)))
    (.cons (.asg (.nm 9) (.bi .max (.cons false c_law_right_6 .nil)))
    (.cons (.asg (.nm 10) (.bop false (.cons false (.cmp (.bi .min (.cons false c_law_right_7 .nil)) [.ge] (.cons false (.var 9) .nil)) (.cons false (.cmp (.bi .min (.cons false c_law_right_8 .nil)) [.ge] (.cons false (.var 9) .nil)) .nil))))
    (.cons (.asg (.nm 11) (.ix (.ix (.call 23 (.cons false (.var 6) (.cons false (.var 8) .nil))) (.neg (.lit (.int 1)))) (.lit (.int 2))))
    (.cons (.ifs (.bop false (.cons false (.cmp (.bi .repr (.cons false (.call 17 (.cons false (.var 6) .nil)) .nil)) [.ne] (.cons false (.bi .repr (.cons false (.tup (.cons false (.var 11) (.cons false (.var 8) (.cons false (.var 10) .nil)))) .nil)) .nil)) (.cons false (.bop true (.cons false (.var 10) (.cons false (.cmp (.var 11) [.ne] (.cons false (.ix (.var 7) (.lit (.int 0))) .nil)) .nil))) .nil)))
    (.cons (.ret (.lit (.bool false)))
    .nil)
    .nil)
    (.cons (.ret (.call 27 (.cons false (.var 0) (.cons false (.var 1) .nil))))
    .nil))))))))))))))))))))), []⟩
def d_law : Def := ⟨4, 1,
    (.cons (.ifs (.bop false (.cons false (.cmp (.bi .repr (.cons false (.call 8 (.cons false (.tup (.cons false (.tup (.cons false (.lit (.int 3)) (.cons false (.lit (.int 2)) .nil))) (.cons false (.tup (.cons false (.lit (.int 1)) (.cons false (.lit (.int 4)) .nil))) .nil))) (.cons false (.tup (.cons false (.lit (.int 1)) (.cons false (.lit (.int 0)) .nil))) .nil))) .nil)) [.ne] (.cons false (.lit (.str "((1, 5), (4, 7))")) .nil)) (.cons false (.cmp (.ix (.call 10 (.cons false (.tup (.cons false (.tup (.cons false (.lit (.int 3)) (.cons false (.lit (.int 2)) .nil))) (.cons false (.tup (.cons false (.lit (.int 1)) (.cons false (.lit (.int 4)) .nil))) .nil))) .nil)) (.lit (.int 0))) [.ne] (.cons false (.lit (.int 7)) .nil)) .nil)))
    (.cons (.ret (.lit (.bool false)))
    .nil)
    .nil)
    (.cons l_law_1
    (.cons (.ret (.lit (.bool true)))
    .nil))), []⟩
def b : List Stmt := PySem.Challenge.pw_drybytheirhour_k31_whole_washed_then_wru.main.body
def r_is_tuple : Rec := ⟨1, "is_tuple", d_is_tuple, ["value", "least", "most"], ["value", "least", "most"], 2, false, 0⟩
def r_is_whole : Rec := ⟨2, "is_whole", d_is_whole, ["value"], ["value"], 2, false, 0⟩
def r_is_integer : Rec := ⟨3, "is_integer", d_is_integer, ["value", "low", "high"], ["value", "low", "high"], 3, false, 0⟩
def r_is_job : Rec := ⟨14, "is_job", d_is_job, ["machines", "value", "one"], ["machines", "value"], 4, false, 0⟩
def r_check_jobs : Rec := ⟨15, "check_jobs", d_check_jobs, ["value", "most", "machines", "job"], ["value", "most", "machines"], 5, false, 0⟩
def r_is_order : Rec := ⟨16, "is_order", d_is_order, ["many", "value", "one"], ["many", "value"], 4, false, 0⟩
def r_check_order : Rec := ⟨17, "check_order", d_check_order, ["many", "value"], ["many", "value"], 5, false, 0⟩
def r_ends_of : Rec := ⟨18, "ends_of", d_ends_of, ["jobs", "order", "at", "here", "found", "ready", "machine", "time"], ["jobs", "order"], 2, false, 0⟩
def r_ends : Rec := ⟨19, "ends", d_ends, ["jobs", "order"], ["jobs", "order"], 6, false, 0⟩
def r_johnson : Rec := ⟨21, "johnson", d_johnson, ["jobs", "first", "last", "at", "time", "wash", "wring"], ["jobs"], 2, false, 0⟩
def r_soonest : Rec := ⟨22, "soonest", d_soonest, ["jobs", "order"], ["jobs"], 6, false, 0⟩
def r_law_pot : Rec := ⟨28, "_law_pot", d_law_pot, ["script", "place", "cell", "own", "small"], ["script", "place"], 2, false, 0⟩
def r_law_places : Rec := ⟨31, "_law_places", d_law_places, ["script", "most"], ["script", "most"], 2, false, 0⟩
def r_waits : Rec := ⟨20, "waits", d_waits, ["jobs", "order", "told", "wash", "wring"], ["jobs", "order"], 7, false, 0⟩
def r_shows_soonest : Rec := ⟨23, "shows_soonest", d_shows_soonest, ["jobs", "value", "time"], ["jobs", "value"], 7, false, 0⟩
def r_all_orders : Rec := ⟨24, "all_orders", d_all_orders, ["many", "found", "lap", "longer", "row", "one"], ["many"], 2, false, 0⟩
def r_soonest_three : Rec := ⟨25, "soonest_three", d_soonest_three, ["jobs", "order"], ["jobs"], 6, false, 0⟩
def r_middle_rule : Rec := ⟨26, "middle_rule", d_middle_rule, ["jobs", "order", "middle", "is_sure", "wash", "wring", "iron"], ["jobs"], 6, false, 0⟩
def r_law_take : Rec := ⟨29, "_law_take", d_law_take, ["pot", "upto", "prime", "blend", "digit"], ["pot", "upto"], 2, false, 0⟩
def r_law_of : Rec := ⟨30, "_law_of", d_law_of, ["pot", "some"], ["pot", "some"], 3, false, 0⟩
def r_law_odd : Rec := ⟨33, "_law_odd", d_law_odd, ["pot", "some"], ["pot"], 4, false, 0⟩
def r_law_bent : Rec := ⟨35, "_law_bent", d_law_bent, ["pot", "value", "at", "some"], ["pot", "value"], 5, false, 12⟩
def r_law_orders : Rec := ⟨36, "_law_orders", d_law_orders, ["many", "found", "lap", "longer", "row", "one"], ["many"], 2, false, 0⟩
def r_law_ends : Rec := ⟨37, "_law_ends", d_law_ends, ["jobs", "order", "at", "clocks", "found", "free", "machine"], ["jobs", "order"], 2, false, 0⟩
def r_law_jobs : Rec := ⟨38, "_law_jobs", d_law_jobs, ["pot", "most", "machines", "wide", "lap", "at"], ["pot", "most", "machines"], 4, false, 0⟩
def r_law_is_int : Rec := ⟨34, "_law_is_int", d_law_is_int, ["value", "low", "high"], ["value", "low", "high"], 2, false, 0⟩
def r_law_due : Rec := ⟨39, "_law_due", d_law_due, ["jobs", "least", "value", "at"], ["jobs", "least", "value"], 3, false, 0⟩
def r_law_are_refused : Rec := ⟨40, "_law_are_refused", d_law_are_refused, ["pot", "jobs", "bad", "odd", "three", "rows", "call", "word", "value", "caught", "kinds", "is_kind", "name"], ["pot", "jobs"], 10, true, 0⟩
def r_law_rule : Rec := ⟨41, "_law_rule", d_law_rule, ["jobs", "two", "first", "last", "wash", "wring", "iron", "at", "time", "one", "other"], ["jobs"], 2, false, 0⟩
def r_law_right : Rec := ⟨42, "_law_right", d_law_right, ["pot", "jobs", "order", "due", "some", "value", "three", "best", "rule", "middle", "is_sure", "time", "many", "orders", "least", "told", "lap", "one", "job"], ["pot"], 17, false, 0⟩
def r_law : Rec := ⟨43, "law", d_law, ["script", "place", "pot", "lap"], ["script"], 18, false, 0⟩
def recs : List Rec := ([r_is_tuple, r_is_whole, r_is_integer, r_is_job, r_check_jobs, r_is_order, r_check_order, r_ends_of, r_ends, r_johnson, r_soonest, r_law_pot, r_law_places, r_waits, r_shows_soonest, r_all_orders, r_soonest_three, r_middle_rule, r_law_take, r_law_of] : List (Rec)) ++ ([r_law_odd, r_law_bent, r_law_orders, r_law_ends, r_law_jobs, r_law_is_int, r_law_due, r_law_are_refused, r_law_rule, r_law_right] : List (Rec))
def fnsL : List Str := (["is_tuple", "is_whole", "is_integer", "is_job", "check_jobs", "is_order", "check_order", "ends_of", "ends", "johnson", "soonest", "_law_pot", "_law_places", "waits", "shows_soonest", "all_orders", "soonest_three", "middle_rule", "_law_take", "_law_of"] : List (Str)) ++ (["_law_odd", "_law_bent", "_law_orders", "_law_ends", "_law_jobs", "_law_is_int", "_law_due", "_law_are_refused", "_law_rule", "_law_right"] : List (Str))
def clL : List Str := (["WashError", "BadJobs", "BadOrder"] : List (Str))
def GL : List (Str × Gv) := ([("BadJobs", .cls 1), ("BadOrder", .cls 2), ("MOST_JOBS", .int (20)), ("MOST_TIME", .int (1000)), ("MOST_TRIED", .int (6)), ("PAIR", .int (2)), ("TRIPLE", .int (3)), ("_law_are_refused", .fn 27), ("_law_bent", .fn 21), ("_law_due", .fn 26), ("_law_ends", .fn 23), ("_law_is_int", .fn 25), ("_law_jobs", .fn 24), ("_law_odd", .fn 20), ("_law_of", .fn 19), ("_law_orders", .fn 22), ("_law_places", .fn 12), ("_law_pot", .fn 11), ("_law_right", .fn 29), ("_law_rule", .fn 28)] : List (Str × Gv)) ++ ([("_law_take", .fn 18), ("abs", .free), ("all", .free), ("all_orders", .fn 15), ("bool", .free), ("check_jobs", .fn 4), ("check_order", .fn 6), ("ends", .fn 8), ("ends_of", .fn 7), ("enumerate", .free), ("int", .free), ("is_integer", .fn 2), ("is_job", .fn 3), ("is_order", .fn 5), ("is_tuple", .fn 0), ("is_whole", .fn 1), ("isinstance", .free), ("johnson", .fn 9), ("len", .free), ("list", .free)] : List (Str × Gv)) ++ ([("max", .free), ("middle_rule", .fn 17), ("min", .free), ("range", .free), ("repr", .free), ("set", .free), ("shows_soonest", .fn 14), ("soonest", .fn 10), ("soonest_three", .fn 16), ("sorted", .free), ("str", .free), ("sum", .free), ("tuple", .free), ("waits", .fn 13)] : List (Str × Gv))
def tfL : List He.Defn := ([("_law_are_refused", none)] : List (He.Defn))
def rzL : List Nat := [0, 1, 2]
theorem k_is_tuple : RecOk b GL rzL 3 1 tfL [] r_is_tuple :=
  ⟨fun _ _ _ _ _ _ us hl => match us, hl with | [_, _, _], _ => rfl, by decide +kernel, by kernel_rfl, rfl, rfl, by decide, by decide, by decide⟩
theorem k_is_whole : RecOk b GL rzL 3 1 tfL [3] r_is_whole :=
  ⟨fun _ _ _ _ _ _ us hl => match us, hl with | [_], _ => rfl, by decide +kernel, by kernel_rfl, rfl, rfl, by decide, by decide, by decide⟩
theorem k_is_integer : RecOk b GL rzL 3 1 tfL [3, 3] r_is_integer :=
  ⟨fun _ _ _ _ _ _ us hl => match us, hl with | [_, _, _], _ => rfl, by decide +kernel, by kernel_rfl, rfl, rfl, by decide, by decide, by decide⟩
theorem k_is_job : RecOk b GL rzL 3 1 tfL [3, 3, 4] r_is_job :=
  ⟨fun _ _ _ _ _ _ us hl => match us, hl with | [_, _], _ => rfl, by decide +kernel, by kernel_rfl, rfl, rfl, by decide, by decide, by decide⟩
theorem k_check_jobs : RecOk b GL rzL 3 1 tfL [3, 3, 4, 5] r_check_jobs :=
  ⟨fun _ _ _ _ _ _ us hl => match us, hl with | [_, _, _], _ => rfl, by decide +kernel, by kernel_rfl, rfl, rfl, by decide, by decide, by decide⟩
theorem k_is_order : RecOk b GL rzL 3 1 tfL [3, 3, 4, 5, 6] r_is_order :=
  ⟨fun _ _ _ _ _ _ us hl => match us, hl with | [_, _], _ => rfl, by decide +kernel, by kernel_rfl, rfl, rfl, by decide, by decide, by decide⟩
theorem k_check_order : RecOk b GL rzL 3 1 tfL [3, 3, 4, 5, 6, 5] r_check_order :=
  ⟨fun _ _ _ _ _ _ us hl => match us, hl with | [_, _], _ => rfl, by decide +kernel, by kernel_rfl, rfl, rfl, by decide, by decide, by decide⟩
theorem k_ends_of : RecOk b GL rzL 3 1 tfL [3, 3, 4, 5, 6, 5, 6] r_ends_of :=
  ⟨fun _ _ _ _ _ _ us hl => match us, hl with | [_, _], _ => rfl, by decide +kernel, by kernel_rfl, rfl, rfl, by decide, by decide, by decide⟩
theorem k_ends : RecOk b GL rzL 3 1 tfL [3, 3, 4, 5, 6, 5, 6, 3] r_ends :=
  ⟨fun _ _ _ _ _ _ us hl => match us, hl with | [_, _], _ => rfl, by decide +kernel, by kernel_rfl, rfl, rfl, by decide, by decide, by decide⟩
theorem k_johnson : RecOk b GL rzL 3 1 tfL [3, 3, 4, 5, 6, 5, 6, 3, 7] r_johnson :=
  ⟨fun _ _ _ _ _ _ us hl => match us, hl with | [_], _ => rfl, by decide +kernel, by kernel_rfl, rfl, rfl, by decide, by decide, by decide⟩
theorem k_soonest : RecOk b GL rzL 3 1 tfL [3, 3, 4, 5, 6, 5, 6, 3, 7, 3] r_soonest :=
  ⟨fun _ _ _ _ _ _ us hl => match us, hl with | [_], _ => rfl, by decide +kernel, by kernel_rfl, rfl, rfl, by decide, by decide, by decide⟩
theorem k_law_pot : RecOk b GL rzL 3 1 tfL [3, 3, 4, 5, 6, 5, 6, 3, 7, 3, 7] r_law_pot :=
  ⟨fun _ _ _ _ _ _ us hl => match us, hl with | [_, _], _ => rfl, by decide +kernel, by kernel_rfl, rfl, rfl, by decide, by decide, by decide⟩
theorem k_law_places : RecOk b GL rzL 3 1 tfL [3, 3, 4, 5, 6, 5, 6, 3, 7, 3, 7, 3] r_law_places :=
  ⟨fun _ _ _ _ _ _ us hl => match us, hl with | [_, _], _ => rfl, by decide +kernel, by kernel_rfl, rfl, rfl, by decide, by decide, by decide⟩
theorem k_waits : RecOk b GL rzL 3 1 tfL [3, 3, 4, 5, 6, 5, 6, 3, 7, 3, 7, 3, 3] r_waits :=
  ⟨fun _ _ _ _ _ _ us hl => match us, hl with | [_, _], _ => rfl, by decide +kernel, by kernel_rfl, rfl, rfl, by decide, by decide, by decide⟩
theorem k_shows_soonest : RecOk b GL rzL 3 1 tfL [3, 3, 4, 5, 6, 5, 6, 3, 7, 3, 7, 3, 3, 8] r_shows_soonest :=
  ⟨fun _ _ _ _ _ _ us hl => match us, hl with | [_, _], _ => rfl, by decide +kernel, by kernel_rfl, rfl, rfl, by decide, by decide, by decide⟩
theorem k_all_orders : RecOk b GL rzL 3 1 tfL [3, 3, 4, 5, 6, 5, 6, 3, 7, 3, 7, 3, 3, 8, 8] r_all_orders :=
  ⟨fun _ _ _ _ _ _ us hl => match us, hl with | [_], _ => rfl, by decide +kernel, by kernel_rfl, rfl, rfl, by decide, by decide, by decide⟩
theorem k_soonest_three : RecOk b GL rzL 3 1 tfL [3, 3, 4, 5, 6, 5, 6, 3, 7, 3, 7, 3, 3, 8, 8, 3] r_soonest_three :=
  ⟨fun _ _ _ _ _ _ us hl => match us, hl with | [_], _ => rfl, by decide +kernel, by kernel_rfl, rfl, rfl, by decide, by decide, by decide⟩
theorem k_middle_rule : RecOk b GL rzL 3 1 tfL [3, 3, 4, 5, 6, 5, 6, 3, 7, 3, 7, 3, 3, 8, 8, 3, 7] r_middle_rule :=
  ⟨fun _ _ _ _ _ _ us hl => match us, hl with | [_], _ => rfl, by decide +kernel, by kernel_rfl, rfl, rfl, by decide, by decide, by decide⟩
theorem k_law_take : RecOk b GL rzL 3 1 tfL [3, 3, 4, 5, 6, 5, 6, 3, 7, 3, 7, 3, 3, 8, 8, 3, 7, 7] r_law_take :=
  ⟨fun _ _ _ _ _ _ us hl => match us, hl with | [_, _], _ => rfl, by decide +kernel, by kernel_rfl, rfl, rfl, by decide, by decide, by decide⟩
theorem k_law_of : RecOk b GL rzL 3 1 tfL [3, 3, 4, 5, 6, 5, 6, 3, 7, 3, 7, 3, 3, 8, 8, 3, 7, 7, 3] r_law_of :=
  ⟨fun _ _ _ _ _ _ us hl => match us, hl with | [_, _], _ => rfl, by decide +kernel, by kernel_rfl, rfl, rfl, by decide, by decide, by decide⟩
theorem k_law_odd : RecOk b GL rzL 3 1 tfL [3, 3, 4, 5, 6, 5, 6, 3, 7, 3, 7, 3, 3, 8, 8, 3, 7, 7, 3, 4] r_law_odd :=
  ⟨fun _ _ _ _ _ _ us hl => match us, hl with | [_], _ => rfl, by decide +kernel, by kernel_rfl, rfl, rfl, by decide, by decide, by decide⟩
theorem k_law_bent : RecOk b GL rzL 3 1 tfL [3, 3, 4, 5, 6, 5, 6, 3, 7, 3, 7, 3, 3, 8, 8, 3, 7, 7, 3, 4, 5] r_law_bent :=
  ⟨fun _ _ _ _ _ _ us hl => match us, hl with | [_, _], _ => rfl, by decide +kernel, by kernel_rfl, rfl, rfl, by decide, by decide, by decide⟩
theorem k_law_orders : RecOk b GL rzL 3 1 tfL [3, 3, 4, 5, 6, 5, 6, 3, 7, 3, 7, 3, 3, 8, 8, 3, 7, 7, 3, 4, 5, 17] r_law_orders :=
  ⟨fun _ _ _ _ _ _ us hl => match us, hl with | [_], _ => rfl, by decide +kernel, by kernel_rfl, rfl, rfl, by decide, by decide, by decide⟩
theorem k_law_ends : RecOk b GL rzL 3 1 tfL [3, 3, 4, 5, 6, 5, 6, 3, 7, 3, 7, 3, 3, 8, 8, 3, 7, 7, 3, 4, 5, 17, 3] r_law_ends :=
  ⟨fun _ _ _ _ _ _ us hl => match us, hl with | [_, _], _ => rfl, by decide +kernel, by kernel_rfl, rfl, rfl, by decide, by decide, by decide⟩
theorem k_law_jobs : RecOk b GL rzL 3 1 tfL [3, 3, 4, 5, 6, 5, 6, 3, 7, 3, 7, 3, 3, 8, 8, 3, 7, 7, 3, 4, 5, 17, 3, 3] r_law_jobs :=
  ⟨fun _ _ _ _ _ _ us hl => match us, hl with | [_, _, _], _ => rfl, by decide +kernel, by kernel_rfl, rfl, rfl, by decide, by decide, by decide⟩
theorem k_law_is_int : RecOk b GL rzL 3 1 tfL [3, 3, 4, 5, 6, 5, 6, 3, 7, 3, 7, 3, 3, 8, 8, 3, 7, 7, 3, 4, 5, 17, 3, 3, 5] r_law_is_int :=
  ⟨fun _ _ _ _ _ _ us hl => match us, hl with | [_, _, _], _ => rfl, by decide +kernel, by kernel_rfl, rfl, rfl, by decide, by decide, by decide⟩
theorem k_law_due : RecOk b GL rzL 3 1 tfL [3, 3, 4, 5, 6, 5, 6, 3, 7, 3, 7, 3, 3, 8, 8, 3, 7, 7, 3, 4, 5, 17, 3, 3, 5, 3] r_law_due :=
  ⟨fun _ _ _ _ _ _ us hl => match us, hl with | [_, _, _], _ => rfl, by decide +kernel, by kernel_rfl, rfl, rfl, by decide, by decide, by decide⟩
theorem k_law_are_refused : RecOk b GL rzL 3 1 tfL [3, 3, 4, 5, 6, 5, 6, 3, 7, 3, 7, 3, 3, 8, 8, 3, 7, 7, 3, 4, 5, 17, 3, 3, 5, 3, 4] r_law_are_refused :=
  ⟨fun _ _ _ _ _ _ us hl => match us, hl with | [_, _], _ => rfl, by decide +kernel, by kernel_rfl, rfl, rfl, by decide, by decide, by decide⟩
theorem k_law_rule : RecOk b GL rzL 3 1 tfL [3, 3, 4, 5, 6, 5, 6, 3, 7, 3, 7, 3, 3, 8, 8, 3, 7, 7, 3, 4, 5, 17, 3, 3, 5, 3, 4, 11] r_law_rule :=
  ⟨fun _ _ _ _ _ _ us hl => match us, hl with | [_], _ => rfl, by decide +kernel, by kernel_rfl, rfl, rfl, by decide, by decide, by decide⟩
theorem k_law_right : RecOk b GL rzL 3 1 tfL [3, 3, 4, 5, 6, 5, 6, 3, 7, 3, 7, 3, 3, 8, 8, 3, 7, 7, 3, 4, 5, 17, 3, 3, 5, 3, 4, 11, 3] r_law_right :=
  ⟨fun _ _ _ _ _ _ us hl => match us, hl with | [_], _ => rfl, by decide +kernel, by kernel_rfl, rfl, rfl, by decide, by decide, by decide⟩
theorem k_law : RecOk b GL rzL 3 1 tfL [3, 3, 4, 5, 6, 5, 6, 3, 7, 3, 7, 3, 3, 8, 8, 3, 7, 7, 3, 4, 5, 17, 3, 3, 5, 3, 4, 11, 3, 18] r_law :=
  ⟨fun _ _ _ _ _ _ us hl => match us, hl with | [_], _ => rfl, by decide +kernel, by kernel_rfl, rfl, rfl, by decide, by decide, by decide⟩
theorem recs_ok : RecsOk b GL rzL 3 1 tfL [] recs := .cons k_is_tuple (.cons k_is_whole (.cons k_is_integer (.cons k_is_job (.cons k_check_jobs (.cons k_is_order (.cons k_check_order (.cons k_ends_of (.cons k_ends (.cons k_johnson (.cons k_soonest (.cons k_law_pot (.cons k_law_places (.cons k_waits (.cons k_shows_soonest (.cons k_all_orders (.cons k_soonest_three (.cons k_middle_rule (.cons k_law_take (.cons k_law_of (.cons k_law_odd (.cons k_law_bent (.cons k_law_orders (.cons k_law_ends (.cons k_law_jobs (.cons k_law_is_int (.cons k_law_due (.cons k_law_are_refused (.cons k_law_rule (.cons k_law_right (.nil))))))))))))))))))))))))))))))
def hQ : List Pos := posH (defBody (topAt b 32))
def iQ : List Pos := posI (defBody (inClass (topAt b 5) 0))
def LL : LD := ⟨b, GL, rzL, clL, recs, r_law, tfL, fnsL, 32, atP hQ, 5, atP iQ⟩
theorem LLok : LOk LL where
  recs := recs_ok
  law := k_law
  law0 := rfl
  fns := rfl
  lawN := rfl
  lawP := rfl
  g := by decide +kernel
  cl := by decide +kernel
  hb := by kernel_rfl
  hs := by kernel_rfl
  hl := by kernel_rfl
  ha := fun _ _ _ _ _ _ us hl => match us, hl with | [_], _ => rfl
  ib := by kernel_rfl
  is := by kernel_rfl
  ip := fun env => by kernel_rfl
  ia := fun _ _ _ _ _ _ us hl => match us, hl with | [_, _], _ => rfl
  room := ⟨rfl, by decide, by decide⟩
def F_is_tuple : List Fn := ([] : List (Fn))
def f_is_tuple : Fn := runF F_is_tuple d_is_tuple
def F_is_whole : List Fn := ([f_is_tuple] : List (Fn))
def f_is_whole : Fn := runF F_is_whole d_is_whole
def F_is_integer : List Fn := ([f_is_tuple, f_is_whole] : List (Fn))
def f_is_integer : Fn := runF F_is_integer d_is_integer
@[simp] theorem C_is_integer_1 (a : Ls) : callV F_is_integer 1 a = callF f_is_whole a := (rfl)
@[simp] theorem I_is_integer_1 : F_is_integer[1]? = some f_is_whole := (rfl)
def F_is_job : List Fn := ([f_is_tuple, f_is_whole, f_is_integer] : List (Fn))
def f_is_job : Fn := runF F_is_job d_is_job
@[simp] theorem C_is_job_0 (a : Ls) : callV F_is_job 0 a = callF f_is_tuple a := (rfl)
@[simp] theorem I_is_job_0 : F_is_job[0]? = some f_is_tuple := (rfl)
@[simp] theorem C_is_job_2 (a : Ls) : callV F_is_job 2 a = callF f_is_integer a := (rfl)
@[simp] theorem I_is_job_2 : F_is_job[2]? = some f_is_integer := (rfl)
def F_check_jobs : List Fn := ([f_is_tuple, f_is_whole, f_is_integer, f_is_job] : List (Fn))
def f_check_jobs : Fn := runF F_check_jobs d_check_jobs
@[simp] theorem C_check_jobs_0 (a : Ls) : callV F_check_jobs 0 a = callF f_is_tuple a := (rfl)
@[simp] theorem I_check_jobs_0 : F_check_jobs[0]? = some f_is_tuple := (rfl)
@[simp] theorem C_check_jobs_3 (a : Ls) : callV F_check_jobs 3 a = callF f_is_job a := (rfl)
@[simp] theorem I_check_jobs_3 : F_check_jobs[3]? = some f_is_job := (rfl)
def F_is_order : List Fn := ([f_is_tuple, f_is_whole, f_is_integer, f_is_job, f_check_jobs] : List (Fn))
def f_is_order : Fn := runF F_is_order d_is_order
@[simp] theorem C_is_order_0 (a : Ls) : callV F_is_order 0 a = callF f_is_tuple a := (rfl)
@[simp] theorem I_is_order_0 : F_is_order[0]? = some f_is_tuple := (rfl)
@[simp] theorem C_is_order_2 (a : Ls) : callV F_is_order 2 a = callF f_is_integer a := (rfl)
@[simp] theorem I_is_order_2 : F_is_order[2]? = some f_is_integer := (rfl)
def F_check_order : List Fn := ([f_is_tuple, f_is_whole, f_is_integer, f_is_job, f_check_jobs, f_is_order] : List (Fn))
def f_check_order : Fn := runF F_check_order d_check_order
@[simp] theorem C_check_order_5 (a : Ls) : callV F_check_order 5 a = callF f_is_order a := (rfl)
@[simp] theorem I_check_order_5 : F_check_order[5]? = some f_is_order := (rfl)
def F_ends_of : List Fn := ([f_is_tuple, f_is_whole, f_is_integer, f_is_job, f_check_jobs, f_is_order, f_check_order] : List (Fn))
def f_ends_of : Fn := runF F_ends_of d_ends_of
def F_ends : List Fn := ([f_is_tuple, f_is_whole, f_is_integer, f_is_job, f_check_jobs, f_is_order, f_check_order, f_ends_of] : List (Fn))
def f_ends : Fn := runF F_ends d_ends
@[simp] theorem C_ends_4 (a : Ls) : callV F_ends 4 a = callF f_check_jobs a := (rfl)
@[simp] theorem I_ends_4 : F_ends[4]? = some f_check_jobs := (rfl)
@[simp] theorem C_ends_6 (a : Ls) : callV F_ends 6 a = callF f_check_order a := (rfl)
@[simp] theorem I_ends_6 : F_ends[6]? = some f_check_order := (rfl)
@[simp] theorem C_ends_7 (a : Ls) : callV F_ends 7 a = callF f_ends_of a := (rfl)
@[simp] theorem I_ends_7 : F_ends[7]? = some f_ends_of := (rfl)
def F_johnson : List Fn := ([f_is_tuple, f_is_whole, f_is_integer, f_is_job, f_check_jobs, f_is_order, f_check_order, f_ends_of, f_ends] : List (Fn))
def f_johnson : Fn := runF F_johnson d_johnson
def F_soonest : List Fn := ([f_is_tuple, f_is_whole, f_is_integer, f_is_job, f_check_jobs, f_is_order, f_check_order, f_ends_of, f_ends, f_johnson] : List (Fn))
def f_soonest : Fn := runF F_soonest d_soonest
@[simp] theorem C_soonest_4 (a : Ls) : callV F_soonest 4 a = callF f_check_jobs a := (rfl)
@[simp] theorem I_soonest_4 : F_soonest[4]? = some f_check_jobs := (rfl)
@[simp] theorem C_soonest_7 (a : Ls) : callV F_soonest 7 a = callF f_ends_of a := (rfl)
@[simp] theorem I_soonest_7 : F_soonest[7]? = some f_ends_of := (rfl)
@[simp] theorem C_soonest_9 (a : Ls) : callV F_soonest 9 a = callF f_johnson a := (rfl)
@[simp] theorem I_soonest_9 : F_soonest[9]? = some f_johnson := (rfl)
def F_law_pot : List Fn := ([f_is_tuple, f_is_whole, f_is_integer, f_is_job, f_check_jobs, f_is_order, f_check_order, f_ends_of, f_ends, f_johnson, f_soonest] : List (Fn))
def f_law_pot : Fn := runF F_law_pot d_law_pot
def F_law_places : List Fn := ([f_is_tuple, f_is_whole, f_is_integer, f_is_job, f_check_jobs, f_is_order, f_check_order, f_ends_of, f_ends, f_johnson, f_soonest, f_law_pot] : List (Fn))
def f_law_places : Fn := runF F_law_places d_law_places
def F_waits : List Fn := ([f_is_tuple, f_is_whole, f_is_integer, f_is_job, f_check_jobs, f_is_order, f_check_order, f_ends_of, f_ends, f_johnson, f_soonest, f_law_pot, f_law_places] : List (Fn))
def f_waits : Fn := runF F_waits d_waits
@[simp] theorem C_waits_8 (a : Ls) : callV F_waits 8 a = callF f_ends a := (rfl)
@[simp] theorem I_waits_8 : F_waits[8]? = some f_ends := (rfl)
def F_shows_soonest : List Fn := ([f_is_tuple, f_is_whole, f_is_integer, f_is_job, f_check_jobs, f_is_order, f_check_order, f_ends_of, f_ends, f_johnson, f_soonest, f_law_pot, f_law_places, f_waits] : List (Fn))
def f_shows_soonest : Fn := runF F_shows_soonest d_shows_soonest
@[simp] theorem C_shows_soonest_0 (a : Ls) : callV F_shows_soonest 0 a = callF f_is_tuple a := (rfl)
@[simp] theorem I_shows_soonest_0 : F_shows_soonest[0]? = some f_is_tuple := (rfl)
@[simp] theorem C_shows_soonest_2 (a : Ls) : callV F_shows_soonest 2 a = callF f_is_integer a := (rfl)
@[simp] theorem I_shows_soonest_2 : F_shows_soonest[2]? = some f_is_integer := (rfl)
@[simp] theorem C_shows_soonest_5 (a : Ls) : callV F_shows_soonest 5 a = callF f_is_order a := (rfl)
@[simp] theorem I_shows_soonest_5 : F_shows_soonest[5]? = some f_is_order := (rfl)
@[simp] theorem C_shows_soonest_7 (a : Ls) : callV F_shows_soonest 7 a = callF f_ends_of a := (rfl)
@[simp] theorem I_shows_soonest_7 : F_shows_soonest[7]? = some f_ends_of := (rfl)
@[simp] theorem C_shows_soonest_10 (a : Ls) : callV F_shows_soonest 10 a = callF f_soonest a := (rfl)
@[simp] theorem I_shows_soonest_10 : F_shows_soonest[10]? = some f_soonest := (rfl)
def F_all_orders : List Fn := ([f_is_tuple, f_is_whole, f_is_integer, f_is_job, f_check_jobs, f_is_order, f_check_order, f_ends_of, f_ends, f_johnson, f_soonest, f_law_pot, f_law_places, f_waits, f_shows_soonest] : List (Fn))
def f_all_orders : Fn := runF F_all_orders d_all_orders
def F_soonest_three : List Fn := ([f_is_tuple, f_is_whole, f_is_integer, f_is_job, f_check_jobs, f_is_order, f_check_order, f_ends_of, f_ends, f_johnson, f_soonest, f_law_pot, f_law_places, f_waits, f_shows_soonest, f_all_orders] : List (Fn))
def f_soonest_three : Fn := runF F_soonest_three d_soonest_three
@[simp] theorem C_soonest_three_4 (a : Ls) : callV F_soonest_three 4 a = callF f_check_jobs a := (rfl)
@[simp] theorem I_soonest_three_4 : F_soonest_three[4]? = some f_check_jobs := (rfl)
@[simp] theorem C_soonest_three_7 (a : Ls) : callV F_soonest_three 7 a = callF f_ends_of a := (rfl)
@[simp] theorem I_soonest_three_7 : F_soonest_three[7]? = some f_ends_of := (rfl)
@[simp] theorem C_soonest_three_15 (a : Ls) : callV F_soonest_three 15 a = callF f_all_orders a := (rfl)
@[simp] theorem I_soonest_three_15 : F_soonest_three[15]? = some f_all_orders := (rfl)
def F_middle_rule : List Fn := ([f_is_tuple, f_is_whole, f_is_integer, f_is_job, f_check_jobs, f_is_order, f_check_order, f_ends_of, f_ends, f_johnson, f_soonest, f_law_pot, f_law_places, f_waits, f_shows_soonest, f_all_orders, f_soonest_three] : List (Fn))
def f_middle_rule : Fn := runF F_middle_rule d_middle_rule
@[simp] theorem C_middle_rule_4 (a : Ls) : callV F_middle_rule 4 a = callF f_check_jobs a := (rfl)
@[simp] theorem I_middle_rule_4 : F_middle_rule[4]? = some f_check_jobs := (rfl)
@[simp] theorem C_middle_rule_7 (a : Ls) : callV F_middle_rule 7 a = callF f_ends_of a := (rfl)
@[simp] theorem I_middle_rule_7 : F_middle_rule[7]? = some f_ends_of := (rfl)
@[simp] theorem C_middle_rule_9 (a : Ls) : callV F_middle_rule 9 a = callF f_johnson a := (rfl)
@[simp] theorem I_middle_rule_9 : F_middle_rule[9]? = some f_johnson := (rfl)
def F_law_take : List Fn := ([f_is_tuple, f_is_whole, f_is_integer, f_is_job, f_check_jobs, f_is_order, f_check_order, f_ends_of, f_ends, f_johnson, f_soonest, f_law_pot, f_law_places, f_waits, f_shows_soonest, f_all_orders, f_soonest_three, f_middle_rule] : List (Fn))
def f_law_take : Fn := runF F_law_take d_law_take
def F_law_of : List Fn := ([f_is_tuple, f_is_whole, f_is_integer, f_is_job, f_check_jobs, f_is_order, f_check_order, f_ends_of, f_ends, f_johnson, f_soonest, f_law_pot, f_law_places, f_waits, f_shows_soonest, f_all_orders, f_soonest_three, f_middle_rule, f_law_take] : List (Fn))
def f_law_of : Fn := runF F_law_of d_law_of
@[simp] theorem C_law_of_18 (a : Ls) : callV F_law_of 18 a = callF f_law_take a := (rfl)
@[simp] theorem I_law_of_18 : F_law_of[18]? = some f_law_take := (rfl)
def F_law_odd : List Fn := ([f_is_tuple, f_is_whole, f_is_integer, f_is_job, f_check_jobs, f_is_order, f_check_order, f_ends_of, f_ends, f_johnson, f_soonest, f_law_pot, f_law_places, f_waits, f_shows_soonest, f_all_orders, f_soonest_three, f_middle_rule, f_law_take, f_law_of] : List (Fn))
def f_law_odd : Fn := runF F_law_odd d_law_odd
@[simp] theorem C_law_odd_19 (a : Ls) : callV F_law_odd 19 a = callF f_law_of a := (rfl)
@[simp] theorem I_law_odd_19 : F_law_odd[19]? = some f_law_of := (rfl)
def F_law_bent : List Fn := ([f_is_tuple, f_is_whole, f_is_integer, f_is_job, f_check_jobs, f_is_order, f_check_order, f_ends_of, f_ends, f_johnson, f_soonest, f_law_pot, f_law_places, f_waits, f_shows_soonest, f_all_orders, f_soonest_three, f_middle_rule, f_law_take, f_law_of] : List (Fn)) ++ ([f_law_odd] : List (Fn))
def f_law_bent : Fn := recF F_law_bent d_law_bent 12
@[simp] theorem D_law_bent_18 (g : Fn) (a : Ls) : callV (F_law_bent ++ [g]) 18 a = callF f_law_take a := (rfl)
@[simp] theorem C_law_bent_18 (a : Ls) : callV F_law_bent 18 a = callF f_law_take a := (rfl)
@[simp] theorem I_law_bent_18 : F_law_bent[18]? = some f_law_take := (rfl)
@[simp] theorem D_law_bent_19 (g : Fn) (a : Ls) : callV (F_law_bent ++ [g]) 19 a = callF f_law_of a := (rfl)
@[simp] theorem C_law_bent_19 (a : Ls) : callV F_law_bent 19 a = callF f_law_of a := (rfl)
@[simp] theorem I_law_bent_19 : F_law_bent[19]? = some f_law_of := (rfl)
@[simp] theorem D_law_bent_20 (g : Fn) (a : Ls) : callV (F_law_bent ++ [g]) 20 a = callF f_law_odd a := (rfl)
@[simp] theorem C_law_bent_20 (a : Ls) : callV F_law_bent 20 a = callF f_law_odd a := (rfl)
@[simp] theorem I_law_bent_20 : F_law_bent[20]? = some f_law_odd := (rfl)
@[simp] theorem D_law_bent (g : Fn) (a : Ls) : callV (F_law_bent ++ [g]) 21 a = callF g a := (rfl)
def F_law_orders : List Fn := ([f_is_tuple, f_is_whole, f_is_integer, f_is_job, f_check_jobs, f_is_order, f_check_order, f_ends_of, f_ends, f_johnson, f_soonest, f_law_pot, f_law_places, f_waits, f_shows_soonest, f_all_orders, f_soonest_three, f_middle_rule, f_law_take, f_law_of] : List (Fn)) ++ ([f_law_odd, f_law_bent] : List (Fn))
def f_law_orders : Fn := runF F_law_orders d_law_orders
def F_law_ends : List Fn := ([f_is_tuple, f_is_whole, f_is_integer, f_is_job, f_check_jobs, f_is_order, f_check_order, f_ends_of, f_ends, f_johnson, f_soonest, f_law_pot, f_law_places, f_waits, f_shows_soonest, f_all_orders, f_soonest_three, f_middle_rule, f_law_take, f_law_of] : List (Fn)) ++ ([f_law_odd, f_law_bent, f_law_orders] : List (Fn))
def f_law_ends : Fn := runF F_law_ends d_law_ends
def F_law_jobs : List Fn := ([f_is_tuple, f_is_whole, f_is_integer, f_is_job, f_check_jobs, f_is_order, f_check_order, f_ends_of, f_ends, f_johnson, f_soonest, f_law_pot, f_law_places, f_waits, f_shows_soonest, f_all_orders, f_soonest_three, f_middle_rule, f_law_take, f_law_of] : List (Fn)) ++ ([f_law_odd, f_law_bent, f_law_orders, f_law_ends] : List (Fn))
def f_law_jobs : Fn := runF F_law_jobs d_law_jobs
@[simp] theorem C_law_jobs_18 (a : Ls) : callV F_law_jobs 18 a = callF f_law_take a := (rfl)
@[simp] theorem I_law_jobs_18 : F_law_jobs[18]? = some f_law_take := (rfl)
@[simp] theorem C_law_jobs_19 (a : Ls) : callV F_law_jobs 19 a = callF f_law_of a := (rfl)
@[simp] theorem I_law_jobs_19 : F_law_jobs[19]? = some f_law_of := (rfl)
def F_law_is_int : List Fn := ([f_is_tuple, f_is_whole, f_is_integer, f_is_job, f_check_jobs, f_is_order, f_check_order, f_ends_of, f_ends, f_johnson, f_soonest, f_law_pot, f_law_places, f_waits, f_shows_soonest, f_all_orders, f_soonest_three, f_middle_rule, f_law_take, f_law_of] : List (Fn)) ++ ([f_law_odd, f_law_bent, f_law_orders, f_law_ends, f_law_jobs] : List (Fn))
def f_law_is_int : Fn := runF F_law_is_int d_law_is_int
def F_law_due : List Fn := ([f_is_tuple, f_is_whole, f_is_integer, f_is_job, f_check_jobs, f_is_order, f_check_order, f_ends_of, f_ends, f_johnson, f_soonest, f_law_pot, f_law_places, f_waits, f_shows_soonest, f_all_orders, f_soonest_three, f_middle_rule, f_law_take, f_law_of] : List (Fn)) ++ ([f_law_odd, f_law_bent, f_law_orders, f_law_ends, f_law_jobs, f_law_is_int] : List (Fn))
def f_law_due : Fn := runF F_law_due d_law_due
@[simp] theorem C_law_due_23 (a : Ls) : callV F_law_due 23 a = callF f_law_ends a := (rfl)
@[simp] theorem I_law_due_23 : F_law_due[23]? = some f_law_ends := (rfl)
@[simp] theorem C_law_due_25 (a : Ls) : callV F_law_due 25 a = callF f_law_is_int a := (rfl)
@[simp] theorem I_law_due_25 : F_law_due[25]? = some f_law_is_int := (rfl)
def F_law_are_refused : List Fn := ([f_is_tuple, f_is_whole, f_is_integer, f_is_job, f_check_jobs, f_is_order, f_check_order, f_ends_of, f_ends, f_johnson, f_soonest, f_law_pot, f_law_places, f_waits, f_shows_soonest, f_all_orders, f_soonest_three, f_middle_rule, f_law_take, f_law_of] : List (Fn)) ++ ([f_law_odd, f_law_bent, f_law_orders, f_law_ends, f_law_jobs, f_law_is_int, f_law_due] : List (Fn))
def f_law_are_refused : Fn := runF F_law_are_refused d_law_are_refused
@[simp] theorem C_law_are_refused_8 (a : Ls) : callV F_law_are_refused 8 a = callF f_ends a := (rfl)
@[simp] theorem I_law_are_refused_8 : F_law_are_refused[8]? = some f_ends := (rfl)
@[simp] theorem C_law_are_refused_10 (a : Ls) : callV F_law_are_refused 10 a = callF f_soonest a := (rfl)
@[simp] theorem I_law_are_refused_10 : F_law_are_refused[10]? = some f_soonest := (rfl)
@[simp] theorem C_law_are_refused_13 (a : Ls) : callV F_law_are_refused 13 a = callF f_waits a := (rfl)
@[simp] theorem I_law_are_refused_13 : F_law_are_refused[13]? = some f_waits := (rfl)
@[simp] theorem C_law_are_refused_14 (a : Ls) : callV F_law_are_refused 14 a = callF f_shows_soonest a := (rfl)
@[simp] theorem I_law_are_refused_14 : F_law_are_refused[14]? = some f_shows_soonest := (rfl)
@[simp] theorem C_law_are_refused_16 (a : Ls) : callV F_law_are_refused 16 a = callF f_soonest_three a := (rfl)
@[simp] theorem I_law_are_refused_16 : F_law_are_refused[16]? = some f_soonest_three := (rfl)
@[simp] theorem C_law_are_refused_17 (a : Ls) : callV F_law_are_refused 17 a = callF f_middle_rule a := (rfl)
@[simp] theorem I_law_are_refused_17 : F_law_are_refused[17]? = some f_middle_rule := (rfl)
@[simp] theorem C_law_are_refused_19 (a : Ls) : callV F_law_are_refused 19 a = callF f_law_of a := (rfl)
@[simp] theorem I_law_are_refused_19 : F_law_are_refused[19]? = some f_law_of := (rfl)
def F_law_rule : List Fn := ([f_is_tuple, f_is_whole, f_is_integer, f_is_job, f_check_jobs, f_is_order, f_check_order, f_ends_of, f_ends, f_johnson, f_soonest, f_law_pot, f_law_places, f_waits, f_shows_soonest, f_all_orders, f_soonest_three, f_middle_rule, f_law_take, f_law_of] : List (Fn)) ++ ([f_law_odd, f_law_bent, f_law_orders, f_law_ends, f_law_jobs, f_law_is_int, f_law_due, f_law_are_refused] : List (Fn))
def f_law_rule : Fn := runF F_law_rule d_law_rule
def F_law_right : List Fn := ([f_is_tuple, f_is_whole, f_is_integer, f_is_job, f_check_jobs, f_is_order, f_check_order, f_ends_of, f_ends, f_johnson, f_soonest, f_law_pot, f_law_places, f_waits, f_shows_soonest, f_all_orders, f_soonest_three, f_middle_rule, f_law_take, f_law_of] : List (Fn)) ++ ([f_law_odd, f_law_bent, f_law_orders, f_law_ends, f_law_jobs, f_law_is_int, f_law_due, f_law_are_refused, f_law_rule] : List (Fn))
def f_law_right : Fn := runF F_law_right d_law_right
@[simp] theorem C_law_right_8 (a : Ls) : callV F_law_right 8 a = callF f_ends a := (rfl)
@[simp] theorem I_law_right_8 : F_law_right[8]? = some f_ends := (rfl)
@[simp] theorem C_law_right_10 (a : Ls) : callV F_law_right 10 a = callF f_soonest a := (rfl)
@[simp] theorem I_law_right_10 : F_law_right[10]? = some f_soonest := (rfl)
@[simp] theorem C_law_right_13 (a : Ls) : callV F_law_right 13 a = callF f_waits a := (rfl)
@[simp] theorem I_law_right_13 : F_law_right[13]? = some f_waits := (rfl)
@[simp] theorem C_law_right_14 (a : Ls) : callV F_law_right 14 a = callF f_shows_soonest a := (rfl)
@[simp] theorem I_law_right_14 : F_law_right[14]? = some f_shows_soonest := (rfl)
@[simp] theorem C_law_right_16 (a : Ls) : callV F_law_right 16 a = callF f_soonest_three a := (rfl)
@[simp] theorem I_law_right_16 : F_law_right[16]? = some f_soonest_three := (rfl)
@[simp] theorem C_law_right_17 (a : Ls) : callV F_law_right 17 a = callF f_middle_rule a := (rfl)
@[simp] theorem I_law_right_17 : F_law_right[17]? = some f_middle_rule := (rfl)
@[simp] theorem C_law_right_19 (a : Ls) : callV F_law_right 19 a = callF f_law_of a := (rfl)
@[simp] theorem I_law_right_19 : F_law_right[19]? = some f_law_of := (rfl)
@[simp] theorem C_law_right_20 (a : Ls) : callV F_law_right 20 a = callF f_law_odd a := (rfl)
@[simp] theorem I_law_right_20 : F_law_right[20]? = some f_law_odd := (rfl)
@[simp] theorem C_law_right_21 (a : Ls) : callV F_law_right 21 a = callF f_law_bent a := (rfl)
@[simp] theorem I_law_right_21 : F_law_right[21]? = some f_law_bent := (rfl)
@[simp] theorem C_law_right_22 (a : Ls) : callV F_law_right 22 a = callF f_law_orders a := (rfl)
@[simp] theorem I_law_right_22 : F_law_right[22]? = some f_law_orders := (rfl)
@[simp] theorem C_law_right_23 (a : Ls) : callV F_law_right 23 a = callF f_law_ends a := (rfl)
@[simp] theorem I_law_right_23 : F_law_right[23]? = some f_law_ends := (rfl)
@[simp] theorem C_law_right_24 (a : Ls) : callV F_law_right 24 a = callF f_law_jobs a := (rfl)
@[simp] theorem I_law_right_24 : F_law_right[24]? = some f_law_jobs := (rfl)
@[simp] theorem C_law_right_26 (a : Ls) : callV F_law_right 26 a = callF f_law_due a := (rfl)
@[simp] theorem I_law_right_26 : F_law_right[26]? = some f_law_due := (rfl)
@[simp] theorem C_law_right_27 (a : Ls) : callV F_law_right 27 a = callF f_law_are_refused a := (rfl)
@[simp] theorem I_law_right_27 : F_law_right[27]? = some f_law_are_refused := (rfl)
@[simp] theorem C_law_right_28 (a : Ls) : callV F_law_right 28 a = callF f_law_rule a := (rfl)
@[simp] theorem I_law_right_28 : F_law_right[28]? = some f_law_rule := (rfl)
def F_law : List Fn := ([f_is_tuple, f_is_whole, f_is_integer, f_is_job, f_check_jobs, f_is_order, f_check_order, f_ends_of, f_ends, f_johnson, f_soonest, f_law_pot, f_law_places, f_waits, f_shows_soonest, f_all_orders, f_soonest_three, f_middle_rule, f_law_take, f_law_of] : List (Fn)) ++ ([f_law_odd, f_law_bent, f_law_orders, f_law_ends, f_law_jobs, f_law_is_int, f_law_due, f_law_are_refused, f_law_rule, f_law_right] : List (Fn))
def f_law : Fn := runF F_law d_law
@[simp] theorem C_law_8 (a : Ls) : callV F_law 8 a = callF f_ends a := (rfl)
@[simp] theorem I_law_8 : F_law[8]? = some f_ends := (rfl)
@[simp] theorem C_law_10 (a : Ls) : callV F_law 10 a = callF f_soonest a := (rfl)
@[simp] theorem I_law_10 : F_law[10]? = some f_soonest := (rfl)
@[simp] theorem C_law_11 (a : Ls) : callV F_law 11 a = callF f_law_pot a := (rfl)
@[simp] theorem I_law_11 : F_law[11]? = some f_law_pot := (rfl)
@[simp] theorem C_law_12 (a : Ls) : callV F_law 12 a = callF f_law_places a := (rfl)
@[simp] theorem I_law_12 : F_law[12]? = some f_law_places := (rfl)
@[simp] theorem C_law_29 (a : Ls) : callV F_law 29 a = callF f_law_right a := (rfl)
@[simp] theorem I_law_29 : F_law[29]? = some f_law_right := (rfl)
theorem fns_eq : fnsOf recs [] = F_law := rfl
def looseL : List Str := (["is_tuple", "is_whole", "is_integer", "WashError", "BadJobs", "BadOrder", "MOST_JOBS", "MOST_TRIED", "MOST_TIME", "PAIR", "TRIPLE", "is_job", "check_jobs", "is_order", "check_order", "ends_of", "ends", "waits", "johnson", "soonest"] : List Str) ++ (["shows_soonest", "all_orders", "soonest_three", "middle_rule", "_law_pot", "_law_take", "_law_of", "_law_places", "_law_heard", "_law_odd", "_law_is_int", "_law_bent", "_law_orders", "_law_ends", "_law_jobs", "_law_due", "_law_are_refused", "_law_rule", "_law_right"] : List Str)
abbrev lawIx : Nat := 43
abbrev RR : PySem.W.OpenRow := PySem.W.OpenLaw.row PySem.Challenge.rw_drybytheirhour_k31_whole_washed_then_wru
def ob (s : PySem.W.SharedT) : He.AlX := He.obsX 5 LL.fa LL.fn [] LL.tf LL.ex (HandSHeadRun.getT s)
theorem ob_eq (s : PySem.W.SharedT) : ob s = LL.hk.obs s.abs := He.obsX_eq (HandSHeadRun.getT_eq s)
theorem run (w : World) : HandSHeadRun.RunEq RR (PySem.W.view RR.prog [lawIx]) LL.hk ob 2000 looseL w := by
  intro os
  kernel_rfl
theorem all_of (h : ∀ ns : List Int, ns.length ≤ 63 → (∀ z ∈ ns, Builtin.Int.intBits z ≤ 1048576) → ∃ M, runF (fnsOf recs []) d_law noClo [.scr ns] [] = some (.ok ⟨.py (.bool true), false, M⟩)) : PySem.Challenge.rw_drybytheirhour_k31_whole_washed_then_wru.Holds := by
  w_on; o_law
  refine HandSHeadRun.head_any (r := RR) (q := PySem.W.view RR.prog [lawIx]) (H := LL.hk) (ob := ob) (M := 2000) (loose := looseL) (d := HandSHeadRun.topDef RR.prog lawIx) (kwd := []) ob_eq
    (by kernel_rfl) (fun s => by kernel_rfl) run (by kernel_rfl) (by kernel_rfl) (by kernel_rfl) (by rfl) (by first | assumption | decide +kernel) (by decide +kernel) ⟨rfl, rfl, rfl, rfl, rfl, by decide +kernel⟩ ?hw ?hc
  case hw => w_witness2
  case hc => exact law_go LLok (l := PySem.Challenge.rw_drybytheirhour_k31_whole_washed_then_wru) rfl (by kernel_rfl) (by kernel_rfl) h
end k31

/-! Two machines in a row: the rule's sequence is never later. -/
namespace k31
/-- when the second machine is done -/
def F2 (x y : Nat) : List (Nat × Nat) → Nat
  | [] => y
  | j :: l => F2 (x + j.1) (max (x + j.1) y + j.2) l
def R (i j : Nat × Nat) : Prop := min i.1 j.2 ≤ min j.1 i.2
theorem F2_mono : ∀ {l : List (Nat × Nat)} {x y y' : Nat}, y ≤ y' → F2 x y l ≤ F2 x y' l
  | [], _, _, _, h => h
  | j :: l, x, y, y', h => by
    unfold F2
    exact F2_mono (by omega)
theorem F2_swap {i j : Nat × Nat} (h : R i j) (x y : Nat) (l : List (Nat × Nat)) : F2 x y (i :: j :: l) ≤ F2 x y (j :: i :: l) := by
  unfold R at h
  simp only [F2]
  rw [show x + j.1 + i.1 = x + i.1 + j.1 by omega]
  exact F2_mono (by omega)
theorem F2_move {j : Nat × Nat} {post : List (Nat × Nat)} : ∀ {pre : List (Nat × Nat)}, (∀ p ∈ pre, R j p) → ∀ x y, F2 x y (j :: (pre ++ post)) ≤ F2 x y (pre ++ j :: post)
  | [], _, _, _ => Nat.le_refl _
  | p :: pre, h, x, y => by
    refine Nat.le_trans (F2_swap (h p List.mem_cons_self) x y _) ?_
    show F2 _ _ (j :: (pre ++ post)) ≤ F2 _ _ (pre ++ j :: post)
    exact F2_move (fun q hq => h q (List.mem_cons_of_mem _ hq)) _ _
theorem F2_best : ∀ {J s : List (Nat × Nat)}, J.Pairwise R → s.Perm J → ∀ x y, F2 x y J ≤ F2 x y s
  | [], s, _, hp, x, y => by rw [hp.eq_nil]; exact Nat.le_refl _
  | j :: J, s, hj, hp, x, y => by
    rw [List.pairwise_cons] at hj
    obtain ⟨pre, post, rfl⟩ := List.append_of_mem (hp.mem_iff.mpr List.mem_cons_self)
    have h2 : (pre ++ post).Perm J := (List.perm_middle.symm.trans hp).cons_inv
    refine Nat.le_trans ?_ (F2_move (fun p hpre => hj.1 p (h2.mem_iff.mp (List.mem_append_left _ hpre))) x y)
    exact F2_best hj.2 h2 _ _
/-! ### three machines -/
structure J3 where
  a : Nat
  m : Nat
  c : Nat
def F3 (x y z : Nat) : List J3 → Nat
  | [] => z
  | j :: l => F3 (x + j.a) (max (x + j.a) y + j.m) (max (max (x + j.a) y + j.m) z + j.c) l
def two (j : J3) : Nat × Nat := (j.a + j.m, j.m + j.c)
def mids : List J3 → Nat
  | [] => 0
  | j :: l => j.m + mids l
theorem F3_A {M : Nat} : ∀ {l : List J3} {x y z S : Nat}, (∀ j ∈ l, M ≤ j.a ∧ j.m ≤ M) → y ≤ x + M → F3 x y z l + S + mids l = F2 (x + S) (z + S) (l.map two)
  | [], _, _, _, _, _, _ => rfl
  | j :: l, x, y, z, S, h, hy => by
    obtain ⟨h1, h2⟩ := h j List.mem_cons_self
    simp only [F3, mids, List.map_cons, F2, two]
    have := F3_A (l := l) (M := M) (x := x + j.a) (y := max (x + j.a) y + j.m) (z := max (max (x + j.a) y + j.m) z + j.c) (S := S + j.m) (fun k hk => h k (List.mem_cons_of_mem _ hk)) (by omega)
    rw [show x + S + (j.a + j.m) = x + j.a + (S + j.m) by omega, show max (x + j.a + (S + j.m)) (z + S) + (j.m + j.c) = max (max (x + j.a) y + j.m) z + j.c + (S + j.m) by omega, ← this]
    omega
theorem F3_B {M : Nat} : ∀ {l : List J3} {x y z S : Nat}, (∀ j ∈ l, M ≤ j.c ∧ j.m ≤ M) → (y + M ≤ z ∨ y ≤ x) → F3 x y z l + S + mids l = F2 (x + S) (z + S) (l.map two)
  | [], _, _, _, _, _, _ => rfl
  | j :: l, x, y, z, S, h, hy => by
    obtain ⟨h1, h2⟩ := h j List.mem_cons_self
    simp only [F3, mids, List.map_cons, F2, two]
    have := F3_B (l := l) (M := M) (x := x + j.a) (y := max (x + j.a) y + j.m) (z := max (max (x + j.a) y + j.m) z + j.c) (S := S + j.m) (fun k hk => h k (List.mem_cons_of_mem _ hk)) (by omega)
    rw [show x + S + (j.a + j.m) = x + j.a + (S + j.m) by omega, show max (x + j.a + (S + j.m)) (z + S) + (j.m + j.c) = max (max (x + j.a) y + j.m) z + j.c + (S + j.m) by omega, ← this]
    omega
theorem mids_perm {l k : List J3} (h : l.Perm k) : mids l = mids k := by
  induction h with
  | nil => rfl
  | cons x _ ih => simp only [mids, ih]
  | swap x y l => simp only [mids]; omega
  | trans _ _ h1 h2 => exact h1.trans h2
/-- the sequence by the rule is the soonest where the middle one is small -/
theorem F3_best {M : Nat} {J s : List J3} (hM : (∀ j ∈ J, M ≤ j.a ∧ j.m ≤ M) ∨ (∀ j ∈ J, M ≤ j.c ∧ j.m ≤ M)) (hJ : (J.map two).Pairwise R) (hp : s.Perm J) : F3 0 0 0 J ≤ F3 0 0 0 s := by
  have h2 := F2_best hJ (hp.map two) 0 0
  have hm := mids_perm hp
  rcases hM with h | h
  · have e1 := F3_A (S := 0) (x := 0) (y := 0) (z := 0) h (by omega)
    have e2 := F3_A (S := 0) (x := 0) (y := 0) (z := 0) (fun j hj => h j (hp.mem_iff.mp hj)) (by omega)
    simp only [Nat.add_zero] at e1 e2
    omega
  · have e1 := F3_B (S := 0) (x := 0) (y := 0) (z := 0) h (by omega)
    have e2 := F3_B (S := 0) (x := 0) (y := 0) (z := 0) (fun j hj => h j (hp.mem_iff.mp hj)) (by omega)
    simp only [Nat.add_zero] at e1 e2
    omega
/-- the rule's sequence: the sooner washed ascending, the others descending -/
theorem rule_R {l1 l2 : List (Nat × Nat)} (h1 : ∀ p ∈ l1, p.1 ≤ p.2) (h2 : ∀ p ∈ l2, p.2 < p.1) (s1 : l1.Pairwise fun p q => p.1 ≤ q.1) (s2 : l2.Pairwise fun p q => q.2 ≤ p.2) : (l1 ++ l2).Pairwise R := by
  rw [List.pairwise_append]
  refine ⟨s1.imp_of_mem fun {p q} hp hq h => ?_, s2.imp_of_mem fun {p q} hp hq h => ?_, fun p hp q hq => ?_⟩
  · have := h1 p hp
    unfold R
    omega
  · have := h2 q hq
    have := h2 p hp
    unfold R
    omega
  · have := h2 q hq
    have := h1 p hp
    unfold R
    omega
end k31

namespace k31
open Ev PySem
/-- a number that is none below nought -/
def nn (n : Nat) : PyData := .int (n : Int)
def tn (l : List Nat) : PyData := .tuple (l.map nn)
@[simp] theorem max_n (a b : Nat) : bi .max [.py (nn a), .py (nn b)] = some (.py (nn (max a b)), false) := by
  show some (D.py (.int (if (b : Int) > (a : Int) then (b : Int) else (a : Int))), false) = some (D.py (.int ((max a b : Nat) : Int)), false)
  congr 4
  split <;> omega
@[simp] theorem add_n (a b : Nat) : o2 .add (.py (nn a)) (.py (nn b)) = some (.py (nn (a + b)), false) := by
  show some (D.py (.int ((a : Int) + (b : Int))), false) = some (D.py (.int ((a + b : Nat) : Int)), false)
  rw [Int.natCast_add]
@[simp] theorem gi_n {β : Type} (i : Nat) (k : Int → Option β) : gi (.py (nn i)) k = k (i : Int) := (rfl)
theorem ixl_n {M : Mem} {ps : List PyData} {k : Nat} {p : PyData} (h : ps[k]? = some p) : ixD M (.py (.list ps)) (.py (nn k)) = some (.py p) := ix_l h
theorem ixt_n {M : Mem} {ps : List PyData} {k : Nat} {p : PyData} (h : ps[k]? = some p) : ixD M (.py (.tuple ps)) (.py (nn k)) = some (.py p) := ix_t h
@[simp] theorem le_n (a b : Nat) : cm .le (.py (nn a)) (.py (nn b)) = some (decide (a ≤ b)) := by
  show some (decide ((a : Int) ≤ (b : Int))) = _
  congr 2
  exact propext Int.ofNat_le
@[simp] theorem gt_n (a b : Nat) : cm .gt (.py (nn a)) (.py (nn b)) = some (decide (b < a)) := by
  show some (decide ((b : Int) < (a : Int))) = _
  congr 2
  exact propext Int.ofNat_lt
@[simp] theorem ge_n (a b : Nat) : cm .ge (.py (nn a)) (.py (nn b)) = some (decide (b ≤ a)) := by
  show some (decide ((b : Int) ≤ (a : Int))) = _
  congr 2
  exact propext Int.ofNat_le
/-- clocks behind a job -/
def go (f : Nat) : List Nat → List Nat → List Nat
  | c :: cs, t :: ts => (max f c + t) :: go (max f c + t) cs ts
  | _, _ => []
def endsR (cl : List Nat) : List (List Nat) → List (List Nat)
  | [] => []
  | j :: js => go 0 cl j :: endsR (go 0 cl j) js
theorem go_len : ∀ {f : Nat} {cs ts : List Nat}, cs.length = ts.length → (go f cs ts).length = cs.length
  | _, [], [], _ => rfl
  | _, c :: cs, t :: ts, h => by
    unfold go
    rw [List.length_cons, List.length_cons, go_len (by simpa using h)]
theorem enu_cons (n : Nat) (d : D) (ds : List D) : enuFrom n (d :: ds) = mkT [.py (nn n), d] :: enuFrom (n + 1) ds := (rfl)
theorem at_done {done cs : List Nat} {c : Nat} : ((done ++ c :: cs).map nn)[done.length]? = some (nn c) := by simp
theorem set_done {done cs : List Nat} {c v : Nat} : ((done ++ c :: cs).map nn).set done.length (nn v) = ((done ++ [v]) ++ cs).map nn := by simp
theorem in_ends (C : Nv → Clo) (M : Mem) {s0 s1 s2 s4 : Slot} : ∀ (ts cs done : List Nat) (f : Nat) (s6 s7 : Slot), cs.length = ts.length → ∃ (r : Nat) (t6 t7 : Slot),
    forE F_ends_of C (.tp [.nm 6, .nm 7]) b_ends_of_2 (enuFrom done.length (ts.map fun t => D.py (nn t))) [s0, s1, s2, some (.py (.list ((done ++ cs).map nn)), true), s4, some (.py (nn f), false), s6, s7] M = some (.ok (.nx [s0, s1, s2, some (.py (.list ((done ++ go f cs ts).map nn)), true), s4, some (.py (nn r), false), t6, t7] M))
  | [], [], done, f, s6, s7, _ => ⟨f, s6, s7, rfl⟩
  | t :: ts, c :: cs, done, f, s6, s7, h => by
    obtain ⟨r, t6, t7, ih⟩ := in_ends C M (s0 := s0) (s1 := s1) (s2 := s2) (s4 := s4) ts cs (done ++ [max f c + t]) (max f c + t) (some (.py (nn done.length), false)) (some (.py (nn t), false)) (by simpa using h)
    refine ⟨r, t6, t7, ?_⟩
    rw [List.length_append, List.length_singleton] at ih
    have e1 : ixD M (.py (.list ((done ++ c :: cs).map nn))) (.py (nn done.length)) = some (.py (nn c)) := ixl_n at_done
    have e3 : ∀ s5 : Slot, putX 3 (done.length : Int) (.py (nn (max f c + t))) [s0, s1, s2, some (.py (.list ((done ++ c :: cs).map nn)), true), s4, s5, some (.py (nn done.length), false), some (.py (nn t), false)] M = some (.ok (.nx [s0, s1, s2, some (.py (.list (((done ++ [max f c + t]) ++ cs).map nn)), true), s4, s5, some (.py (nn done.length), false), some (.py (nn t), false)] M)) := fun s5 => by
      rw [put_own (i := 3) (ps := (done ++ c :: cs).map nn) rfl (by simp), set_done] <;> rfl
    have e4 : ∀ s5 : Slot, hasX [s0, s1, s2, some (.py (.list ((done ++ c :: cs).map nn)), true), s4, s5, some (.py (nn done.length), false), some (.py (nn t), false)] 3 = some () := fun s5 => hasX_own (i := 3) rfl
    have hg : done ++ go f (c :: cs) (t :: ts) = (done ++ [max f c + t]) ++ go (max f c + t) cs ts := by simp [go]
    rw [hg, ← ih, List.map_cons, enu_cons, forE_cons]
    have e5 : mkT [D.py (nn done.length), .py (nn t)] = .py (.tuple [nn done.length, nn t]) := rfl
    rw [e5]
    simp [-List.map_append, b_ends_of_2, e1, e3, e4]
end k31

namespace k31
open Ev PySem
def js (jobs : List (List Nat)) : PyData := .tuple (jobs.map tn)
theorem js_at {jobs : List (List Nat)} {a : Nat} {row : List Nat} {M : Mem} (h : jobs[a]? = some row) : ixD M (.py (js jobs)) (.py (nn a)) = some (.py (tn row)) := ixt_n (by rw [List.getElem?_map, h]; rfl)
theorem tn_at {row : List Nat} {a t : Nat} {M : Mem} (h : row[a]? = some t) : ixD M (.py (tn row)) (.py (nn a)) = some (.py (nn t)) := ixt_n (by rw [List.getElem?_map, h]; rfl)
theorem in_lends (C : Nv → Clo) (M : Mem) {s1 s4 : Slot} {jobs : List (List Nat)} {a : Nat} {row : List Nat} (hj : jobs[a]? = some row) : ∀ (ts cs done pre : List Nat) (f : Nat) (s6 : Slot), cs.length = ts.length → row = pre ++ ts → pre.length = done.length → ∃ (r : Nat) (t6 : Slot),
    forE F_law_ends C (.nm 6) b_law_ends_2 ((List.range' done.length ts.length).map fun i => D.py (nn i)) [some (.py (js jobs), false), s1, some (.py (nn a), false), some (.py (.list ((done ++ cs).map nn)), true), s4, some (.py (nn f), false), s6] M = some (.ok (.nx [some (.py (js jobs), false), s1, some (.py (nn a), false), some (.py (.list ((done ++ go f cs ts).map nn)), true), s4, some (.py (nn r), false), t6] M))
  | [], [], done, pre, f, s6, _, _, _ => ⟨f, s6, rfl⟩
  | t :: ts, c :: cs, done, pre, f, s6, h, hr, hp => by
    obtain ⟨r, t6, ih⟩ := in_lends C M (s1 := s1) (s4 := s4) hj ts cs (done ++ [max f c + t]) (pre ++ [t]) (max f c + t) (some (.py (nn done.length), false)) (by simpa using h) (by rw [hr]; simp) (by simp [hp])
    refine ⟨r, t6, ?_⟩
    rw [List.length_append, List.length_singleton] at ih
    have e1 : ixD M (.py (.list ((done ++ c :: cs).map nn))) (.py (nn done.length)) = some (.py (nn c)) := ixl_n at_done
    have e6 : ixD M (.py (tn row)) (.py (nn done.length)) = some (.py (nn t)) := tn_at (by rw [hr, ← hp]; simp)
    have e3 : ∀ s5 : Slot, putX 3 (done.length : Int) (.py (nn (max f c + t))) [some (.py (js jobs), false), s1, some (.py (nn a), false), some (.py (.list ((done ++ c :: cs).map nn)), true), s4, s5, some (.py (nn done.length), false)] M = some (.ok (.nx [some (.py (js jobs), false), s1, some (.py (nn a), false), some (.py (.list (((done ++ [max f c + t]) ++ cs).map nn)), true), s4, s5, some (.py (nn done.length), false)] M)) := fun s5 => by
      rw [put_own (i := 3) (ps := (done ++ c :: cs).map nn) rfl (by simp), set_done] <;> rfl
    have e4 : ∀ s5 : Slot, hasX [some (.py (js jobs), false), s1, some (.py (nn a), false), some (.py (.list ((done ++ c :: cs).map nn)), true), s4, s5, some (.py (nn done.length), false)] 3 = some () := fun s5 => hasX_own (i := 3) rfl
    have hg : done ++ go f (c :: cs) (t :: ts) = (done ++ [max f c + t]) ++ go (max f c + t) cs ts := by simp [go]
    rw [hg, ← ih, List.length_cons, List.range'_succ, List.map_cons, forE_cons]
    simp [-List.map_append, b_law_ends_2, e1, e3, e4, e6, js_at hj]
/-! the sequences' loops -/
/-- jobs of so many machines -/
structure OkJ (m : Nat) (jobs : List (List Nat)) : Prop where
  w : ∀ j ∈ jobs, j.length = m
  le : jobs.length ≤ 21
def pick (jobs : List (List Nat)) (os : List Nat) : List (List Nat) := os.map fun o => jobs.getD o []
theorem OkJ.at {m : Nat} {jobs : List (List Nat)} (k : OkJ m jobs) {o : Nat} (h : o < jobs.length) (os : List Nat) : ∃ row, jobs[o]? = some row ∧ row.length = m ∧ pick jobs (o :: os) = row :: pick jobs os := by
  have e : jobs[o]? = some jobs[o] := List.getElem?_eq_getElem h
  refine ⟨_, e, k.w _ (List.getElem_mem h), ?_⟩
  unfold pick
  rw [List.map_cons, List.getD_eq_getElem?_getD, e] <;> rfl
theorem out_ends (C : Nv → Clo) (M : Mem) {s1 : Slot} {m : Nat} {jobs : List (List Nat)} (k : OkJ m jobs) : ∀ (os : List Nat) (cl : List Nat) (fd : List (List Nat)) (s2 s5 s6 s7 : Slot), (∀ o ∈ os, o < jobs.length) → cl.length = m → fd.length + os.length ≤ 100 → ∃ (cl' : List Nat) (t2 t5 t6 t7 : Slot),
    forE F_ends_of C (.nm 2) b_ends_of_1 (os.map fun o => D.py (nn o)) [some (.py (js jobs), false), s1, s2, some (.py (.list (cl.map nn)), true), some (.py (.list (fd.map tn)), true), s5, s6, s7] M = some (.ok (.nx [some (.py (js jobs), false), s1, t2, some (.py (.list (cl'.map nn)), true), some (.py (.list ((fd ++ endsR cl (pick jobs os)).map tn)), true), t5, t6, t7] M))
  | [], cl, fd, s2, s5, s6, s7, _, _, _ => ⟨cl, s2, s5, s6, s7, by simp [pick, endsR]⟩
  | o :: os, cl, fd, s2, s5, s6, s7, ho, hc, hf => by
    have hz : (100 : Nat) < sizeLine := by decide
    obtain ⟨row, ja, jl, hpk⟩ := k.at (ho o List.mem_cons_self) os
    obtain ⟨r, u6, u7, ie⟩ := in_ends C M (s0 := some (.py (js jobs), false)) (s1 := s1) (s2 := some (.py (nn o), false)) (s4 := some (.py (.list (fd.map tn)), true)) row cl [] 0 s6 s7 (by rw [hc, jl])
    obtain ⟨cl', t2, t5, t6, t7, ih⟩ := out_ends C M (s1 := s1) k os (go 0 cl row) (fd ++ [go 0 cl row]) (some (.py (nn o), false)) (some (.py (nn r), false)) u6 u7 (fun p hp => ho p (List.mem_cons_of_mem _ hp)) (by rw [go_len (by rw [hc, jl]), hc]) (by simp at hf ⊢; omega)
    refine ⟨cl', t2, t5, t6, t7, ?_⟩
    have hg : fd ++ endsR cl (pick jobs (o :: os)) = (fd ++ [go 0 cl row]) ++ endsR (go 0 cl row) (pick jobs os) := by rw [hpk]; simp [endsR]
    rw [hg, ← ih, List.map_cons, forE_cons]
    simp only [List.nil_append, List.length_nil] at ie
    have h5 : (nn 0) = .int 0 := rfl
    rw [h5] at ie
    have hl : fd.length < sizeLine := by simp at hf; omega
    have e9 : appD (.py (.list (fd.map tn))) (.py (.tuple ((go 0 cl row).map nn))) = some (.py (.list ((fd ++ [go 0 cl row]).map tn))) := by
      rw [app_l, List.length_map, if_pos hl, List.map_append] <;> rfl
    have e10 : ((row.map nn).map D.py) = (row.map fun t => D.py (nn t)) := by rw [List.map_map]; rfl
    simp only [b_ends_of_1, ss_cons, ss_nil, l_ends_of_2, t_for, s_en, e_ix, e_var, List.getElem?_cons_zero, List.getElem?_cons_succ, bd_nm, ob_s, bz_ok, List.set_cons_zero, List.set_cons_succ, vget_f, js_at ja, t_asg, e_lit, st_sh]
    rw [show items (.py (tn row)) = some (row.map fun t => D.py (nn t)) from by rw [tn, it_t, e10]]
    simp [ie, e9]
theorem out_lends (C : Nv → Clo) (M : Mem) {s1 : Slot} {m : Nat} {jobs : List (List Nat)} (k : OkJ m jobs) : ∀ (os : List Nat) (cl : List Nat) (fd : List (List Nat)) (s2 s5 s6 : Slot), (∀ o ∈ os, o < jobs.length) → cl.length = m → m ≤ 100 → fd.length + os.length ≤ 100 → ∃ (cl' : List Nat) (t2 t5 t6 : Slot),
    forE F_law_ends C (.nm 2) b_law_ends_1 (os.map fun o => D.py (nn o)) [some (.py (js jobs), false), s1, s2, some (.py (.list (cl.map nn)), true), some (.py (.list (fd.map tn)), true), s5, s6] M = some (.ok (.nx [some (.py (js jobs), false), s1, t2, some (.py (.list (cl'.map nn)), true), some (.py (.list ((fd ++ endsR cl (pick jobs os)).map tn)), true), t5, t6] M))
  | [], cl, fd, s2, s5, s6, _, _, _, _ => ⟨cl, s2, s5, s6, by simp [pick, endsR]⟩
  | o :: os, cl, fd, s2, s5, s6, ho, hc, hm, hf => by
    have hz : (100 : Nat) < sizeLine := by decide
    obtain ⟨row, ja, jl, hpk⟩ := k.at (ho o List.mem_cons_self) os
    obtain ⟨r, u6, ie⟩ := in_lends C M (s1 := s1) (s4 := some (.py (.list (fd.map tn)), true)) ja row cl [] [] 0 s6 (by rw [hc, jl]) rfl rfl
    obtain ⟨cl', t2, t5, t6, ih⟩ := out_lends C M (s1 := s1) k os (go 0 cl row) (fd ++ [go 0 cl row]) (some (.py (nn o), false)) (some (.py (nn r), false)) u6 (fun p hp => ho p (List.mem_cons_of_mem _ hp)) (by rw [go_len (by rw [hc, jl]), hc]) hm (by simp at hf ⊢; omega)
    refine ⟨cl', t2, t5, t6, ?_⟩
    have hg : fd ++ endsR cl (pick jobs (o :: os)) = (fd ++ [go 0 cl row]) ++ endsR (go 0 cl row) (pick jobs os) := by rw [hpk]; simp [endsR]
    rw [hg, ← ih, List.map_cons, forE_cons]
    simp only [List.nil_append, List.length_nil] at ie
    have h5 : (nn 0) = .int 0 := rfl
    rw [h5] at ie
    have hl : fd.length < sizeLine := by simp at hf; omega
    have e9 : appD (.py (.list (fd.map tn))) (.py (.tuple ((go 0 cl row).map nn))) = some (.py (.list ((fd ++ [go 0 cl row]).map tn))) := by
      rw [app_l, List.length_map, if_pos hl, List.map_append] <;> rfl
    have er : rngL 0 (((cl.map nn).length : Nat) : Int) 1 = some ((List.range' 0 row.length).map fun i => D.py (nn i)) := by
      rw [List.length_map, hc, jl, rngL_up (by omega), List.range_eq_range'] <;> rfl
    simp only [b_law_ends_1, ss_cons, ss_nil, l_law_ends_2, t_for, s_r1, e_bi, l_cons, l_nil, e_var, List.getElem?_cons_zero, List.getElem?_cons_succ, bd_nm, ob_s, bz_ok, List.set_cons_zero, List.set_cons_succ, vget_f, vget_t, t_asg, e_lit, st_sh, List.map_cons, List.map_nil, len_l, liftO_s, fzs_c, fzs_n, fz_bo, gi_d, er, it_ml]
    simp [ie, e9]
theorem s_ends_of (C : Clo) (M : Mem) {m : Nat} {jobs : List (List Nat)} (k : OkJ m jobs) (hm : m = 2 ∨ m = 3) (hn : jobs ≠ []) {os : List Nat} (ho : ∀ o ∈ os, o < jobs.length) (hl : os.length ≤ 30) : f_ends_of C [.py (js jobs), .py (tn os)] M = some (.ok ⟨.py (.tuple ((endsR (List.replicate m 0) (pick jobs os)).map tn)), false, M⟩) := by
  obtain ⟨j0, jt, rfl⟩ := List.exists_cons_of_ne_nil hn
  obtain ⟨cl', t2, t5, t6, t7, e⟩ := out_ends (lamC F_ends_of d_ends_of.lams) M (s1 := some (.py (tn os), false)) k os (List.replicate m 0) [] none none none none ho (by simp) (by simp; omega)
  have e0 : ixD M (.py (js (j0 :: jt))) (.py (.int 0)) = some (.py (tn j0)) := js_at (a := 0) rfl
  have e1 : bi .len [.py (tn j0)] = some (.py (.int m), false) := by
    rw [tn, len_t, List.length_map, k.w j0 List.mem_cons_self]
  have e2 : o2 .mul (.py (.list [.int 0])) (.py (.int (m : Int))) = some (.py (.list ((List.replicate m 0).map nn)), true) := by
    rcases hm with rfl | rfl <;> rfl
  have e3 : items (.py (tn os)) = some (os.map fun o => D.py (nn o)) := by rw [tn, it_t, List.map_map]; rfl
  have h1 : (1 : Nat) ≤ sizeLine := by decide
  simp at e
  simp [f_ends_of, runF, d_ends_of, startN, l_ends_of_1, e0, e1, e2, e3, h1]
  simp [d_ends_of] at e
  simp [e]
theorem s_law_ends (C : Clo) (M : Mem) {m : Nat} {jobs : List (List Nat)} (k : OkJ m jobs) (hm : m = 2 ∨ m = 3) (hn : jobs ≠ []) {os : List Nat} (ho : ∀ o ∈ os, o < jobs.length) (hl : os.length ≤ 30) : f_law_ends C [.py (js jobs), .py (tn os)] M = some (.ok ⟨.py (.tuple ((endsR (List.replicate m 0) (pick jobs os)).map tn)), false, M⟩) := by
  obtain ⟨j0, jt, rfl⟩ := List.exists_cons_of_ne_nil hn
  obtain ⟨cl', t2, t5, t6, e⟩ := out_lends (lamC F_law_ends d_law_ends.lams) M (s1 := some (.py (tn os), false)) k os (List.replicate m 0) [] none none none ho (by simp) (by omega) (by simp; omega)
  have e0 : ixD M (.py (js (j0 :: jt))) (.py (.int 0)) = some (.py (tn j0)) := js_at (a := 0) rfl
  have e1 : bi .len [.py (tn j0)] = some (.py (.int m), false) := by
    rw [tn, len_t, List.length_map, k.w j0 List.mem_cons_self]
  have e2 : o2 .mul (.py (.list [.int 0])) (.py (.int (m : Int))) = some (.py (.list ((List.replicate m 0).map nn)), true) := by
    rcases hm with rfl | rfl <;> rfl
  have e3 : items (.py (tn os)) = some (os.map fun o => D.py (nn o)) := by rw [tn, it_t, List.map_map]; rfl
  have h1 : (1 : Nat) ≤ sizeLine := by decide
  simp at e
  simp [f_law_ends, runF, d_law_ends, startN, l_law_ends_1, e0, e1, e2, e3, h1]
  simp [d_law_ends] at e
  simp [e]
end k31

namespace k31
open Ev PySem
def isI (p : PyData) (lo hi : Int) : Bool := match p with
  | .int i => decide (lo ≤ i) && decide (i ≤ hi)
  | _ => false
def isT (p : PyData) (lo hi : Int) : Bool := match p with
  | .tuple xs => decide (lo ≤ xs.length) && decide ((xs.length : Int) ≤ hi)
  | _ => false
theorem s_is_tuple (C : Clo) (M : Mem) (p : PyData) (lo hi : Int) : f_is_tuple C [.py p, .py (.int lo), .py (.int hi)] M = some (.ok ⟨.py (.bool (isT p lo hi)), false, M⟩) := by
  cases p <;> simp [f_is_tuple, runF, d_is_tuple, startN, Ev.isi, isT]
  rename_i xs
  by_cases h : lo ≤ xs.length <;> simp [h]
theorem s_is_whole (C : Clo) (M : Mem) (p : PyData) : f_is_whole C [.py p] M = some (.ok ⟨.py (.bool (match p with | .int _ => true | _ => false)), false, M⟩) := by
  cases p <;> rfl
theorem s_is_integer (C : Clo) (M : Mem) (p : PyData) (lo hi : Int) : f_is_integer C [.py p, .py (.int lo), .py (.int hi)] M = some (.ok ⟨.py (.bool (isI p lo hi)), false, M⟩) := by
  simp [f_is_integer, runF, d_is_integer, startN, s_is_whole]
  cases p <;> simp [isI]
  rename_i i
  by_cases h : lo ≤ i <;> simp [h]
theorem s_law_is_int (C : Clo) (M : Mem) (p : PyData) (lo hi : Int) : f_law_is_int C [.py p, .py (.int lo), .py (.int hi)] M = some (.ok ⟨.py (.bool (isI p lo hi)), false, M⟩) := by
  cases p <;> simp [f_law_is_int, runF, d_law_is_int, startN, Ev.isi, isI]
  rename_i i
  by_cases h : lo ≤ i <;> simp [h]
theorem isI_nn (n : Nat) (lo hi : Int) : isI (nn n) lo hi = (decide (lo ≤ (n : Int)) && decide ((n : Int) ≤ hi)) := (rfl)
theorem it_tn (l : List Nat) : items (.py (tn l)) = some (l.map fun o => D.py (nn o)) := by rw [tn, it_t, List.map_map]; rfl
theorem it_js (l : List (List Nat)) : items (.py (js l)) = some (l.map fun o => D.py (tn o)) := by rw [js, it_t, List.map_map]; rfl
/-! jobs -/
structure OkT (m most : Nat) (jobs : List (List Nat)) : Prop extends OkJ m jobs where
  t : ∀ j ∈ jobs, ∀ x ∈ j, x ≤ 1000
  ne : jobs ≠ []
  mo : jobs.length ≤ most
theorem s_is_job (C : Clo) (M : Mem) {m : Nat} {row : List Nat} (hm : m ≤ 3) (hw : row.length = m) (ht : ∀ x ∈ row, x ≤ 1000) : f_is_job C [.py (.int (m : Int)), .py (tn row)] M = some (.ok ⟨.py (.bool true), false, M⟩) := by
  have hz : (100 : Nat) ≤ sizeLine := by decide
  have hc : evE F_is_job (lamC F_is_job d_is_job.lams) c_is_job_1 [some (.py (.int (m : Int)), false), some (.py (tn row), false), none] M = some (.ok ⟨.py (.list (row.map fun x => .bool (isI (nn x) 0 1000))), .fr, [some (.py (.int (m : Int)), false), some (.py (tn row), false), none], M⟩) :=
    comp_map (fun x => D.py (nn x)) (fun x => .bool (isI (nn x) 0 1000)) (fun x => [some (.py (.int (m : Int)), false), some (.py (tn row), false), some (.py (nn x), false)]) row (sm := .sh) (by simp [it_tn]; rfl) (by simp [it_tn]) (by omega) rfl (fun _ _ => rfl) (fun _ _ => ⟨.sh, by simp [s_is_integer], rfl⟩) (fun _ _ => rfl) rfl
  have ha := allb (fun x : Nat => isI (nn x) 0 1000) row
  rw [List.all_eq_true.mpr fun x hx => by
    have := ht x hx
    simp [isI_nn]
    omega] at ha
  have hT : isT (tn row) (m : Int) (m : Int) = true := by
    show (decide ((m : Int) ≤ ((row.map nn).length : Nat)) && decide (((row.map nn).length : Nat) ≤ (m : Int))) = true
    rw [List.length_map, hw]
    simp
  rw [show d_is_job.lams = [] from rfl] at hc
  simp [f_is_job, runF, d_is_job, startN, hc, ha, s_is_tuple, hT]
theorem s_check_jobs (C : Clo) (M : Mem) {m most : Nat} {jobs : List (List Nat)} (k : OkT m most jobs) (hm : m ≤ 3) : f_check_jobs C [.py (js jobs), .py (.int (most : Int)), .py (.int (m : Int))] M = some (.ok ⟨.py .none, false, M⟩) := by
  have hz : (100 : Nat) ≤ sizeLine := by decide
  have hl := k.le
  have hc : evE F_check_jobs (lamC F_check_jobs d_check_jobs.lams) c_check_jobs_1 [some (.py (js jobs), false), some (.py (.int (most : Int)), false), some (.py (.int (m : Int)), false), none] M = some (.ok ⟨.py (.list (jobs.map fun _ => .bool true)), .fr, [some (.py (js jobs), false), some (.py (.int (most : Int)), false), some (.py (.int (m : Int)), false), none], M⟩) :=
    comp_map (fun x => D.py (tn x)) (fun _ => .bool true) (fun x => [some (.py (js jobs), false), some (.py (.int (most : Int)), false), some (.py (.int (m : Int)), false), some (.py (tn x), false)]) jobs (sm := .sh) (by simp [it_js]; rfl) (by simp [it_js]) (by omega) rfl (fun _ _ => rfl) (fun x hx => ⟨.sh, by simp [s_is_job noClo M hm (k.w x hx) (k.t x hx)], rfl⟩) (fun _ _ => rfl) rfl
  have ha := allb (fun _ : List Nat => true) jobs
  rw [List.all_eq_true.mpr fun _ _ => rfl] at ha
  have hT : isT (js jobs) 1 (most : Int) = true := by
    have h1 := List.length_pos_iff.mpr k.ne
    have h2 := k.mo
    show (decide ((1 : Int) ≤ ((jobs.map tn).length : Nat)) && decide (((jobs.map tn).length : Nat) ≤ (most : Int))) = true
    rw [List.length_map]
    simp
    omega
  rw [show d_check_jobs.lams = [] from rfl] at hc
  simp [f_check_jobs, runF, d_check_jobs, startN, hc, ha, s_is_tuple, hT]
/-! sequences -/
def cntB (ps : List PyData) (n : Nat) : Bool := match intsOf ps with
  | some ns => (ddup ns).length == n
  | none => false
def isOrd (n : Nat) (p : PyData) : Bool := match p with
  | .tuple ps => decide (ps.length = n) && (ps.all (fun q => isI q 0 ((n : Int) - 1)) && cntB ps n)
  | _ => false
theorem ints_all {lo hi : Int} : ∀ {ps : List PyData}, ps.all (fun q => isI q lo hi) = true → ∃ ns : List Int, intsOf ps = some ns ∧ ps = ns.map .int ∧ ∀ i ∈ ns, lo ≤ i ∧ i ≤ hi
  | [], _ => ⟨[], rfl, rfl, fun _ h => nomatch h⟩
  | p :: ps, h => by
    rw [List.all_cons, Bool.and_eq_true] at h
    obtain ⟨ns, h1, h2, h3⟩ := ints_all h.2
    have hp := h.1
    cases p with
    | int i =>
      simp [isI] at hp
      refine ⟨i :: ns, ?_, by rw [h2]; rfl, fun j hj => ?_⟩
      · unfold intsOf
        rw [h1]
        rfl
      · rcases List.mem_cons.mp hj with e | e
        · rw [e]
          exact hp
        · exact h3 j e
    | _ => cases hp
theorem s_is_order (C : Clo) (M : Mem) {n : Nat} (hn : n ≤ 30) (p : PyData) : f_is_order C [.py (nn n), .py p] M = some (.ok ⟨.py (.bool (isOrd n p)), false, M⟩) := by
  have hz : (100 : Nat) ≤ sizeLine := by decide
  have hT : isT p (n : Int) (n : Int) = match p with | .tuple ps => decide (ps.length = n) | _ => false := by
    cases p with
    | tuple ps =>
      show (decide ((n : Int) ≤ ps.length) && decide ((ps.length : Int) ≤ n)) = decide (ps.length = n)
      rw [Bool.eq_iff_iff]
      simp
      omega
    | _ => rfl
  have ht : f_is_tuple noClo [.py p, .py (nn n), .py (nn n)] M = some (.ok ⟨.py (.bool (isT p (n : Int) (n : Int))), false, M⟩) := s_is_tuple noClo M p n n
  rw [hT] at ht
  cases p with
  | tuple ps =>
    by_cases hl : ps.length = n
    · have hsub : o2 .sub (.py (nn n)) (.py (.int 1)) = some (.py (.int ((n : Int) - 1)), false) := rfl
      have hc : evE F_is_order (lamC F_is_order d_is_order.lams) c_is_order_1 [some (.py (nn n), false), some (.py (.tuple ps), false), none] M = some (.ok ⟨.py (.list (ps.map fun x => .bool (isI x 0 ((n : Int) - 1)))), .fr, [some (.py (nn n), false), some (.py (.tuple ps), false), none], M⟩) :=
        comp_map D.py (fun x => .bool (isI x 0 ((n : Int) - 1))) (fun x => [some (.py (nn n), false), some (.py (.tuple ps), false), some (.py x, false)]) ps (sm := .sh) (by simp; rfl) (by simp) (by omega) rfl (fun _ _ => rfl) (fun _ _ => ⟨.sh, by simp [s_is_integer, hsub], rfl⟩) (fun _ _ => rfl) rfl
      have ha := allb (fun x : PyData => isI x 0 ((n : Int) - 1)) ps
      rw [show d_is_order.lams = [] from rfl] at hc
      cases hall : ps.all (fun x => isI x 0 ((n : Int) - 1)) with
      | false =>
        rw [hall] at ha
        simp [f_is_order, runF, d_is_order, startN, ht, hc, ha, isOrd, hl, hall]
      | true =>
        rw [hall] at ha
        obtain ⟨ns, h1, h2, h3⟩ := ints_all hall
        have hns : ns.length ≤ 1000 := by
          have := congrArg List.length h2
          simp at this
          omega
        have hlset : lsetD (.py (.tuple ps)) = some (ddup ns).length := by
          unfold lsetD
          simp only
          rw [h1]
          simp only
          rw [if_pos hns]
        have heq : cm .eq (.py (.int ((ddup ns).length : Nat))) (.py (nn n)) = some ((ddup ns).length == n) := by
          show some (((ddup ns).length : Int) == (n : Int)) = _
          congr 1
          rw [Bool.eq_iff_iff]
          simp
          omega
        simp [f_is_order, runF, d_is_order, startN, ht, hc, ha, isOrd, hl, hall, hlset, heq, cntB, h1]
    · simp [f_is_order, runF, d_is_order, startN, ht, isOrd, hl]
  | _ => simp [f_is_order, runF, d_is_order, startN, ht, isOrd]
end k31

namespace k31
open Ev PySem
/-! rows of two ints, sorted -/
def q2 (p : Int × Int) : PyData := .tuple [.int p.1, .int p.2]
def ltP (p q : Int × Int) : Bool := decide (p.1 < q.1) || (decide (p.1 = q.1) && decide (p.2 < q.2))
def leP (p q : Int × Int) : Bool := !ltP q p
theorem leP_iff {p q : Int × Int} : leP p q = true ↔ p.1 < q.1 ∨ (p.1 = q.1 ∧ p.2 ≤ q.2) := by
  unfold leP ltP
  simp
  omega
open PyProof.Rows PySem.W in
theorem lex_ints (x y : Int) (l m : List (Int ⊕ List Nat)) (h : x ≠ y) : lexLt itemOrd (.inl x :: l) (.inl y :: m) = decide (x < y) := by
  rw [lex_atom (by intro e; exact h (Sum.inl.inj e)) l m]
  have e := dataLt_int x y
  exact e
open PyProof.Rows PySem.W in
theorem dlt_q2 (p q : Int × Int) : dataLt (q2 p) (q2 q) = ltP p q := by
  obtain ⟨a, b⟩ := p
  obtain ⟨c, d⟩ := q
  have e : ∀ a b : Int, keyToks (q2 (a, b)) = [.inl 1, .inl a, .inl 1, .inl b, .inl 0] := fun a b => by
    simp [q2, keyToks, keyToksAll]
  unfold dataLt ltP
  rw [e, e]
  rw [show ([.inl 1, .inl a, .inl 1, .inl b, .inl 0] : List (Int ⊕ List Nat)) = [.inl 1] ++ [.inl a, .inl 1, .inl b, .inl 0] from rfl, show ([.inl 1, .inl c, .inl 1, .inl d, .inl 0] : List (Int ⊕ List Nat)) = [.inl 1] ++ [.inl c, .inl 1, .inl d, .inl 0] from rfl, lex_pre]
  by_cases h : a = c
  · subst h
    rw [show ([.inl a, .inl 1, .inl b, .inl 0] : List (Int ⊕ List Nat)) = [.inl a, .inl 1] ++ [.inl b, .inl 0] from rfl, show ([.inl a, .inl 1, .inl d, .inl 0] : List (Int ⊕ List Nat)) = [.inl a, .inl 1] ++ [.inl d, .inl 0] from rfl, lex_pre]
    by_cases h2 : b = d
    · subst h2
      simp [lex_irrefl]
    · rw [lex_ints _ _ _ _ h2]
      simp
  · rw [lex_ints _ _ _ _ h]
    simp [h]
theorem dle_q2 (p q : Int × Int) : W.dataLe false id (q2 p) (q2 q) = leP p q := by
  unfold leP
  rw [← dlt_q2]
  rfl
def insP (a : Int × Int) : List (Int × Int) → List (Int × Int)
  | [] => [a]
  | b :: bs => if leP a b = true then a :: b :: bs else b :: insP a bs
def sortP : List (Int × Int) → List (Int × Int)
  | [] => []
  | x :: xs => insP x (sortP xs)
theorem insD_q2 (a : Int × Int) : ∀ L : List (Int × Int), insD (q2 a) (L.map q2) = (insP a L).map q2
  | [] => rfl
  | b :: bs => by
    rw [List.map_cons]
    unfold insD insP
    rw [dle_q2, insD_q2 a bs]
    split <;> rfl
theorem sortD_q2 : ∀ L : List (Int × Int), sortD (L.map q2) = (sortP L).map q2
  | [] => rfl
  | x :: xs => by
    rw [List.map_cons]
    unfold sortD sortP
    rw [sortD_q2 xs, insD_q2]
theorem insP_perm (a : Int × Int) : ∀ L : List (Int × Int), (insP a L).Perm (a :: L)
  | [] => List.Perm.refl _
  | b :: bs => by
    unfold insP
    split
    · exact List.Perm.refl _
    · exact ((insP_perm a bs).cons b).trans (List.Perm.swap a b bs)
theorem sortP_perm : ∀ L : List (Int × Int), (sortP L).Perm L
  | [] => List.Perm.refl _
  | x :: xs => (insP_perm x (sortP xs)).trans ((sortP_perm xs).cons x)
theorem insP_pw (a : Int × Int) : ∀ {L : List (Int × Int)}, L.Pairwise (fun p q => leP p q = true) → (insP a L).Pairwise fun p q => leP p q = true
  | [], _ => List.pairwise_singleton _ _
  | b :: bs, h => by
    rw [List.pairwise_cons] at h
    unfold insP
    split
    · rename_i hab
      refine List.pairwise_cons.mpr ⟨fun c hc => ?_, List.pairwise_cons.mpr h⟩
      rcases List.mem_cons.mp hc with e | e
      · rw [e]
        exact hab
      · have := h.1 c e
        rw [leP_iff] at hab this ⊢
        omega
    · rename_i hab
      refine List.pairwise_cons.mpr ⟨fun c hc => ?_, insP_pw a h.2⟩
      rcases List.mem_cons.mp ((insP_perm a bs).mem_iff.mp hc) with e | e
      · rw [e]
        rw [leP_iff] at hab ⊢
        omega
      · exact h.1 c e
theorem sortP_pw : ∀ L : List (Int × Int), (sortP L).Pairwise fun p q => leP p q = true
  | [] => List.Pairwise.nil
  | x :: xs => insP_pw x (sortP_pw xs)
theorem sorted_q2 (L : List (Int × Int)) : bi .sorted [.py (.list (L.map q2))] = some (.py (.list ((sortP L).map q2)), true) := by
  have h1 : alikeL (L.map q2) = true := by
    unfold alikeL
    rw [List.all_eq_true]
    intro a ha
    obtain ⟨l, _, rfl⟩ := List.mem_map.mp ha
    rw [Bool.and_eq_true, List.all_eq_true]
    refine ⟨rfl, fun b hb => ?_⟩
    obtain ⟨m, _, rfl⟩ := List.mem_map.mp hb
    simp [q2, W.alike, W.alikeAll]
  have h2 : ((L.map q2).all isTupP || (L.map q2).all noTupP) = true := by
    rw [List.all_eq_true.mpr fun a ha => by
      obtain ⟨l, _, rfl⟩ := List.mem_map.mp ha
      rfl]
    rfl
  have h3 : PyData.depthAll (L.map q2) ≤ 1 := by
    induction L with
    | nil => exact Nat.zero_le _
    | cons l L ih =>
      rw [List.map_cons]
      show max (q2 l).depth (PyData.depthAll (L.map q2)) ≤ 1
      have := ih (by
        have h1' := h1
        unfold alikeL at h1' ⊢
        rw [List.all_eq_true] at h1' ⊢
        intro a ha
        have := h1' a (List.mem_cons_of_mem _ ha)
        rw [Bool.and_eq_true, List.all_eq_true] at this ⊢
        exact ⟨this.1, fun b hb => this.2 b (List.mem_cons_of_mem _ hb)⟩) (by
        rw [List.all_eq_true.mpr fun a ha => by
          obtain ⟨l, _, rfl⟩ := List.mem_map.mp ha
          rfl]
        rfl)
      have e : (q2 l).depth = 1 := rfl
      omega
  have h4 : okL (L.map q2) = true := decide_eq_true (by omega)
  show (if alikeL (L.map q2) && ((L.map q2).all isTupP || (L.map q2).all noTupP) && okL (L.map q2) then some (D.py (.list (sortD (L.map q2))), true) else none) = _
  rw [h1, h2, h4, sortD_q2]
  rfl
/-! the rule -/
def r2 (p : Nat × Nat) : PyData := tn [p.1, p.2]
def rowA (x : (Nat × Nat) × Nat) : Int × Int := ((x.1.1 : Int), (x.2 : Int))
def rowB (x : (Nat × Nat) × Nat) : Int × Int := (-(x.1.2 : Int), (x.2 : Int))
def johA (ps : List (Nat × Nat)) : List (Int × Int) := sortP ((ps.zipIdx.filter fun x => decide (x.1.1 ≤ x.1.2)).map rowA)
def johB (ps : List (Nat × Nat)) : List (Int × Int) := sortP ((ps.zipIdx.filter fun x => decide (x.1.2 < x.1.1)).map rowB)
def joh (ps : List (Nat × Nat)) : List Nat := (johA ps ++ johB ps).map fun p => p.2.toNat
theorem johA_mem {ps : List (Nat × Nat)} {p : Int × Int} (h : p ∈ johA ps) : ∃ a b i : Nat, ps[i]? = some (a, b) ∧ a ≤ b ∧ p = ((a : Int), (i : Int)) := by
  have h := (sortP_perm _).mem_iff.mp h
  obtain ⟨x, hx, rfl⟩ := List.mem_map.mp h
  obtain ⟨h1, h2⟩ := List.mem_filter.mp hx
  obtain ⟨⟨a, b⟩, i⟩ := x
  exact ⟨a, b, i, (List.mem_zipIdx_iff_getElem?.mp h1), of_decide_eq_true h2, rfl⟩
theorem johB_mem {ps : List (Nat × Nat)} {p : Int × Int} (h : p ∈ johB ps) : ∃ a b i : Nat, ps[i]? = some (a, b) ∧ b < a ∧ p = (-(b : Int), (i : Int)) := by
  have h := (sortP_perm _).mem_iff.mp h
  obtain ⟨x, hx, rfl⟩ := List.mem_map.mp h
  obtain ⟨h1, h2⟩ := List.mem_filter.mp hx
  obtain ⟨⟨a, b⟩, i⟩ := x
  exact ⟨a, b, i, (List.mem_zipIdx_iff_getElem?.mp h1), of_decide_eq_true h2, rfl⟩
theorem joh_perm (ps : List (Nat × Nat)) : (joh ps).Perm (List.range ps.length) := by
  have h1 : (joh ps).Perm ((((ps.zipIdx.filter fun x => decide (x.1.1 ≤ x.1.2)).map rowA) ++ ((ps.zipIdx.filter fun x => decide (x.1.2 < x.1.1)).map rowB)).map fun p => p.2.toNat) := ((sortP_perm _).append (sortP_perm _)).map _
  have h2 : ((((ps.zipIdx.filter fun x => decide (x.1.1 ≤ x.1.2)).map rowA) ++ ((ps.zipIdx.filter fun x => decide (x.1.2 < x.1.1)).map rowB)).map fun p => p.2.toNat) = ((ps.zipIdx.filter fun x => decide (x.1.1 ≤ x.1.2)) ++ (ps.zipIdx.filter fun x => !decide (x.1.1 ≤ x.1.2))).map Prod.snd := by
    have e : (fun x : (Nat × Nat) × Nat => decide (x.1.2 < x.1.1)) = fun x => !decide (x.1.1 ≤ x.1.2) := by
      funext x
      rw [Bool.eq_iff_iff]
      simp
    rw [e, List.map_append, List.map_map, List.map_map, List.map_append]
    rfl
  rw [h2] at h1
  refine h1.trans (((List.filter_append_perm _ _).map _).trans ?_)
  rw [List.zipIdx_map_snd, List.range_eq_range']
theorem joh_R (ps : List (Nat × Nat)) : ((joh ps).map fun i => ps.getD i (0, 0)).Pairwise R := by
  unfold joh
  rw [List.map_map, List.map_append]
  have atD : ∀ {i : Nat} {x : Nat × Nat}, ps[i]? = some x → ps.getD i (0, 0) = x := fun h => by rw [List.getD_eq_getElem?_getD, h] <;> rfl
  refine rule_R (fun p hp => ?_) (fun p hp => ?_) ?_ ?_
  · obtain ⟨q, hq, rfl⟩ := List.mem_map.mp hp
    obtain ⟨a, b, i, h1, h2, rfl⟩ := johA_mem hq
    show (ps.getD (Int.toNat (i : Int)) (0, 0)).1 ≤ (ps.getD (Int.toNat (i : Int)) (0, 0)).2
    rw [Int.toNat_natCast, atD h1]
    exact h2
  · obtain ⟨q, hq, rfl⟩ := List.mem_map.mp hp
    obtain ⟨a, b, i, h1, h2, rfl⟩ := johB_mem hq
    show (ps.getD (Int.toNat (i : Int)) (0, 0)).2 < (ps.getD (Int.toNat (i : Int)) (0, 0)).1
    rw [Int.toNat_natCast, atD h1]
    exact h2
  · rw [List.pairwise_map]
    refine (sortP_pw _).imp_of_mem fun {p q} hp hq h => ?_
    obtain ⟨a, b, i, h1, h2, rfl⟩ := johA_mem hp
    obtain ⟨c, d, j, g1, g2, rfl⟩ := johA_mem hq
    show (ps.getD (Int.toNat (i : Int)) (0, 0)).1 ≤ (ps.getD (Int.toNat (j : Int)) (0, 0)).1
    rw [Int.toNat_natCast, Int.toNat_natCast, atD h1, atD g1]
    rw [leP_iff] at h
    simp only at h ⊢
    omega
  · rw [List.pairwise_map]
    refine (sortP_pw _).imp_of_mem fun {p q} hp hq h => ?_
    obtain ⟨a, b, i, h1, h2, rfl⟩ := johB_mem hp
    obtain ⟨c, d, j, g1, g2, rfl⟩ := johB_mem hq
    show (ps.getD (Int.toNat (j : Int)) (0, 0)).2 ≤ (ps.getD (Int.toNat (i : Int)) (0, 0)).2
    rw [Int.toNat_natCast, Int.toNat_natCast, atD h1, atD g1]
    rw [leP_iff] at h
    simp only at h ⊢
    omega
theorem joh_tn (ps : List (Nat × Nat)) : PyData.tuple ((johA ps ++ johB ps).map fun p => .int p.2) = tn (joh ps) := by
  unfold tn joh
  rw [List.map_map]
  congr 1
  refine List.map_congr_left fun p hp => ?_
  have : 0 ≤ p.2 := by
    rcases List.mem_append.mp hp with h | h
    · obtain ⟨a, b, i, _, _, rfl⟩ := johA_mem h
      exact Int.natCast_nonneg _
    · obtain ⟨a, b, i, _, _, rfl⟩ := johB_mem h
      exact Int.natCast_nonneg _
  show PyData.int p.2 = .int ((p.2.toNat : Nat) : Int)
  rw [Int.toNat_of_nonneg this]
theorem sortP_len (L : List (Int × Int)) : (sortP L).length = L.length := (sortP_perm L).length_eq
def en (x : (Nat × Nat) × Nat) : D := .py (.tuple [nn x.2, r2 x.1])
theorem enu_r2 : ∀ (ps : List (Nat × Nat)) (k : Nat), enuFrom k (ps.map fun p => D.py (r2 p)) = (ps.zipIdx k).map en
  | [], _ => rfl
  | p :: ps, k => by
    rw [List.map_cons, enu_cons, enu_r2 ps (k + 1), List.zipIdx_cons, List.map_cons]
    rfl
theorem c_j1 (C : Nv → Clo) (M : Mem) (x : PyData) (ps : List (Nat × Nat)) (hx : items (.py x) = some (ps.map fun p => D.py (r2 p))) (hl : ps.length ≤ 30) : evE F_johnson C c_johnson_1 [some (.py x, false), none, none, none, none, none, none] M = some (.ok ⟨.py (.list (((ps.zipIdx.filter fun x => decide (x.1.1 ≤ x.1.2)).map rowA).map q2)), .fr, [some (.py x, false), none, none, none, none, none, none], M⟩) := by
  have hz : (100 : Nat) ≤ sizeLine := by decide
  rw [List.map_map]
  exact comp_filter en (fun x => decide (x.1.1 ≤ x.1.2)) (fun x => q2 (rowA x)) (fun y => [some (.py x, false), none, none, some (.py (nn y.2), false), none, some (.py (nn y.1.1), false), some (.py (nn y.1.2), false)]) ps.zipIdx (sd := .ml (enuFrom 0 (ps.map fun p => D.py (r2 p)))) (sm := .sh) (by simp [hx]) (by rw [it_ml, enu_r2]) (by rw [List.length_zipIdx]; omega) rfl (fun y _ => by simp [en, r2, tn]) (fun y _ => ⟨.py (.bool (decide (y.1.1 ≤ y.1.2))), by simp, rfl⟩) (fun y _ _ => ⟨.sh, by simp [show (2 : Nat) ≤ sizeLine from by decide]; rfl, rfl⟩) (fun _ _ => rfl) rfl
theorem c_j2 (C : Nv → Clo) (M : Mem) (x f : PyData) (ps : List (Nat × Nat)) (hx : items (.py x) = some (ps.map fun p => D.py (r2 p))) (hl : ps.length ≤ 30) : evE F_johnson C c_johnson_2 [some (.py x, false), some (.py f, true), none, none, none, none, none] M = some (.ok ⟨.py (.list (((ps.zipIdx.filter fun x => decide (x.1.2 < x.1.1)).map rowB).map q2)), .fr, [some (.py x, false), some (.py f, true), none, none, none, none, none], M⟩) := by
  have hz : (100 : Nat) ≤ sizeLine := by decide
  rw [List.map_map]
  exact comp_filter en (fun x => decide (x.1.2 < x.1.1)) (fun x => q2 (rowB x)) (fun y => [some (.py x, false), some (.py f, true), none, some (.py (nn y.2), false), none, some (.py (nn y.1.1), false), some (.py (nn y.1.2), false)]) ps.zipIdx (sd := .ml (enuFrom 0 (ps.map fun p => D.py (r2 p)))) (sm := .sh) (by simp [hx]) (by rw [it_ml, enu_r2]) (by rw [List.length_zipIdx]; omega) rfl (fun y _ => by simp [en, r2, tn]) (fun y _ => ⟨.py (.bool (decide (y.1.2 < y.1.1))), by simp, rfl⟩) (fun y _ _ => ⟨.sh, by simp [show (2 : Nat) ≤ sizeLine from by decide]; rfl, rfl⟩) (fun _ _ => rfl) rfl
theorem c_j3 (C : Nv → Clo) (M : Mem) (x : PyData) (A B : List (Int × Int)) (hl : A.length + B.length ≤ 60) : evE F_johnson C c_johnson_3 [some (.py x, false), some (.py (.list (A.map q2)), true), some (.py (.list (B.map q2)), true), none, none, none, none] M = some (.ok ⟨.py (.list ((A ++ B).map fun p => .int p.2)), .fr, [some (.py x, false), some (.py (.list (A.map q2)), true), some (.py (.list (B.map q2)), true), none, none, none, none], M⟩) := by
  have hz : (100 : Nat) ≤ sizeLine := by decide
  refine comp_map (fun p => D.py (q2 p)) (fun p => .int p.2) (fun p => [some (.py x, false), some (.py (.list (A.map q2)), true), some (.py (.list (B.map q2)), true), some (.py (.int p.2), false), some (.py (.int p.1), false), none, none]) (A ++ B) (sd := .py (.list ((A ++ B).map q2))) (sm := .fr) ?_ (by rw [it_l, List.map_map]; rfl) (by rw [List.length_append]; omega) rfl (fun y _ => by simp [q2]) (fun y _ => ⟨.sh, by simp, rfl⟩) (fun _ _ => rfl) rfl
  have e : mkL ((A ++ B).map fun p => D.py (q2 p)) = .py (.list ((A ++ B).map q2)) := mkL_map q2 (A ++ B)
  have e2 : (List.map (fun x => x.fst) (List.map (fun x => (x, Md.sh)) (List.map D.py (List.map q2 A)) ++ List.map (fun x => (x, Md.sh)) (List.map D.py (List.map q2 B)))) = ((A ++ B).map fun p => D.py (q2 p)) := by simp [Function.comp_def]
  simp only [s_it_, e_lst, l_star, l_nil, e_var, List.getElem?_cons_zero, List.getElem?_cons_succ, vget_t, bz_ok, it_l, ob_s, List.append_nil, e2, e, fzs_n]
  rw [if_pos (by simp; omega), bz_ok]
  simp only [it_l, ob_s]
  congr 3
  have h1 : ∀ (xs : List D) (ps : List (D × Md)) (ρ : Nv), fzs (xs.map (fun x => (x, Md.sh)) ++ ps) ρ = fzs ps ρ := fun xs ps ρ => fzs_shs (fun d => d) xs ps ρ
  have h2 := h1 (List.map D.py (List.map q2 A)) (List.map (fun x => (x, Md.sh)) (List.map D.py (List.map q2 B)))
  have h3 := h1 (List.map D.py (List.map q2 B)) []
  simp only [List.append_nil] at h3
  rw [h2, h3] <;> rfl
theorem s_johnson (C : Clo) (M : Mem) (x : PyData) (ps : List (Nat × Nat)) (hx : items (.py x) = some (ps.map fun p => D.py (r2 p))) (hl : ps.length ≤ 30) : f_johnson C [.py x] M = some (.ok ⟨.py (tn (joh ps)), false, M⟩) := by
  have h1 := c_j1 (lamC F_johnson []) M x ps hx hl
  have h2 := c_j2 (lamC F_johnson []) M x (.list ((johA ps).map q2)) ps hx hl
  have hA : (johA ps).length ≤ 30 := by
    unfold johA
    rw [sortP_len, List.length_map]
    exact Nat.le_trans (List.length_filter_le _ _) (by rw [List.length_zipIdx]; exact hl)
  have hB : (johB ps).length ≤ 30 := by
    unfold johB
    rw [sortP_len, List.length_map]
    exact Nat.le_trans (List.length_filter_le _ _) (by rw [List.length_zipIdx]; exact hl)
  have h3 := c_j3 (lamC F_johnson []) M x (johA ps) (johB ps) (by omega)
  have g1 : bi .sorted [.py (.list (((ps.zipIdx.filter fun x => decide (x.1.1 ≤ x.1.2)).map rowA).map q2))] = some (.py (.list ((johA ps).map q2)), true) := sorted_q2 _
  have g2 : bi .sorted [.py (.list (((ps.zipIdx.filter fun x => decide (x.1.2 < x.1.1)).map rowB).map q2))] = some (.py (.list ((johB ps).map q2)), true) := sorted_q2 _
  have g3 := joh_tn ps
  simp only [f_johnson, runF, d_johnson, startN, ss_cons, ss_nil, t_asg, e_bi, l_cons, l_nil, List.length_cons, List.length_nil, if_true, List.map_cons, List.map_nil, List.cons_append, List.nil_append, Nat.reduceSub, List.replicate, h1, bz_ok, g1, liftO_s, fzs_c, fzs_n, fz_fr, mdOf_t, st_fr, ob_s, List.set_cons_succ, List.set_cons_zero]
  rw [h2]
  simp only [bz_ok, List.map_cons, List.map_nil, g2, liftO_s, fzs_c, fzs_n, fz_fr, mdOf_t, st_fr, ob_s, List.set_cons_succ, List.set_cons_zero, t_ret, e_bi, l_cons, l_nil]
  rw [h3]
  simp [-List.map_append, g3]
end k31

namespace k31
open Ev PySem
/-! two machines -/
/-- rows of pairs -/
def pr (jobs : List (List Nat)) : List (Nat × Nat) := jobs.map fun j => (j.getD 0 0, j.getD 1 0)
theorem row2 {j : List Nat} (h : j.length = 2) : j = [j.getD 0 0, j.getD 1 0] := by
  match j, h with
  | [a, b], _ => rfl
theorem js_pr {jobs : List (List Nat)} (h : ∀ j ∈ jobs, j.length = 2) : items (.py (js jobs)) = some ((pr jobs).map fun p => D.py (r2 p)) := by
  rw [it_js, pr, List.map_map]
  congr 1
  refine List.map_congr_left fun j hj => ?_
  show D.py (tn j) = D.py (tn [j.getD 0 0, j.getD 1 0])
  rw [← row2 (h j hj)]
theorem pr_len (jobs : List (List Nat)) : (pr jobs).length = jobs.length := List.length_map _
/-- when the second machine is done -/
def fin2 (x y : Nat) (l : List (List Nat)) : List Nat := (l.foldl (fun c j => go 0 c j) [x, y])
theorem ends_last : ∀ (l : List (List Nat)) (c : List Nat), l ≠ [] → (endsR c l).getLast? = some (l.foldl (fun c j => go 0 c j) c)
  | [j], c, _ => rfl
  | j :: k :: l, c, _ => by
    have ih := ends_last (k :: l) (go 0 c j) (by simp)
    rw [endsR, List.getLast?_cons, ih]
    rfl
theorem fin_F2 : ∀ (l : List (List Nat)) (x y : Nat), (∀ j ∈ l, j.length = 2) → ∃ x', l.foldl (fun c j => go 0 c j) [x, y] = [x', F2 x y (pr l)]
  | [], x, y, _ => ⟨x, rfl⟩
  | j :: l, x, y, h => by
    obtain ⟨x', ih⟩ := fin_F2 l (x + j.getD 0 0) (max (x + j.getD 0 0) y + j.getD 1 0) fun k hk => h k (List.mem_cons_of_mem _ hk)
    refine ⟨x', ?_⟩
    rw [List.foldl_cons]
    have e : go 0 [x, y] j = [x + j.getD 0 0, max (x + j.getD 0 0) y + j.getD 1 0] := by
      have := row2 (h j List.mem_cons_self)
      rw [this]
      simp [go]
    rw [e, ih]
    rfl
/-- the end of a sequence of pairs -/
def mk2 (jobs : List (List Nat)) (os : List Nat) : Nat := F2 0 0 (pr (pick jobs os))
theorem pick_mem {jobs : List (List Nat)} {os : List Nat} {m : Nat} (k : OkJ m jobs) (ho : ∀ o ∈ os, o < jobs.length) : ∀ j ∈ pick jobs os, j ∈ jobs ∧ j.length = m := fun j hj => by
  obtain ⟨o, h1, rfl⟩ := List.mem_map.mp hj
  have h2 : jobs.getD o [] = jobs[o]'(ho o h1) := by
    rw [List.getD_eq_getElem?_getD, List.getElem?_eq_getElem (ho o h1)] <;> rfl
  rw [h2]
  exact ⟨List.getElem_mem _, k.w _ (List.getElem_mem _)⟩
def endD (m : Nat) (jobs : List (List Nat)) (os : List Nat) : PyData := .tuple ((endsR (List.replicate m 0) (pick jobs os)).map tn)
def lst (m : Nat) (jobs : List (List Nat)) (os : List Nat) : List Nat := (pick jobs os).foldl (fun c j => go 0 c j) (List.replicate m 0)
theorem end_last {m : Nat} {jobs : List (List Nat)} {os : List Nat} {M : Mem} (h : os ≠ []) : ixD M (.py (endD m jobs os)) (.py (.int (-1))) = some (.py (tn (lst m jobs os))) := by
  refine ix_tl ?_
  rw [List.getLast?_map, ends_last _ _ (by simpa [pick] using h)]
  rfl
theorem end2 {jobs : List (List Nat)} {os : List Nat} (k : OkJ 2 jobs) (ho : ∀ o ∈ os, o < jobs.length) : ∃ x, lst 2 jobs os = [x, mk2 jobs os] := fin_F2 _ 0 0 fun j hj => (pick_mem k ho j hj).2
theorem ix_ends2 {jobs : List (List Nat)} {os : List Nat} (k : OkJ 2 jobs) (ho : ∀ o ∈ os, o < jobs.length) (M : Mem) : ixD M (.py (tn (lst 2 jobs os))) (.py (.int 1)) = some (.py (nn (mk2 jobs os))) := by
  obtain ⟨x, e⟩ := end2 k ho
  rw [e]
  rfl
theorem s_soonest (C : Clo) (M : Mem) {jobs : List (List Nat)} (k : OkT 2 20 jobs) : f_soonest C [.py (js jobs)] M = some (.ok ⟨.py (.tuple [nn (mk2 jobs (joh (pr jobs))), tn (joh (pr jobs))]), false, M⟩) := by
  have hp := joh_perm (pr jobs)
  rw [pr_len] at hp
  have ho : ∀ o ∈ joh (pr jobs), o < jobs.length := fun o h => List.mem_range.mp (hp.mem_iff.mp h)
  have hn : joh (pr jobs) ≠ [] := fun e => by
    have := hp.length_eq
    rw [e, List.length_range] at this
    exact k.ne (List.length_eq_zero_iff.mp this.symm)
  have hl : (joh (pr jobs)).length ≤ 30 := by
    rw [hp.length_eq, List.length_range]
    have := k.mo
    omega
  have e1 := s_check_jobs noClo M k (by omega)
  have e2 := s_johnson noClo M (js jobs) (pr jobs) (js_pr k.w) (by rw [pr_len]; have := k.mo; omega)
  have e3 : f_ends_of noClo [.py (js jobs), .py (tn (joh (pr jobs)))] M = some (.ok ⟨.py (endD 2 jobs (joh (pr jobs))), false, M⟩) := s_ends_of noClo M k.toOkJ (.inl rfl) k.ne ho hl
  have e4 := end_last (m := 2) (jobs := jobs) (M := M) hn
  have e5 := ix_ends2 k.toOkJ ho M
  have h2 : (2 : Nat) ≤ sizeLine := by decide
  have e6 : mkT [D.py (nn (mk2 jobs (joh (pr jobs)))), .py (tn (joh (pr jobs)))] = .py (.tuple [nn (mk2 jobs (joh (pr jobs))), tn (joh (pr jobs))]) := rfl
  simp at e1
  simp [f_soonest, runF, d_soonest, startN, e1, e2, e3, e4, e5, h2]
theorem perm_lt {n : Nat} {os : List Nat} (h : os.Perm (List.range n)) : ∀ o ∈ os, o < n := fun o ho => List.mem_range.mp (h.mem_iff.mp ho)
theorem cntB_perm {n : Nat} {os : List Nat} (h : os.Perm (List.range n)) : isOrd n (tn os) = true := by
  have hl : os.length = n := by rw [h.length_eq, List.length_range]
  show (decide ((os.map nn).length = n) && ((os.map nn).all (fun q => isI q 0 ((n : Int) - 1)) && cntB (os.map nn) n)) = true
  have h1 : (os.map nn).all (fun q => isI q 0 ((n : Int) - 1)) = true := by
    rw [List.all_eq_true]
    intro q hq
    obtain ⟨o, ho, rfl⟩ := List.mem_map.mp hq
    have := perm_lt h o ho
    simp [isI_nn]
    omega
  have h2 : ∀ l : List Nat, intsOf (l.map nn) = some (l.map fun (i : Nat) => (i : Int)) := by
    intro l
    induction l with
    | nil => rfl
    | cons x l ih =>
      rw [List.map_cons]
      show (intsOf (l.map nn)).map ((x : Int) :: ·) = _
      rw [ih]
      rfl
  have hnd : (os.map fun (i : Nat) => (i : Int)).Nodup := by
    have := (h.nodup_iff).mpr List.nodup_range
    exact List.Pairwise.map _ (fun a b hab e => hab (Int.ofNat.inj e)) this
  have h3 : ∀ l : List Int, l.Nodup → ddup l = l := by
    intro l
    induction l with
    | nil => intro _; rfl
    | cons x l ih =>
      intro hn
      rw [List.nodup_cons] at hn
      unfold ddup
      rw [if_neg hn.1, ih hn.2]
  have h4 : cntB (os.map nn) n = true := by
    unfold cntB
    rw [h2]
    show ((ddup (os.map fun (i : Nat) => (i : Int))).length == n) = true
    rw [h3 _ hnd]
    simp [hl]
  rw [h1, List.length_map, decide_eq_true hl, h4]
  rfl
theorem s_check_order (C : Clo) (M : Mem) {n : Nat} (hn : n ≤ 30) {os : List Nat} (h : os.Perm (List.range n)) : f_check_order C [.py (nn n), .py (tn os)] M = some (.ok ⟨.py .none, false, M⟩) := by
  simp [f_check_order, runF, d_check_order, startN, s_is_order noClo M hn, cntB_perm h]
theorem s_ends (C : Clo) (M : Mem) {jobs : List (List Nat)} (k : OkT 2 20 jobs) {os : List Nat} (h : os.Perm (List.range jobs.length)) : f_ends C [.py (js jobs), .py (tn os)] M = some (.ok ⟨.py (endD 2 jobs os), false, M⟩) := by
  have e1 := s_check_jobs noClo M k (by omega)
  have hl : jobs.length ≤ 20 := k.mo
  have e2 := s_check_order noClo M (n := jobs.length) (by omega) h
  have e3 : f_ends_of noClo [.py (js jobs), .py (tn os)] M = some (.ok ⟨.py (endD 2 jobs os), false, M⟩) := s_ends_of noClo M k.toOkJ (.inl rfl) k.ne (perm_lt h) (by rw [h.length_eq, List.length_range]; omega)
  have e4 : bi .len [.py (js jobs)] = some (.py (nn jobs.length), false) := by
    unfold js
    rw [len_t, List.length_map] <;> rfl
  simp at e1
  simp [f_ends, runF, d_ends, startN, e1, e2, e3, e4, endD]
theorem s_waits (C : Clo) (M : Mem) {jobs : List (List Nat)} (k : OkT 2 20 jobs) {os : List Nat} (h : os.Perm (List.range jobs.length)) : f_waits C [.py (js jobs), .py (tn os)] M = some (.ok ⟨.py (.int ((mk2 jobs os : Int) - ((pr jobs).map fun p => (p.2 : Int)).sum)), false, M⟩) := by
  have hz : (100 : Nat) ≤ sizeLine := by decide
  have hl : jobs.length ≤ 20 := k.mo
  have hn : os ≠ [] := fun e => by
    have := h.length_eq
    rw [e, List.length_range] at this
    exact k.ne (List.length_eq_zero_iff.mp this.symm)
  have e1 := s_ends noClo M k h
  have e4 := end_last (m := 2) (jobs := jobs) (M := M) hn
  have e5 := ix_ends2 k.toOkJ (perm_lt h) M
  have hc : evE F_waits (lamC F_waits []) c_waits_1 [some (.py (js jobs), false), some (.py (tn os), false), some (.py (endD 2 jobs os), false), none, none] M = some (.ok ⟨.py (.list ((pr jobs).map fun p => .int (p.2 : Int))), .fr, [some (.py (js jobs), false), some (.py (tn os), false), some (.py (endD 2 jobs os), false), none, none], M⟩) :=
    comp_map (fun p => D.py (r2 p)) (fun p => .int (p.2 : Int)) (fun p => [some (.py (js jobs), false), some (.py (tn os), false), some (.py (endD 2 jobs os), false), some (.py (nn p.1), false), some (.py (nn p.2), false)]) (pr jobs) (sm := .sh) (by simp [js_pr k.w]; rfl) (by rw [js_pr k.w]) (by rw [pr_len]; omega) rfl (fun p _ => by simp [r2, tn]) (fun p _ => ⟨.sh, by simp; rfl, rfl⟩) (fun _ _ => rfl) rfl
  have hs := sumi (fun p : Nat × Nat => (p.2 : Int)) (pr jobs)
  have hsub : ∀ (a : Nat) (b : Int), o2 .sub (.py (nn a)) (.py (.int b)) = some (.py (.int ((a : Int) - b)), false) := fun a b => rfl
  simp [f_waits, runF, d_waits, startN, e1, e4, e5, hc, hs, hsub]
end k31

namespace k31
open Ev PySem
/-! all sequences -/
def more (n : Nat) (row : List Nat) : List (List Nat) := ((List.range n).filter fun o => !row.contains o).map fun o => row ++ [o]
def O (n : Nat) : Nat → List (List Nat)
  | 0 => [[]]
  | k + 1 => (O n k).flatMap (more n)
def ORD (n : Nat) : List (List Nat) := O n n
theorem O_mem {n : Nat} : ∀ {k : Nat} {l : List Nat}, l ∈ O n k ↔ l.length = k ∧ l.Nodup ∧ ∀ x ∈ l, x < n
  | 0, l => by
    unfold O
    rw [List.mem_singleton]
    constructor
    · rintro rfl
      exact ⟨rfl, List.nodup_nil, fun _ h => nomatch h⟩
    · intro h
      exact List.length_eq_zero_iff.mp h.1
  | k + 1, l => by
    unfold O
    rw [List.mem_flatMap]
    constructor
    · rintro ⟨r, hr, hl⟩
      obtain ⟨h1, h2, h3⟩ := O_mem.mp hr
      obtain ⟨o, ho, rfl⟩ := List.mem_map.mp hl
      obtain ⟨h4, h5⟩ := List.mem_filter.mp ho
      have h6 : o ∉ r := by simpa using h5
      refine ⟨by rw [List.length_append, h1]; rfl, ?_, fun x hx => ?_⟩
      · rw [List.nodup_append]
        refine ⟨h2, List.nodup_cons.mpr ⟨by simp, List.nodup_nil⟩, fun a ha b hb => ?_⟩
        rw [List.mem_singleton.mp hb]
        exact fun e => h6 (e ▸ ha)
      · rcases List.mem_append.mp hx with h | h
        · exact h3 x h
        · rw [List.mem_singleton.mp h]
          exact List.mem_range.mp h4
    · rintro ⟨h1, h2, h3⟩
      have hne : l ≠ [] := fun e => by rw [e] at h1; cases h1
      obtain ⟨r, o, rfl⟩ : ∃ r o, l = r ++ [o] := ⟨l.dropLast, l.getLast hne, (List.dropLast_concat_getLast hne).symm⟩
      rw [List.nodup_append] at h2
      refine ⟨r, O_mem.mpr ⟨by simpa using h1, h2.1, fun x hx => h3 x (List.mem_append_left _ hx)⟩, ?_⟩
      refine List.mem_map.mpr ⟨o, List.mem_filter.mpr ⟨List.mem_range.mpr (h3 o (by simp)), ?_⟩, rfl⟩
      have : o ∉ r := fun h => h2.2.2 o h o (by simp) rfl
      simpa using this
theorem sub_perm : ∀ {l R : List Nat}, l.Nodup → (∀ x ∈ l, x ∈ R) → R.length ≤ l.length → l.Perm R
  | [], R, _, _, h => by rw [List.length_eq_zero_iff.mp (Nat.le_zero.mp h)]
  | a :: l, R, hn, hs, h => by
    rw [List.nodup_cons] at hn
    have ha := hs a List.mem_cons_self
    have hp := List.perm_cons_erase ha
    refine List.Perm.trans (List.Perm.cons a (sub_perm hn.2 (fun x hx => ?_) ?_)) hp.symm
    · exact (List.mem_erase_of_ne fun e => hn.1 (by rw [← e]; exact hx)).mpr (hs x (List.mem_cons_of_mem _ hx))
    · have := hp.length_eq
      rw [List.length_cons] at this h
      omega
theorem nodup_perm {n : Nat} {l : List Nat} (h1 : l.length = n) (h2 : l.Nodup) (h3 : ∀ x ∈ l, x < n) : l.Perm (List.range n) :=
  sub_perm h2 (fun x hx => List.mem_range.mpr (h3 x hx)) (by rw [List.length_range, h1]; exact Nat.le_refl _)
theorem ORD_of {n : Nat} {l : List Nat} : l ∈ ORD n ↔ l.Perm (List.range n) := by
  unfold ORD
  rw [O_mem]
  constructor
  · rintro ⟨h1, h2, h3⟩
    exact nodup_perm h1 h2 h3
  · intro h
    exact ⟨by rw [h.length_eq, List.length_range], h.nodup_iff.mpr List.nodup_range, perm_lt h⟩
theorem more_len (n : Nat) (r : List Nat) : (more n r).length ≤ n := by
  unfold more
  rw [List.length_map]
  exact Nat.le_trans (List.length_filter_le _ _) (by rw [List.length_range]; exact Nat.le_refl _)
theorem flat_len (n : Nat) : ∀ L : List (List Nat), (L.flatMap (more n)).length ≤ n * L.length
  | [] => Nat.zero_le _
  | r :: L => by
    rw [List.flatMap_cons, List.length_append, List.length_cons, Nat.mul_add]
    have := more_len n r
    have := flat_len n L
    omega
theorem O_len (n : Nat) : ∀ k, (O n k).length ≤ n ^ k
  | 0 => Nat.le_refl _
  | k + 1 => by
    unfold O
    refine Nat.le_trans (flat_len n _) ?_
    rw [Nat.pow_succ, Nat.mul_comm]
    exact Nat.mul_le_mul_right _ (O_len n k)
theorem O_small {n k : Nat} (hn : n ≤ 6) (hk : k ≤ n) : (O n k).length ≤ 46656 := by
  refine Nat.le_trans (O_len n k) (Nat.le_trans (Nat.pow_le_pow_left hn k) ?_)
  exact Nat.le_trans (Nat.pow_le_pow_right (by decide) (show k ≤ 6 by omega)) (by decide)
theorem not_in {l : List Nat} {o : Nat} (h : l.length ≤ 10) (M : Mem) : cm .notin (.py (nn o)) (.py (tn l)) = some (!l.contains o) := by
  have hs : SeqAt.shaped (tn l) = true := by
    have h1 : ∀ l : List Nat, PyData.canLayAll0 (l.map nn) = true := by
      intro l
      induction l with
      | nil => rfl
      | cons x l ih =>
        show ((nn x).canLay0 && PyData.canLayAll0 (l.map nn)) = true
        rw [ih]
        rfl
    have h2 : ∀ l : List Nat, PyData.depthAll (l.map nn) = 0 := by
      intro l
      induction l with
      | nil => rfl
      | cons x l ih =>
        show max (nn x).depth (PyData.depthAll (l.map nn)) = 0
        rw [ih]
        rfl
    show (PyData.canLayAll0 (l.map nn) && decide (PyData.depthAll (l.map nn) + 1 ≤ 64)) = true
    rw [h1, h2]
    rfl
  have h3 : ∀ l : List Nat, ((l.map nn).any fun y => PyData.eqv y (nn o)) = l.contains o := by
    intro l
    induction l with
    | nil => rfl
    | cons x l ih =>
      rw [List.map_cons, List.any_cons, ih, List.contains_cons]
      congr 1
      show PyData.eqv (.int (x : Int)) (.int (o : Int)) = _
      rw [Bool.eq_iff_iff]
      simp [PyData.eqv]
      omega
  show notO (orO inT (orO inL inS) (.py (nn o)) (.py (tn l))) = _
  have h4 : inT (.py (nn o)) (.py (tn l)) = some (l.contains o) := by
    show (if SeqAt.shaped (nn o) && SeqAt.shaped (tn l) then some ((l.map nn).any fun y => PyData.eqv y (nn o)) else none) = _
    rw [hs, h3]
    rfl
  unfold orO
  rw [h4]
  rfl
theorem in_orders (C : Nv → Clo) (M : Mem) {n : Nat} (hn : n ≤ 6) {s1 s2 : Slot} (L : List (List Nat)) (row : List Nat) (hr : row.length ≤ 10) (hL : L.length ≤ 100000) : evSs F_all_orders C b_all_orders_2 [some (.py (nn n), false), s1, s2, some (.py (.list (L.map tn)), true), some (.py (tn row), false), none] M = some (.ok (.nx [some (.py (nn n), false), s1, s2, some (.py (.list ((L ++ more n row).map tn)), true), some (.py (tn row), false), none] M)) := by
  have hz : (200000 : Nat) ≤ sizeLine := by decide
  have er : rngL 0 (n : Int) 1 = some ((List.range n).map fun (i : Nat) => D.py (nn i)) := rngL_up (by omega)
  have hc : evE F_all_orders C c_all_orders_1 [some (.py (nn n), false), s1, s2, some (.py (.list (L.map tn)), true), some (.py (tn row), false), none] M = some (.ok ⟨.py (.list (((List.range n).filter fun o => !row.contains o).map fun o => tn (row ++ [o]))), .fr, [some (.py (nn n), false), s1, s2, some (.py (.list (L.map tn)), true), some (.py (tn row), false), none], M⟩) :=
    comp_filter (fun o => D.py (nn o)) (fun o => !row.contains o) (fun o => tn (row ++ [o])) (fun o => [some (.py (nn n), false), s1, s2, some (.py (.list (L.map tn)), true), some (.py (tn row), false), some (.py (nn o), false)]) (List.range n) (sd := .ml ((List.range n).map fun (i : Nat) => D.py (nn i))) (sm := .sh) (by simp [er]) (by simp) (by rw [List.length_range]; omega) rfl (fun _ _ => rfl) (fun o _ => ⟨.py (.bool (!row.contains o)), by simp [not_in hr M], rfl⟩) (fun o _ _ => ⟨.sh, by
      have e : mkT ((row.map fun t => D.py (nn t)) ++ [D.py (nn o)]) = .py (tn (row ++ [o])) := by
        have : (row.map fun t => D.py (nn t)) ++ [D.py (nn o)] = ((row ++ [o]).map nn).map D.py := by simp
        rw [this]
        exact mkT_py (all_map _)
      have e2 : ((row.map fun t => D.py (nn t)).map fun x => (x, Md.sh)).map (fun x => x.1) = (row.map fun t => D.py (nn t)) := by simp
      have e3 : ∀ ρ, fzs (((row.map fun t => D.py (nn t)).map fun x => (x, Md.sh)) ++ [(D.py (nn o), Md.sh)]) ρ = ρ := fun ρ => by
        rw [fzs_shs (fun d => d)]
        rfl
      simp only [e_tup, l_star, l_cons, l_nil, e_var, List.getElem?_cons_zero, List.getElem?_cons_succ, vget_f, bz_ok, it_tn, ob_s, e3, List.map_append, e2, List.map_cons, List.map_nil, e, List.length_append, List.length_map, List.length_cons, List.length_nil]
      rw [if_pos (by omega)], rfl⟩) (fun _ _ => rfl) rfl
  have hm : (((List.range n).filter fun o => !row.contains o).map fun o => tn (row ++ [o])) = (more n row).map tn := by
    unfold more
    rw [List.map_map]
    rfl
  rw [hm] at hc
  have := more_len n row
  simp [-List.map_append, b_all_orders_2, hc, show L.length + (more n row).length ≤ sizeLine from by omega, List.map_append]
theorem in_lorders (C : Nv → Clo) (M : Mem) {n : Nat} (hn : n ≤ 6) {s1 s2 : Slot} (L : List (List Nat)) (row : List Nat) (hr : row.length ≤ 10) (hL : L.length ≤ 100000) : evSs F_law_orders C b_law_orders_2 [some (.py (nn n), false), s1, s2, some (.py (.list (L.map tn)), true), some (.py (tn row), false), none] M = some (.ok (.nx [some (.py (nn n), false), s1, s2, some (.py (.list ((L ++ more n row).map tn)), true), some (.py (tn row), false), none] M)) := by
  have hz : (200000 : Nat) ≤ sizeLine := by decide
  have er : rngL 0 (n : Int) 1 = some ((List.range n).map fun (i : Nat) => D.py (nn i)) := rngL_up (by omega)
  have hc : evE F_law_orders C c_law_orders_1 [some (.py (nn n), false), s1, s2, some (.py (.list (L.map tn)), true), some (.py (tn row), false), none] M = some (.ok ⟨.py (.list (((List.range n).filter fun o => !row.contains o).map fun o => tn (row ++ [o]))), .fr, [some (.py (nn n), false), s1, s2, some (.py (.list (L.map tn)), true), some (.py (tn row), false), none], M⟩) :=
    comp_filter (fun o => D.py (nn o)) (fun o => !row.contains o) (fun o => tn (row ++ [o])) (fun o => [some (.py (nn n), false), s1, s2, some (.py (.list (L.map tn)), true), some (.py (tn row), false), some (.py (nn o), false)]) (List.range n) (sd := .ml ((List.range n).map fun (i : Nat) => D.py (nn i))) (sm := .sh) (by simp [er]) (by simp) (by rw [List.length_range]; omega) rfl (fun _ _ => rfl) (fun o _ => ⟨.py (.bool (!row.contains o)), by simp [not_in hr M], rfl⟩) (fun o _ _ => ⟨.sh, by
      have e : o2 .add (.py (tn row)) (.py (.tuple [nn o])) = some (.py (tn (row ++ [o])), false) := by
        unfold tn
        rw [add_t, if_pos (by simp; omega), List.map_append] <;> rfl
      have e1 : mkT [D.py (nn o)] = .py (.tuple [nn o]) := rfl
      simp [e, e1, show (1 : Nat) ≤ sizeLine from by omega], rfl⟩) (fun _ _ => rfl) rfl
  have hm : (((List.range n).filter fun o => !row.contains o).map fun o => tn (row ++ [o])) = (more n row).map tn := by
    unfold more
    rw [List.map_map]
    rfl
  rw [hm] at hc
  have := more_len n row
  simp [-List.map_append, b_law_orders_2, hc, show L.length + (more n row).length ≤ sizeLine from by omega, List.map_append]
theorem mid_orders (C : Nv → Clo) (M : Mem) {n : Nat} (hn : n ≤ 6) {s1 s2 : Slot} : ∀ (rows L : List (List Nat)) (s4 : Slot), (∀ r ∈ rows, r.length ≤ 10) → L.length + n * rows.length ≤ 100000 → ∃ t4 : Slot,
    forE F_all_orders C (.nm 4) b_all_orders_2 (rows.map fun r => D.py (tn r)) [some (.py (nn n), false), s1, s2, some (.py (.list (L.map tn)), true), s4, none] M = some (.ok (.nx [some (.py (nn n), false), s1, s2, some (.py (.list ((L ++ rows.flatMap (more n)).map tn)), true), t4, none] M))
  | [], L, s4, _, _ => ⟨s4, by simp⟩
  | r :: rows, L, s4, hr, hL => by
    have h0 := more_len n r
    rw [List.length_cons, Nat.mul_add] at hL
    obtain ⟨t4, ih⟩ := mid_orders C M hn (s1 := s1) (s2 := s2) rows (L ++ more n r) (some (.py (tn r), false)) (fun q hq => hr q (List.mem_cons_of_mem _ hq)) (by rw [List.length_append]; omega)
    refine ⟨t4, ?_⟩
    have e := in_orders C M hn (s1 := s1) (s2 := s2) L r (hr r List.mem_cons_self) (by omega)
    rw [List.flatMap_cons, ← List.append_assoc, ← ih, List.map_cons, forE_cons, bd_nm, ob_s]
    simp only [List.set_cons_succ, List.set_cons_zero]
    rw [e, bz_ok]
theorem mid_lorders (C : Nv → Clo) (M : Mem) {n : Nat} (hn : n ≤ 6) {s1 s2 : Slot} : ∀ (rows L : List (List Nat)) (s4 : Slot), (∀ r ∈ rows, r.length ≤ 10) → L.length + n * rows.length ≤ 100000 → ∃ t4 : Slot,
    forE F_law_orders C (.nm 4) b_law_orders_2 (rows.map fun r => D.py (tn r)) [some (.py (nn n), false), s1, s2, some (.py (.list (L.map tn)), true), s4, none] M = some (.ok (.nx [some (.py (nn n), false), s1, s2, some (.py (.list ((L ++ rows.flatMap (more n)).map tn)), true), t4, none] M))
  | [], L, s4, _, _ => ⟨s4, by simp⟩
  | r :: rows, L, s4, hr, hL => by
    have h0 := more_len n r
    rw [List.length_cons, Nat.mul_add] at hL
    obtain ⟨t4, ih⟩ := mid_lorders C M hn (s1 := s1) (s2 := s2) rows (L ++ more n r) (some (.py (tn r), false)) (fun q hq => hr q (List.mem_cons_of_mem _ hq)) (by rw [List.length_append]; omega)
    refine ⟨t4, ?_⟩
    have e := in_lorders C M hn (s1 := s1) (s2 := s2) L r (hr r List.mem_cons_self) (by omega)
    rw [List.flatMap_cons, ← List.append_assoc, ← ih, List.map_cons, forE_cons, bd_nm, ob_s]
    simp only [List.set_cons_succ, List.set_cons_zero]
    rw [e, bz_ok]
theorem it_ltn (L : List (List Nat)) : items (.py (.list (L.map tn))) = some (L.map fun r => D.py (tn r)) := by rw [it_l, List.map_map]; rfl
/-- one lap more -/
theorem lap_orders (C : Nv → Clo) (M : Mem) {n k : Nat} (hn : n ≤ 6) (hk : k < n) (b : Bool) (s2 s3 s4 : Slot) : ∃ t3 t4 : Slot,
    evSs F_all_orders C b_all_orders_1 [some (.py (nn n), false), some (.py (.list ((O n k).map tn)), b), s2, s3, s4, none] M = some (.ok (.nx [some (.py (nn n), false), some (.py (.list ((O n (k + 1)).map tn)), false), s2, t3, t4, none] M)) := by
  have h1 : (O n k).length ≤ 7776 := by
    refine Nat.le_trans (O_len n k) (Nat.le_trans (Nat.pow_le_pow_left hn k) ?_)
    exact Nat.le_trans (Nat.pow_le_pow_right (by decide) (show k ≤ 5 by omega)) (by decide)
  have h2 : n * (O n k).length ≤ 6 * 7776 := Nat.mul_le_mul hn h1
  obtain ⟨t4, e⟩ := mid_orders C M hn (s1 := some (.py (.list ((O n k).map tn)), false)) (s2 := s2) (O n k) [] s4 (fun r hr => by
    have := (O_mem.mp hr).1
    omega) (by rw [List.length_nil]; omega)
  rw [List.nil_append, List.map_nil] at e
  refine ⟨some (.py (.list ((O n (k + 1)).map tn)), false), t4, ?_⟩
  have hO : (O n k).flatMap (more n) = O n (k + 1) := rfl
  rw [hO] at e
  cases b <;> simp [b_all_orders_1, l_all_orders_2, Function.comp_def, e]
theorem lap_lorders (C : Nv → Clo) (M : Mem) {n k : Nat} (hn : n ≤ 6) (hk : k < n) (b : Bool) (s2 s3 s4 : Slot) : ∃ t3 t4 : Slot,
    evSs F_law_orders C b_law_orders_1 [some (.py (nn n), false), some (.py (.list ((O n k).map tn)), b), s2, s3, s4, none] M = some (.ok (.nx [some (.py (nn n), false), some (.py (.list ((O n (k + 1)).map tn)), false), s2, t3, t4, none] M)) := by
  have h1 : (O n k).length ≤ 7776 := by
    refine Nat.le_trans (O_len n k) (Nat.le_trans (Nat.pow_le_pow_left hn k) ?_)
    exact Nat.le_trans (Nat.pow_le_pow_right (by decide) (show k ≤ 5 by omega)) (by decide)
  have h2 : n * (O n k).length ≤ 6 * 7776 := Nat.mul_le_mul hn h1
  obtain ⟨t4, e⟩ := mid_lorders C M hn (s1 := some (.py (.list ((O n k).map tn)), false)) (s2 := s2) (O n k) [] s4 (fun r hr => by
    have := (O_mem.mp hr).1
    omega) (by rw [List.length_nil]; omega)
  rw [List.nil_append, List.map_nil] at e
  refine ⟨some (.py (.list ((O n (k + 1)).map tn)), false), t4, ?_⟩
  have hO : (O n k).flatMap (more n) = O n (k + 1) := rfl
  rw [hO] at e
  cases b <;> simp [b_law_orders_1, l_law_orders_2, Function.comp_def, e]
theorem rng_one {n k : Nat} {done rest : List Nat} (e : List.range n = done ++ k :: rest) : k = done.length ∧ k < n := by
  have h := congrArg (fun l => l[done.length]?) e
  simp only [List.getElem?_append_right (Nat.le_refl _), Nat.sub_self, List.getElem?_cons_zero] at h
  have hl : done.length < n := by
    have := congrArg List.length e
    simp at this
    omega
  rw [List.getElem?_range hl] at h
  cases h
  exact ⟨rfl, hl⟩
theorem s_all_orders (C : Clo) (M : Mem) {n : Nat} (h0 : 0 < n) (hn : n ≤ 6) : f_all_orders C [.py (nn n)] M = some (.ok ⟨.py (.list ((ORD n).map tn)), false, M⟩) := by
  have hz : (200000 : Nat) ≤ sizeLine := by decide
  have er : rngL 0 (n : Int) 1 = some ((List.range n).map fun (i : Nat) => D.py (nn i)) := rngL_up (by omega)
  obtain ⟨ρ', M', e, b, s2, s3, s4, h1, h2, h3⟩ := forE_inv (Fs := F_all_orders) (C := lamC F_all_orders []) (t := .nm 2) (body := b_all_orders_1) (fun i : Nat => D.py (nn i)) (fun done ρ M1 => ∃ b s2 s3 s4, ρ = [some (.py (nn n), false), some (.py (.list ((O n done.length).map tn)), b), s2, s3, s4, none] ∧ M1 = M ∧ (done ≠ [] → b = false)) (List.range n)
    [some (.py (nn n), false), some (.py (.list ((O n 0).map tn)), true), none, none, none, none] M ⟨true, none, none, none, rfl, rfl, fun h => absurd rfl h⟩
    (fun done x rest ρ M1 e ⟨b, s2, s3, s4, h1, h2, h3⟩ => by
      subst h1 h2
      obtain ⟨rfl, hx⟩ := rng_one e
      obtain ⟨t3, t4, e2⟩ := lap_orders (lamC F_all_orders []) M1 hn hx b (some (.py (nn done.length), false)) s3 s4
      refine ⟨_, rfl, _, _, e2, false, some (.py (nn done.length), false), t3, t4, ?_, rfl, fun _ => rfl⟩
      rw [List.length_append, List.length_singleton])
  subst h1 h2
  rw [h3 (by
    intro h
    have := congrArg List.length h
    simp at this
    omega)] at e
  rw [List.length_range] at e
  have e00 : (O n 0).map tn = [.tuple []] := rfl
  rw [e00] at e
  simp [f_all_orders, runF, d_all_orders, startN, l_all_orders_1, er, e, ORD, show (0 : Nat) ≤ sizeLine from by omega, show (1 : Nat) ≤ sizeLine from by omega]
theorem s_law_orders (C : Clo) (M : Mem) {n : Nat} (h0 : 0 < n) (hn : n ≤ 6) : f_law_orders C [.py (nn n)] M = some (.ok ⟨.py (.list ((ORD n).map tn)), false, M⟩) := by
  have hz : (200000 : Nat) ≤ sizeLine := by decide
  have er : rngL 0 (n : Int) 1 = some ((List.range n).map fun (i : Nat) => D.py (nn i)) := rngL_up (by omega)
  obtain ⟨ρ', M', e, b, s2, s3, s4, h1, h2, h3⟩ := forE_inv (Fs := F_law_orders) (C := lamC F_law_orders []) (t := .nm 2) (body := b_law_orders_1) (fun i : Nat => D.py (nn i)) (fun done ρ M1 => ∃ b s2 s3 s4, ρ = [some (.py (nn n), false), some (.py (.list ((O n done.length).map tn)), b), s2, s3, s4, none] ∧ M1 = M ∧ (done ≠ [] → b = false)) (List.range n)
    [some (.py (nn n), false), some (.py (.list ((O n 0).map tn)), true), none, none, none, none] M ⟨true, none, none, none, rfl, rfl, fun h => absurd rfl h⟩
    (fun done x rest ρ M1 e ⟨b, s2, s3, s4, h1, h2, h3⟩ => by
      subst h1 h2
      obtain ⟨rfl, hx⟩ := rng_one e
      obtain ⟨t3, t4, e2⟩ := lap_lorders (lamC F_law_orders []) M1 hn hx b (some (.py (nn done.length), false)) s3 s4
      refine ⟨_, rfl, _, _, e2, false, some (.py (nn done.length), false), t3, t4, ?_, rfl, fun _ => rfl⟩
      rw [List.length_append, List.length_singleton])
  subst h1 h2
  rw [h3 (by
    intro h
    have := congrArg List.length h
    simp at this
    omega)] at e
  rw [List.length_range] at e
  have e00 : (O n 0).map tn = [.tuple []] := rfl
  rw [e00] at e
  simp [f_law_orders, runF, d_law_orders, startN, l_law_orders_1, er, e, ORD, show (0 : Nat) ≤ sizeLine from by omega, show (1 : Nat) ≤ sizeLine from by omega]
end k31

namespace k31
open Ev PySem
theorem ddup_le : ∀ l : List Int, (ddup l).length ≤ l.length
  | [] => Nat.le_refl _
  | x :: l => by
    unfold ddup
    have := ddup_le l
    split
    · rw [List.length_cons]
      omega
    · rw [List.length_cons, List.length_cons]
      omega
theorem ddup_nd : ∀ l : List Int, (ddup l).length = l.length → l.Nodup
  | [], _ => List.nodup_nil
  | x :: l, h => by
    unfold ddup at h
    have := ddup_le l
    split at h
    · rw [List.length_cons] at h
      omega
    · rename_i hx
      rw [List.length_cons, List.length_cons] at h
      exact List.nodup_cons.mpr ⟨hx, ddup_nd l (by omega)⟩
theorem isOrd_is {n : Nat} {p : PyData} (h : isOrd n p = true) : ∃ os : List Nat, p = tn os ∧ os.Perm (List.range n) := by
  cases p with
  | tuple ps =>
    unfold isOrd at h
    simp only [Bool.and_eq_true, decide_eq_true_eq] at h
    obtain ⟨hl, ha, hc⟩ := h
    obtain ⟨ns, h1, h2, h3⟩ := ints_all ha
    unfold cntB at hc
    rw [h1] at hc
    simp only [beq_iff_eq] at hc
    have hnl : ns.length = n := by
      have := congrArg List.length h2
      rw [List.length_map] at this
      omega
    have hnd := ddup_nd ns (by omega)
    refine ⟨ns.map Int.toNat, ?_, nodup_perm (by rw [List.length_map, hnl]) ?_ ?_⟩
    · unfold tn
      rw [h2, List.map_map]
      congr 1
      refine List.map_congr_left fun i hi => ?_
      have := (h3 i hi).1
      show PyData.int i = .int ((i.toNat : Nat) : Int)
      rw [Int.toNat_of_nonneg this]
    · unfold List.Nodup
      rw [List.pairwise_map]
      refine List.Pairwise.imp_of_mem (fun {a b} ha hb hab e => hab ?_) hnd
      have h4 := (h3 a ha).1
      have h5 := (h3 b hb).1
      omega
    · intro x hx
      obtain ⟨i, hi, rfl⟩ := List.mem_map.mp hx
      have := h3 i hi
      omega
  | _ => cases h
def natD : PyData → List Nat
  | .tuple ps => ps.map fun p => match p with
    | .int i => i.toNat
    | _ => 0
  | _ => []
theorem natD_tn (os : List Nat) : natD (tn os) = os := by
  show (os.map nn).map _ = os
  rw [List.map_map]
  conv => rhs; rw [← List.map_id os]
  exact List.map_congr_left fun o _ => Int.toNat_natCast o
def dueB (jobs : List (List Nat)) (T : Nat) (p : PyData) : Bool := match p with
  | .tuple [t, o] => isOrd jobs.length o && (isI t T T && decide (mk2 jobs (natD o) = T))
  | _ => false
theorem len_js (jobs : List (List Nat)) : bi .len [.py (js jobs)] = some (.py (nn jobs.length), false) := by
  unfold js
  rw [len_t, List.length_map] <;> rfl
theorem eq_nn (a b : Nat) : cm .eq (.py (nn a)) (.py (nn b)) = some (decide (a = b)) := by
  show some ((a : Int) == (b : Int)) = _
  congr 1
  rw [Bool.eq_iff_iff]
  simp
  omega
theorem perm_ne {n : Nat} {os : List Nat} (h : os.Perm (List.range n)) (h0 : 0 < n) : os ≠ [] := fun e => by
  have := h.length_eq
  rw [e, List.length_range] at this
  simp at this
  omega
theorem isT2 (p : PyData) (h : ∀ t o, p ≠ .tuple [t, o]) : isT p 2 2 = false := by
  cases p with
  | tuple ps =>
    match ps, h with
    | [], _ => rfl
    | [_], _ => rfl
    | [t, o], h => exact absurd rfl (h t o)
    | a :: b :: c :: l, _ =>
      show (decide ((2 : Int) ≤ ((a :: b :: c :: l).length : Nat)) && decide (((a :: b :: c :: l).length : Nat) ≤ (2 : Int))) = false
      simp
      omega
  | _ => rfl
def best (jobs : List (List Nat)) : Nat := mk2 jobs (joh (pr jobs))
theorem dueB_no {jobs : List (List Nat)} {T : Nat} {p : PyData} (h : ∀ t o, p ≠ .tuple [t, o]) : dueB jobs T p = false := by
  unfold dueB
  split
  · rename_i t o
    exact absurd rfl (h t o)
  · rfl
theorem ends2 (M : Mem) {jobs : List (List Nat)} (k : OkT 2 20 jobs) {os : List Nat} (h : os.Perm (List.range jobs.length)) : f_ends_of noClo [.py (js jobs), .py (tn os)] M = some (.ok ⟨.py (endD 2 jobs os), false, M⟩) :=
  s_ends_of noClo M k.toOkJ (.inl rfl) k.ne (perm_lt h) (by rw [h.length_eq, List.length_range]; have := k.mo; omega)
theorem s_shows (C : Clo) (M : Mem) {jobs : List (List Nat)} (k : OkT 2 20 jobs) (p : PyData) : f_shows_soonest C [.py (js jobs), .py p] M = some (.ok ⟨.py (.bool (dueB jobs (best jobs) p)), false, M⟩) := by
  have e1 : f_soonest noClo [.py (js jobs)] M = some (.ok ⟨.py (.tuple [nn (best jobs), tn (joh (pr jobs))]), false, M⟩) := s_soonest noClo M k
  generalize best jobs = T at e1 ⊢
  have e2 : f_is_tuple noClo [.py p, .py (.int 2), .py (.int 2)] M = some (.ok ⟨.py (.bool (isT p 2 2)), false, M⟩) := s_is_tuple noClo M p 2 2
  have e5 := len_js jobs
  by_cases h : ∃ t o, p = .tuple [t, o]
  · obtain ⟨t, o, rfl⟩ := h
    have e3 := s_is_order noClo M (n := jobs.length) (by have := k.mo; omega) o
    have e4 : f_is_integer noClo [.py t, .py (nn T), .py (nn T)] M = some (.ok ⟨.py (.bool (isI t T T)), false, M⟩) := s_is_integer noClo M t T T
    have e6 : isT (.tuple [t, o]) 2 2 = true := rfl
    rw [e6] at e2
    cases ho : isOrd jobs.length o with
    | false =>
      rw [ho] at e3
      simp [f_shows_soonest, runF, d_shows_soonest, startN, e1, e2, e3, e5, dueB, ho]
    | true =>
      rw [ho] at e3
      obtain ⟨os, rfl, hp⟩ := isOrd_is ho
      cases hi : isI t T T with
      | false =>
        rw [hi] at e4
        simp [f_shows_soonest, runF, d_shows_soonest, startN, e1, e2, e3, e4, e5, dueB, ho, hi]
      | true =>
        rw [hi] at e4
        have e7 := ends2 M k hp
        have e8 := end_last (m := 2) (jobs := jobs) (M := M) (perm_ne hp (List.length_pos_iff.mpr k.ne))
        have e9 := ix_ends2 k.toOkJ (perm_lt hp) M
        simp [f_shows_soonest, runF, d_shows_soonest, startN, e1, e2, e3, e4, e5, e7, e8, e9, dueB, ho, hi, eq_nn, natD_tn]
  · have h' : ∀ t o, p ≠ .tuple [t, o] := fun t o e => h ⟨t, o, e⟩
    rw [isT2 p h'] at e2
    simp [f_shows_soonest, runF, d_shows_soonest, startN, e1, e2, dueB_no h']
end k31

namespace k31
open Ev PySem
/-! ints, sorted -/
def insI (a : Int) : List Int → List Int
  | [] => [a]
  | b :: bs => if a ≤ b then a :: b :: bs else b :: insI a bs
def sortI : List Int → List Int
  | [] => []
  | x :: xs => insI x (sortI xs)
theorem dle_i (a b : Int) : W.dataLe false id (.int a) (.int b) = decide (a ≤ b) := by
  have e : W.dataLt (.int b) (.int a) = decide (b < a) := W.dataLt_int b a
  show (!W.dataLt (.int b) (.int a)) = _
  rw [e, Bool.eq_iff_iff]
  simp
theorem insD_i (a : Int) : ∀ L : List Int, insD (.int a) (L.map .int) = (insI a L).map .int
  | [] => rfl
  | b :: bs => by
    rw [List.map_cons]
    unfold insD insI
    rw [dle_i, insD_i a bs]
    by_cases h : a ≤ b
    · rw [if_pos h, if_pos (decide_eq_true h)] <;> rfl
    · rw [if_neg h, if_neg (by simp [h])] <;> rfl
theorem sortD_i : ∀ L : List Int, sortD (L.map .int) = (sortI L).map .int
  | [] => rfl
  | x :: xs => by
    rw [List.map_cons]
    unfold sortD sortI
    rw [sortD_i xs, insD_i]
theorem insI_perm (a : Int) : ∀ L : List Int, (insI a L).Perm (a :: L)
  | [] => List.Perm.refl _
  | b :: bs => by
    unfold insI
    split
    · exact List.Perm.refl _
    · exact ((insI_perm a bs).cons b).trans (List.Perm.swap a b bs)
theorem sortI_perm : ∀ L : List Int, (sortI L).Perm L
  | [] => List.Perm.refl _
  | x :: xs => (insI_perm x (sortI xs)).trans ((sortI_perm xs).cons x)
theorem insI_pw (a : Int) : ∀ {L : List Int}, L.Pairwise (· ≤ ·) → (insI a L).Pairwise (· ≤ ·)
  | [], _ => List.pairwise_singleton _ _
  | b :: bs, h => by
    rw [List.pairwise_cons] at h
    unfold insI
    split
    · rename_i hab
      refine List.pairwise_cons.mpr ⟨fun c hc => ?_, List.pairwise_cons.mpr h⟩
      rcases List.mem_cons.mp hc with e | e
      · rw [e]
        exact hab
      · have := h.1 c e
        omega
    · rename_i hab
      refine List.pairwise_cons.mpr ⟨fun c hc => ?_, insI_pw a h.2⟩
      rcases List.mem_cons.mp ((insI_perm a bs).mem_iff.mp hc) with e | e
      · rw [e]
        omega
      · exact h.1 c e
theorem sortI_pw : ∀ L : List Int, (sortI L).Pairwise (· ≤ ·)
  | [] => List.Pairwise.nil
  | x :: xs => insI_pw x (sortI_pw xs)
theorem pw_eq : ∀ {l m : List Int}, l.Perm m → l.Pairwise (· ≤ ·) → m.Pairwise (· ≤ ·) → l = m
  | [], m, h, _, _ => (h.symm.eq_nil).symm
  | a :: l, [], h, _, _ => absurd h.eq_nil (by simp)
  | a :: l, b :: m, h, h1, h2 => by
    rw [List.pairwise_cons] at h1 h2
    have ha : a ∈ b :: m := h.mem_iff.mp List.mem_cons_self
    have hb : b ∈ a :: l := h.mem_iff.mpr List.mem_cons_self
    have e : a = b := by
      rcases List.mem_cons.mp ha with e | e
      · exact e
      · rcases List.mem_cons.mp hb with e2 | e2
        · exact e2.symm
        · have := h1.1 b e2
          have := h2.1 a e
          omega
    subst e
    rw [pw_eq h.cons_inv h1.2 h2.2]
def rngI (n : Nat) : List Int := (List.range n).map fun (i : Nat) => (i : Int)
theorem rngI_pw (n : Nat) : (rngI n).Pairwise (· ≤ ·) := by
  unfold rngI
  rw [List.pairwise_map]
  exact List.pairwise_lt_range.imp fun h => by omega
theorem sortI_eq {n : Nat} {ns : List Int} : sortI ns = rngI n ↔ ns.Perm (rngI n) := by
  constructor
  · intro h
    exact (sortI_perm ns).symm.trans (h ▸ List.Perm.refl _)
  · intro h
    exact pw_eq ((sortI_perm ns).trans h) (sortI_pw ns) (rngI_pw n)
theorem sorted_i (L : List Int) : bi .sorted [.py (.tuple (L.map .int))] = some (.py (.list ((sortI L).map .int)), true) := by
  have h1 : alikeL (L.map .int) = true := by
    unfold alikeL
    rw [List.all_eq_true]
    intro a ha
    obtain ⟨l, _, rfl⟩ := List.mem_map.mp ha
    rw [Bool.and_eq_true, List.all_eq_true]
    refine ⟨rfl, fun b hb => ?_⟩
    obtain ⟨m, _, rfl⟩ := List.mem_map.mp hb
    simp [W.alike]
  have h2 : ((L.map PyData.int).all isTupP || (L.map PyData.int).all noTupP) = true := by
    rw [Bool.or_eq_true]
    right
    rw [List.all_eq_true]
    intro a ha
    obtain ⟨l, _, rfl⟩ := List.mem_map.mp ha
    rfl
  have h3 : ∀ L : List Int, PyData.depthAll (L.map .int) = 0 := by
    intro L
    induction L with
    | nil => rfl
    | cons l L ih =>
      rw [List.map_cons]
      show max (PyData.int l).depth (PyData.depthAll (L.map .int)) = 0
      rw [ih]
      rfl
  have h4 : okL (L.map .int) = true := by
    unfold okL
    rw [h3]
    rfl
  show (if alikeL (L.map .int) && ((L.map .int).all isTupP || (L.map .int).all noTupP) && okL (L.map .int) then some (D.py (.list (sortD (L.map .int))), true) else none) = _
  rw [h1, h2, h4, sortD_i]
  rfl
theorem eqv_i : ∀ A B : List Int, PyData.eqvAll (A.map .int) (B.map .int) = decide (A = B)
  | [], [] => rfl
  | [], _ :: _ => rfl
  | _ :: _, [] => rfl
  | a :: A, b :: B => by
    rw [List.map_cons, List.map_cons]
    simp [PyData.eqvAll, PyData.eqv, eqv_i A B, Bool.beq_eq_decide_eq]
theorem shaped_i (A : List Int) : SeqAt.shaped (.list (A.map .int)) = true := by
  have h1 : ∀ l : List Int, PyData.canLayAll0 (l.map .int) = true := by
    intro l
    induction l with
    | nil => rfl
    | cons x l ih =>
      show ((PyData.int x).canLay0 && PyData.canLayAll0 (l.map .int)) = true
      rw [ih]
      rfl
  have h2 : ∀ l : List Int, PyData.depthAll (l.map .int) = 0 := by
    intro l
    induction l with
    | nil => rfl
    | cons x l ih =>
      show max (PyData.int x).depth (PyData.depthAll (l.map .int)) = 0
      rw [ih]
      rfl
  show (PyData.canLayAll0 (A.map .int) && decide (PyData.depthAll (A.map .int) + 1 ≤ 64)) = true
  rw [h1, h2]
  rfl
theorem eq_il (A B : List Int) : cm .eq (.py (.list (A.map .int))) (.py (.list (B.map .int))) = some (decide (A = B)) := by
  show (if SeqAt.shaped (.list (A.map .int)) && SeqAt.shaped (.list (B.map .int)) then some (PyData.eqv (.list (A.map .int)) (.list (B.map .int))) else none) = _
  rw [shaped_i, shaped_i, ← eqv_i]
  rfl
/-- values whose sequence is short -/
def Sm (p : PyData) : Prop := ∀ t qs, p = .tuple [t, .tuple qs] → qs.length ≤ 100
theorem isOrd_i {n : Nat} {ns : List Int} : isOrd n (.tuple (ns.map .int)) = true ↔ ns.Perm (rngI n) := by
  constructor
  · intro h
    obtain ⟨os, e, hp⟩ := isOrd_is h
    have e2 : ns = os.map fun (i : Nat) => (i : Int) := by
      have e3 : (os.map nn) = (os.map fun (i : Nat) => (i : Int)).map PyData.int := by rw [List.map_map]; rfl
      unfold tn at e
      rw [e3] at e
      exact List.map_inj_right (fun a b h => PyData.int.inj h) |>.mp (PyData.tuple.inj e)
    rw [e2]
    exact hp.map _
  · intro h
    have hp : (ns.map Int.toNat).Perm (List.range n) := by
      have := h.map Int.toNat
      have e : (rngI n).map Int.toNat = List.range n := by
        unfold rngI
        rw [List.map_map]
        conv => rhs; rw [← List.map_id (List.range n)]
        exact List.map_congr_left fun o _ => Int.toNat_natCast o
      rwa [e] at this
    have e : PyData.tuple (ns.map .int) = tn (ns.map Int.toNat) := by
      unfold tn
      rw [List.map_map]
      congr 1
      refine List.map_congr_left fun i hi => ?_
      obtain ⟨j, _, rfl⟩ := List.mem_map.mp (h.mem_iff.mp hi)
      rfl
    rw [e]
    exact cntB_perm hp
theorem lends2 (M : Mem) {jobs : List (List Nat)} (k : OkT 2 20 jobs) {os : List Nat} (h : os.Perm (List.range jobs.length)) : f_law_ends noClo [.py (js jobs), .py (tn os)] M = some (.ok ⟨.py (endD 2 jobs os), false, M⟩) :=
  s_law_ends noClo M k.toOkJ (.inl rfl) k.ne (perm_lt h) (by rw [h.length_eq, List.length_range]; have := k.mo; omega)
theorem s_due (C : Clo) (M : Mem) {jobs : List (List Nat)} (k : OkT 2 20 jobs) (T : Nat) {p : PyData} (hs : Sm p) : f_law_due C [.py (js jobs), .py (nn T), .py p] M = some (.ok ⟨.py (.bool (dueB jobs T p)), false, M⟩) := by
  have hz : (100 : Nat) ≤ sizeLine := by decide
  have hmo := k.mo
  have e5 := len_js jobs
  cases p with
  | tuple ps =>
    by_cases hl : ∃ t o, ps = [t, o]
    · obtain ⟨t, o, rfl⟩ := hl
      have e4 : f_law_is_int noClo [.py t, .py (nn T), .py (nn T)] M = some (.ok ⟨.py (.bool (isI t T T)), false, M⟩) := s_law_is_int noClo M t T T
      cases hi : isI t T T with
      | false =>
        rw [hi] at e4
        simp [f_law_due, runF, d_law_due, startN, Ev.isi, e4, dueB, hi]
      | true =>
        rw [hi] at e4
        cases o with
        | tuple qs =>
          have hq := hs t qs rfl
          have hsub : o2 .sub (.py (nn jobs.length)) (.py (.int 1)) = some (.py (.int ((jobs.length : Int) - 1)), false) := rfl
          have hc : evE F_law_due (lamC F_law_due d_law_due.lams) c_law_due_1 [some (.py (js jobs), false), some (.py (nn T), false), some (.py (.tuple [t, .tuple qs]), false), none] M = some (.ok ⟨.py (.list (qs.map fun x => .bool (isI x 0 ((jobs.length : Int) - 1)))), .fr, [some (.py (js jobs), false), some (.py (nn T), false), some (.py (.tuple [t, .tuple qs]), false), none], M⟩) :=
            comp_map D.py (fun x => .bool (isI x 0 ((jobs.length : Int) - 1))) (fun x => [some (.py (js jobs), false), some (.py (nn T), false), some (.py (.tuple [t, .tuple qs]), false), some (.py x, false)]) qs (sd := .py (.tuple qs)) (sm := .sh) (by simp) (by simp) (by omega) rfl (fun _ _ => rfl) (fun _ _ => ⟨.sh, by simp [s_law_is_int, hsub, e5], rfl⟩) (fun _ _ => rfl) rfl
          have ha := allb (fun x : PyData => isI x 0 ((jobs.length : Int) - 1)) qs
          rw [show d_law_due.lams = [] from rfl] at hc
          cases hall : qs.all (fun x => isI x 0 ((jobs.length : Int) - 1)) with
          | false =>
            rw [hall] at ha
            have hd : isOrd jobs.length (.tuple qs) = false := by
              show (decide (qs.length = jobs.length) && (qs.all (fun x => isI x 0 ((jobs.length : Int) - 1)) && cntB qs jobs.length)) = false
              rw [hall]
              simp
            simp [f_law_due, runF, d_law_due, startN, Ev.isi, e4, dueB, hi, hc, ha, hd]
          | true =>
            rw [hall] at ha
            obtain ⟨ns, h1, h2, h3⟩ := ints_all hall
            subst h2
            have er : rngL 0 (jobs.length : Int) 1 = some ((List.range jobs.length).map fun (i : Nat) => D.py (nn i)) := rngL_up (by omega)
            have el : mkL ((List.range jobs.length).map fun (i : Nat) => D.py (nn i)) = .py (.list ((rngI jobs.length).map .int)) := by
              rw [mkL_map]
              unfold rngI
              rw [List.map_map]
              rfl
            have e6 := sorted_i ns
            have e7 := eq_il (sortI ns) (rngI jobs.length)
            generalize (ns.map PyData.int).map (fun x => PyData.bool (isI x 0 ((jobs.length : Int) - 1))) = bl at hc ha
            by_cases hso : sortI ns = rngI jobs.length
            · have ho := isOrd_i.mpr (sortI_eq.mp hso)
              rw [decide_eq_true hso] at e7
              obtain ⟨os, eo, hp⟩ := isOrd_is ho
              have e8 := lends2 M k hp
              have e9 := end_last (m := 2) (jobs := jobs) (M := M) (perm_ne hp (List.length_pos_iff.mpr k.ne))
              have e10 := ix_ends2 k.toOkJ (perm_lt hp) M
              rw [eo] at hc e6 ho ⊢
              have hT : Ev.isi .tup (.py (tn os)) = some true := rfl
              have hT2 : Ev.isi .tup (.py (.tuple [t, tn os])) = some true := rfl
              simp [f_law_due, runF, d_law_due, startN, hT, hT2, e4, dueB, hi, hc, ha, ho, e5, er, el, e6, e7, e8, e9, e10, eq_nn, natD_tn]
            · have ho : isOrd jobs.length (.tuple (ns.map .int)) = false := by
                rw [Bool.eq_false_iff]
                exact fun h => hso (sortI_eq.mpr (isOrd_i.mp h))
              rw [decide_eq_false hso] at e7
              simp [f_law_due, runF, d_law_due, startN, Ev.isi, e4, dueB, hi, hc, ha, ho, e5, er, el, e6, e7]
        | _ => simp [f_law_due, runF, d_law_due, startN, Ev.isi, e4, dueB, hi, isOrd]
    · have hn : ps.length ≠ 2 := fun h => hl (by
        match ps, h with
        | [t, o], _ => exact ⟨t, o, rfl⟩)
      have hd : dueB jobs T (.tuple ps) = false := dueB_no fun t o e => hl ⟨t, o, PyData.tuple.inj e⟩
      have hne : ((ps.length : Int) == 2) = false := by
        rw [beq_eq_false_iff_ne]
        omega
      simp [f_law_due, runF, d_law_due, startN, Ev.isi, hd, hne]
  | _ => simp [f_law_due, runF, d_law_due, startN, Ev.isi, dueB]
end k31

namespace k31
open Ev PySem
/-! the rule's sequence is the soonest -/
theorem rule_row (jobs : List (List Nat)) (os : List Nat) : pr (pick jobs os) = os.map fun i => (pr jobs).getD i (0, 0) := by
  unfold pr pick
  rw [List.map_map]
  refine List.map_congr_left fun o _ => ?_
  show ((jobs.getD o []).getD 0 0, (jobs.getD o []).getD 1 0) = (jobs.map fun j => (j.getD 0 0, j.getD 1 0)).getD o (0, 0)
  rw [show jobs.getD o [] = (jobs[o]?).getD [] from List.getD_eq_getElem?_getD .., List.getD_eq_getElem?_getD (l := jobs.map _), List.getElem?_map]
  cases jobs[o]? <;> rfl
theorem mk2_best (jobs : List (List Nat)) {os : List Nat} (h : os.Perm (List.range jobs.length)) : best jobs ≤ mk2 jobs os := by
  have hj := joh_perm (pr jobs)
  rw [pr_len] at hj
  unfold best mk2
  refine F2_best (by rw [rule_row]; exact joh_R _) ?_ 0 0
  rw [rule_row, rule_row]
  exact (h.trans hj.symm).map _
/-! the least, the greatest -/
theorem dlt_n (a b : Nat) : W.dataLt (nn a) (nn b) = decide (a < b) := by
  have e : W.dataLt (.int (a : Int)) (.int (b : Int)) = decide ((a : Int) < (b : Int)) := W.dataLt_int a b
  show W.dataLt (.int (a : Int)) (.int (b : Int)) = _
  rw [e, Bool.eq_iff_iff]
  simp
theorem min_f : ∀ (l : List Nat) (x : Nat), ∃ m, m ∈ x :: l ∧ (∀ y ∈ x :: l, m ≤ y) ∧ W.minD (nn x) (l.map nn) = nn m
  | [], x => ⟨x, List.mem_cons_self, fun y hy => by rw [List.mem_singleton.mp hy]; exact Nat.le_refl _, rfl⟩
  | a :: l, x => by
    obtain ⟨m, h1, h2, h3⟩ := min_f l (if a < x then a else x)
    have e : W.minD (nn x) ((a :: l).map nn) = W.minD (nn (if a < x then a else x)) (l.map nn) := by
      show W.minD (if W.dataLt (nn a) (nn x) then nn a else nn x) (l.map nn) = _
      rw [dlt_n]
      congr 1
      by_cases h : a < x
      · rw [if_pos (decide_eq_true h), if_pos h]
      · rw [if_neg (by simp [h]), if_neg h]
    refine ⟨m, ?_, fun y hy => ?_, e.trans h3⟩
    · rcases List.mem_cons.mp h1 with e2 | e2
      · rw [e2]
        split <;> simp
      · simp [e2]
    · have h4 := h2 _ List.mem_cons_self
      rcases List.mem_cons.mp hy with e2 | e2
      · subst e2
        split at h4 <;> omega
      · rcases List.mem_cons.mp e2 with e3 | e3
        · subst e3
          split at h4 <;> omega
        · exact h2 y (List.mem_cons_of_mem _ e3)
theorem max_f : ∀ (l : List Nat) (x : Nat), ∃ m, m ∈ x :: l ∧ (∀ y ∈ x :: l, y ≤ m) ∧ W.maxD (nn x) (l.map nn) = nn m
  | [], x => ⟨x, List.mem_cons_self, fun y hy => by rw [List.mem_singleton.mp hy]; exact Nat.le_refl _, rfl⟩
  | a :: l, x => by
    obtain ⟨m, h1, h2, h3⟩ := max_f l (if x < a then a else x)
    have e : W.maxD (nn x) ((a :: l).map nn) = W.maxD (nn (if x < a then a else x)) (l.map nn) := by
      show W.maxD (if W.dataLt (nn x) (nn a) then nn a else nn x) (l.map nn) = _
      rw [dlt_n]
      congr 1
      by_cases h : x < a
      · rw [if_pos (decide_eq_true h), if_pos h]
      · rw [if_neg (by simp [h]), if_neg h]
    refine ⟨m, ?_, fun y hy => ?_, e.trans h3⟩
    · rcases List.mem_cons.mp h1 with e2 | e2
      · rw [e2]
        split <;> simp
      · simp [e2]
    · have h4 := h2 _ List.mem_cons_self
      rcases List.mem_cons.mp hy with e2 | e2
      · subst e2
        split at h4 <;> omega
      · rcases List.mem_cons.mp e2 with e3 | e3
        · subst e3
          split at h4 <;> omega
        · exact h2 y (List.mem_cons_of_mem _ e3)
theorem alike_n (l : List Nat) : alikeL (l.map nn) = true ∧ okL (l.map nn) = true := by
  constructor
  · unfold alikeL
    rw [List.all_eq_true]
    intro a ha
    obtain ⟨l, _, rfl⟩ := List.mem_map.mp ha
    rw [Bool.and_eq_true, List.all_eq_true]
    refine ⟨rfl, fun b hb => ?_⟩
    obtain ⟨m, _, rfl⟩ := List.mem_map.mp hb
    simp [W.alike, nn]
  · have h3 : ∀ L : List Nat, PyData.depthAll (L.map nn) = 0 := by
      intro L
      induction L with
      | nil => rfl
      | cons l L ih =>
        rw [List.map_cons]
        show max (nn l).depth (PyData.depthAll (L.map nn)) = 0
        rw [ih]
        rfl
    unfold okL
    rw [h3]
    rfl
theorem bi_min (x : PyData) (xs : List PyData) (h1 : alikeL (x :: xs) = true) (h2 : okL (x :: xs) = true) : bi .min [.py (.list (x :: xs))] = some (.py (W.minD x xs), false) := by
  show (if alikeL (x :: xs) && okL (x :: xs) then rv (.py (W.minD x xs)) else none) = _
  rw [h1, h2] <;> rfl
theorem bi_max (x : PyData) (xs : List PyData) (h1 : alikeL (x :: xs) = true) (h2 : okL (x :: xs) = true) : bi .max [.py (.list (x :: xs))] = some (.py (W.maxD x xs), false) := by
  show (if alikeL (x :: xs) && okL (x :: xs) then rv (.py (W.maxD x xs)) else none) = _
  rw [h1, h2] <;> rfl
theorem min_nn {l : List Nat} (h : l ≠ []) : ∃ m, m ∈ l ∧ (∀ y ∈ l, m ≤ y) ∧ bi .min [.py (.list (l.map nn))] = some (.py (nn m), false) := by
  obtain ⟨x, l, rfl⟩ := List.exists_cons_of_ne_nil h
  obtain ⟨m, h1, h2, h3⟩ := min_f l x
  obtain ⟨h4, h5⟩ := alike_n (x :: l)
  exact ⟨m, h1, h2, by rw [List.map_cons, bi_min _ _ h4 h5, h3]⟩
theorem max_nn {l : List Nat} (h : l ≠ []) : ∃ m, m ∈ l ∧ (∀ y ∈ l, y ≤ m) ∧ bi .max [.py (.list (l.map nn))] = some (.py (nn m), false) := by
  obtain ⟨x, l, rfl⟩ := List.exists_cons_of_ne_nil h
  obtain ⟨m, h1, h2, h3⟩ := max_f l x
  obtain ⟨h4, h5⟩ := alike_n (x :: l)
  exact ⟨m, h1, h2, by rw [List.map_cons, bi_max _ _ h4 h5, h3]⟩
/-! rows of an end and a sequence -/
def cand (f : List Nat → Nat) (o : List Nat) : PyData := .tuple [nn (f o), tn o]
open PyProof.Rows PySem.W in
theorem dlt_cand (f : List Nat → Nat) {a b : List Nat} (h : f a ≠ f b) : dataLt (cand f a) (cand f b) = decide (f a < f b) := by
  have e : ∀ o, keyToks (cand f o) = [.inl 1] ++ ((.inl (f o : Int)) :: keyToksAll [tn o]) := fun o => by
    unfold cand
    rw [keyToks, keyToksAll]
    rfl
  unfold dataLt
  rw [e, e, lex_pre, lex_ints _ _ _ _ (by omega), Bool.eq_iff_iff]
  simp
theorem min_c (f : List Nat → Nat) : ∀ (l : List (List Nat)) (x : List Nat), ∃ m, m ∈ x :: l ∧ (∀ y ∈ x :: l, f m ≤ f y) ∧ W.minD (cand f x) (l.map (cand f)) = cand f m
  | [], x => ⟨x, List.mem_cons_self, fun y hy => by rw [List.mem_singleton.mp hy]; exact Nat.le_refl _, rfl⟩
  | a :: l, x => by
    have hif : ∃ z, (z = a ∨ z = x) ∧ f z ≤ f a ∧ f z ≤ f x ∧ (if W.dataLt (cand f a) (cand f x) then cand f a else cand f x) = cand f z := by
      by_cases he : f a = f x
      · cases hd : W.dataLt (cand f a) (cand f x) with
        | true => exact ⟨a, .inl rfl, by omega, by omega, rfl⟩
        | false => exact ⟨x, .inr rfl, by omega, by omega, rfl⟩
      · rw [dlt_cand f he]
        by_cases h : f a < f x
        · exact ⟨a, .inl rfl, by omega, by omega, by rw [if_pos (decide_eq_true h)]⟩
        · exact ⟨x, .inr rfl, by omega, by omega, by rw [if_neg (by simp [h])]⟩
    obtain ⟨z, hz, z1, z2, z3⟩ := hif
    obtain ⟨m, h1, h2, h3⟩ := min_c f l z
    have e : W.minD (cand f x) ((a :: l).map (cand f)) = W.minD (cand f z) (l.map (cand f)) := by
      show W.minD (if W.dataLt (cand f a) (cand f x) then cand f a else cand f x) (l.map (cand f)) = _
      rw [z3]
    refine ⟨m, ?_, fun y hy => ?_, e.trans h3⟩
    · rcases List.mem_cons.mp h1 with e2 | e2
      · rw [e2]
        rcases hz with rfl | rfl <;> simp
      · simp [e2]
    · have h4 := h2 _ List.mem_cons_self
      rcases List.mem_cons.mp hy with e2 | e2
      · subst e2
        omega
      · rcases List.mem_cons.mp e2 with e3 | e3
        · subst e3
          omega
        · exact h2 y (List.mem_cons_of_mem _ e3)
theorem alike_tn : ∀ a b : List Nat, W.alikeAll (a.map nn) (b.map nn) = true
  | [], b => by simp [W.alikeAll]
  | _ :: _, [] => by simp [W.alikeAll]
  | x :: a, y :: b => by
    rw [List.map_cons, List.map_cons, W.alikeAll, alike_tn a b]
    rfl
theorem depth_tn (l : List Nat) : (tn l).depth = 1 := by
  have h3 : ∀ L : List Nat, PyData.depthAll (L.map nn) = 0 := by
    intro L
    induction L with
    | nil => rfl
    | cons l L ih =>
      rw [List.map_cons]
      show max (nn l).depth (PyData.depthAll (L.map nn)) = 0
      rw [ih]
      rfl
  show PyData.depthAll (l.map nn) + 1 = 1
  rw [h3]
theorem alike_c (f : List Nat → Nat) (l : List (List Nat)) : alikeL (l.map (cand f)) = true ∧ okL (l.map (cand f)) = true := by
  constructor
  · unfold alikeL
    rw [List.all_eq_true]
    intro a ha
    obtain ⟨l, _, rfl⟩ := List.mem_map.mp ha
    rw [Bool.and_eq_true, List.all_eq_true]
    refine ⟨rfl, fun b hb => ?_⟩
    obtain ⟨m, _, rfl⟩ := List.mem_map.mp hb
    have := alike_tn l m
    simp [W.alike, W.alikeAll, cand, nn, tn] at this ⊢
    exact this
  · have h3 : ∀ L : List (List Nat), PyData.depthAll (L.map (cand f)) ≤ 2 := by
      intro L
      induction L with
      | nil => exact Nat.zero_le _
      | cons l L ih =>
        rw [List.map_cons]
        show max (cand f l).depth (PyData.depthAll (L.map (cand f))) ≤ 2
        have e : (cand f l).depth = max (nn (f l)).depth (max (tn l).depth 0) + 1 := rfl
        rw [depth_tn] at e
        have e2 : (nn (f l)).depth = 0 := rfl
        omega
    have := h3 l
    exact decide_eq_true (by omega)
theorem min_cand (f : List Nat → Nat) {l : List (List Nat)} (h : l ≠ []) : ∃ m, m ∈ l ∧ (∀ y ∈ l, f m ≤ f y) ∧ bi .min [.py (.list (l.map (cand f)))] = some (.py (cand f m), false) := by
  obtain ⟨x, l, rfl⟩ := List.exists_cons_of_ne_nil h
  obtain ⟨m, h1, h2, h3⟩ := min_c f l x
  obtain ⟨h4, h5⟩ := alike_c f (x :: l)
  exact ⟨m, h1, h2, by rw [List.map_cons, bi_min _ _ h4 h5, h3]⟩
/-! three machines -/
def t3 (jobs : List (List Nat)) : List J3 := jobs.map fun j => ⟨j.getD 0 0, j.getD 1 0, j.getD 2 0⟩
def pr3 (jobs : List (List Nat)) : List (Nat × Nat) := (t3 jobs).map two
theorem row3 {j : List Nat} (h : j.length = 3) : j = [j.getD 0 0, j.getD 1 0, j.getD 2 0] := by
  match j, h with
  | [a, b, c], _ => rfl
theorem fin_F3 : ∀ (l : List (List Nat)) (x y z : Nat), (∀ j ∈ l, j.length = 3) → ∃ x' y', l.foldl (fun c j => go 0 c j) [x, y, z] = [x', y', F3 x y z (t3 l)]
  | [], x, y, z, _ => ⟨x, y, rfl⟩
  | j :: l, x, y, z, h => by
    obtain ⟨x', y', ih⟩ := fin_F3 l (x + j.getD 0 0) (max (x + j.getD 0 0) y + j.getD 1 0) (max (max (x + j.getD 0 0) y + j.getD 1 0) z + j.getD 2 0) fun k hk => h k (List.mem_cons_of_mem _ hk)
    refine ⟨x', y', ?_⟩
    rw [List.foldl_cons]
    have e : go 0 [x, y, z] j = [x + j.getD 0 0, max (x + j.getD 0 0) y + j.getD 1 0, max (max (x + j.getD 0 0) y + j.getD 1 0) z + j.getD 2 0] := by
      have := row3 (h j List.mem_cons_self)
      rw [this]
      simp [go]
    rw [e, ih]
    rfl
def mk3 (jobs : List (List Nat)) (os : List Nat) : Nat := F3 0 0 0 (t3 (pick jobs os))
theorem ix_ends3 {jobs : List (List Nat)} {os : List Nat} (k : OkJ 3 jobs) (ho : ∀ o ∈ os, o < jobs.length) (M : Mem) : ixD M (.py (tn (lst 3 jobs os))) (.py (.int 2)) = some (.py (nn (mk3 jobs os))) := by
  obtain ⟨x, y, e⟩ : ∃ x y, lst 3 jobs os = [x, y, mk3 jobs os] := fin_F3 _ 0 0 0 fun j hj => (pick_mem k ho j hj).2
  rw [e]
  rfl
theorem ends3 (M : Mem) {jobs : List (List Nat)} {mo : Nat} (k : OkT 3 mo jobs) (hmo : mo ≤ 20) {os : List Nat} (h : os.Perm (List.range jobs.length)) : f_ends_of noClo [.py (js jobs), .py (tn os)] M = some (.ok ⟨.py (endD 3 jobs os), false, M⟩) :=
  s_ends_of noClo M k.toOkJ (.inr rfl) k.ne (perm_lt h) (by rw [h.length_eq, List.length_range]; have := k.mo; omega)
theorem lends3 (M : Mem) {jobs : List (List Nat)} {mo : Nat} (k : OkT 3 mo jobs) (hmo : mo ≤ 20) {os : List Nat} (h : os.Perm (List.range jobs.length)) : f_law_ends noClo [.py (js jobs), .py (tn os)] M = some (.ok ⟨.py (endD 3 jobs os), false, M⟩) :=
  s_law_ends noClo M k.toOkJ (.inr rfl) k.ne (perm_lt h) (by rw [h.length_eq, List.length_range]; have := k.mo; omega)
theorem rule_row3 (jobs : List (List Nat)) (os : List Nat) : (t3 (pick jobs os)).map two = os.map fun i => (pr3 jobs).getD i (0, 0) := by
  unfold pr3 t3 pick
  rw [List.map_map, List.map_map]
  refine List.map_congr_left fun o _ => ?_
  show ((jobs.getD o []).getD 0 0 + (jobs.getD o []).getD 1 0, (jobs.getD o []).getD 1 0 + (jobs.getD o []).getD 2 0) = ((jobs.map fun j => (⟨j.getD 0 0, j.getD 1 0, j.getD 2 0⟩ : J3)).map two).getD o (0, 0)
  rw [show jobs.getD o [] = (jobs[o]?).getD [] from List.getD_eq_getElem?_getD .., List.getD_eq_getElem?_getD (l := (jobs.map _).map two), List.getElem?_map, List.getElem?_map]
  cases jobs[o]? <;> rfl
theorem pr3_len (jobs : List (List Nat)) : (pr3 jobs).length = jobs.length := by
  unfold pr3 t3
  rw [List.length_map, List.length_map]
def J3o (jobs : List (List Nat)) : List Nat := joh (pr3 jobs)
theorem J3_perm (jobs : List (List Nat)) : (J3o jobs).Perm (List.range jobs.length) := by
  have := joh_perm (pr3 jobs)
  rwa [pr3_len] at this
/-- where the middle one is never the longest, the rule's sequence is the soonest -/
theorem mk3_best (jobs : List (List Nat)) {M : Nat} (hM : (∀ j ∈ jobs, M ≤ j.getD 0 0 ∧ j.getD 1 0 ≤ M) ∨ (∀ j ∈ jobs, M ≤ j.getD 2 0 ∧ j.getD 1 0 ≤ M)) {os : List Nat} (h : os.Perm (List.range jobs.length)) : mk3 jobs (J3o jobs) ≤ mk3 jobs os := by
  have hj := J3_perm jobs
  have hmem : ∀ j ∈ pick jobs (J3o jobs), j ∈ jobs := fun j hj2 => by
    obtain ⟨o, h1, rfl⟩ := List.mem_map.mp hj2
    have h3 := perm_lt hj o h1
    have h2 : jobs.getD o [] = jobs[o]'h3 := by
      rw [List.getD_eq_getElem?_getD, List.getElem?_eq_getElem h3] <;> rfl
    rw [h2]
    exact List.getElem_mem _
  unfold mk3
  refine F3_best (M := M) ?_ (by rw [rule_row3]; exact joh_R _) (((h.trans hj.symm).map _).map _)
  rcases hM with hM | hM
  · refine .inl fun j hj2 => ?_
    obtain ⟨r, hr, rfl⟩ := List.mem_map.mp hj2
    exact hM r (hmem r hr)
  · refine .inr fun j hj2 => ?_
    obtain ⟨r, hr, rfl⟩ := List.mem_map.mp hj2
    exact hM r (hmem r hr)
theorem ORD_ne (n : Nat) : ORD n ≠ [] := fun e => by
  have h : List.range n ∈ ORD n := ORD_of.mpr (List.Perm.refl _)
  rw [e] at h
  cases h
end k31

namespace k31
open Ev PySem
def r3 (x : J3) : PyData := tn [x.a, x.m, x.c]
theorem js_t3 {jobs : List (List Nat)} (h : ∀ j ∈ jobs, j.length = 3) : items (.py (js jobs)) = some ((t3 jobs).map fun x => D.py (r3 x)) := by
  rw [it_js, t3, List.map_map]
  congr 1
  refine List.map_congr_left fun j hj => ?_
  show D.py (tn j) = D.py (tn [j.getD 0 0, j.getD 1 0, j.getD 2 0])
  rw [← row3 (h j hj)]
theorem t3_len (jobs : List (List Nat)) : (t3 jobs).length = jobs.length := List.length_map _
theorem pr3_map (jobs : List (List Nat)) : (t3 jobs).map (fun x => r2 (two x)) = (pr3 jobs).map r2 := by
  unfold pr3
  rw [List.map_map]
  rfl
theorem it_r2 (ps : List (Nat × Nat)) : items (.py (.list (ps.map r2))) = some (ps.map fun p => D.py (r2 p)) := by rw [it_l, List.map_map]; rfl
theorem c_m1 (C : Nv → Clo) (M : Mem) {jobs : List (List Nat)} (h : ∀ j ∈ jobs, j.length = 3) (hl : jobs.length ≤ 30) (s1 s2 s3 : Slot) : evE F_middle_rule C c_middle_rule_1 [some (.py (js jobs), false), s1, s2, s3, none, none, none] M = some (.ok ⟨.py (.list ((pr3 jobs).map r2)), .fr, [some (.py (js jobs), false), s1, s2, s3, none, none, none], M⟩) := by
  have hz : (100 : Nat) ≤ sizeLine := by decide
  rw [← pr3_map]
  exact comp_map (fun x => D.py (r3 x)) (fun x => r2 (two x)) (fun x => [some (.py (js jobs), false), s1, s2, s3, some (.py (nn x.a), false), some (.py (nn x.m), false), some (.py (nn x.c), false)]) (t3 jobs) (sd := .py (js jobs)) (sm := .sh) (by simp [js_t3 h]) (js_t3 h) (by rw [t3_len]; omega) rfl (fun x _ => by simp [r3, tn]) (fun x _ => ⟨.sh, by simp [show (2 : Nat) ≤ sizeLine from by decide]; rfl, rfl⟩) (fun _ _ => rfl) rfl
theorem c_m2 (C : Nv → Clo) (M : Mem) {jobs : List (List Nat)} (h : ∀ j ∈ jobs, j.length = 3) (hl : jobs.length ≤ 30) (s1 s2 s3 : Slot) : evE F_middle_rule C c_middle_rule_2 [some (.py (js jobs), false), s1, s2, s3, none, none, none] M = some (.ok ⟨.py (.list ((t3 jobs).map fun x => nn x.m)), .fr, [some (.py (js jobs), false), s1, s2, s3, none, none, none], M⟩) := by
  have hz : (100 : Nat) ≤ sizeLine := by decide
  exact comp_map (fun x => D.py (r3 x)) (fun x => nn x.m) (fun x => [some (.py (js jobs), false), s1, s2, s3, some (.py (nn x.a), false), some (.py (nn x.m), false), some (.py (nn x.c), false)]) (t3 jobs) (sd := .py (js jobs)) (sm := .sh) (by simp [js_t3 h]) (js_t3 h) (by rw [t3_len]; omega) rfl (fun x _ => by simp [r3, tn]) (fun x _ => ⟨.sh, by simp, rfl⟩) (fun _ _ => rfl) rfl
theorem c_m3 (C : Nv → Clo) (M : Mem) {jobs : List (List Nat)} (h : ∀ j ∈ jobs, j.length = 3) (hl : jobs.length ≤ 30) (s1 s2 s3 : Slot) : evE F_middle_rule C c_middle_rule_3 [some (.py (js jobs), false), s1, s2, s3, none, none, none] M = some (.ok ⟨.py (.list ((t3 jobs).map fun x => nn x.a)), .fr, [some (.py (js jobs), false), s1, s2, s3, none, none, none], M⟩) := by
  have hz : (100 : Nat) ≤ sizeLine := by decide
  exact comp_map (fun x => D.py (r3 x)) (fun x => nn x.a) (fun x => [some (.py (js jobs), false), s1, s2, s3, some (.py (nn x.a), false), some (.py (nn x.m), false), some (.py (nn x.c), false)]) (t3 jobs) (sd := .py (js jobs)) (sm := .sh) (by simp [js_t3 h]) (js_t3 h) (by rw [t3_len]; omega) rfl (fun x _ => by simp [r3, tn]) (fun x _ => ⟨.sh, by simp, rfl⟩) (fun _ _ => rfl) rfl
theorem c_m4 (C : Nv → Clo) (M : Mem) {jobs : List (List Nat)} (h : ∀ j ∈ jobs, j.length = 3) (hl : jobs.length ≤ 30) (s1 s2 s3 : Slot) : evE F_middle_rule C c_middle_rule_4 [some (.py (js jobs), false), s1, s2, s3, none, none, none] M = some (.ok ⟨.py (.list ((t3 jobs).map fun x => nn x.c)), .fr, [some (.py (js jobs), false), s1, s2, s3, none, none, none], M⟩) := by
  have hz : (100 : Nat) ≤ sizeLine := by decide
  exact comp_map (fun x => D.py (r3 x)) (fun x => nn x.c) (fun x => [some (.py (js jobs), false), s1, s2, s3, some (.py (nn x.a), false), some (.py (nn x.m), false), some (.py (nn x.c), false)]) (t3 jobs) (sd := .py (js jobs)) (sm := .sh) (by simp [js_t3 h]) (js_t3 h) (by rw [t3_len]; omega) rfl (fun x _ => by simp [r3, tn]) (fun x _ => ⟨.sh, by simp, rfl⟩) (fun _ _ => rfl) rfl
theorem s_middle_rule (C : Clo) (M : Mem) {jobs : List (List Nat)} (k : OkT 3 20 jobs) {mm a c : Nat} (h1 : bi .max [.py (.list ((t3 jobs).map fun x => nn x.m))] = some (.py (nn mm), false)) (h2 : bi .min [.py (.list ((t3 jobs).map fun x => nn x.a))] = some (.py (nn a), false)) (h3 : bi .min [.py (.list ((t3 jobs).map fun x => nn x.c))] = some (.py (nn c), false)) :
    f_middle_rule C [.py (js jobs)] M = some (.ok ⟨.py (.tuple [nn (mk3 jobs (J3o jobs)), tn (J3o jobs), .bool (decide (mm ≤ a) || decide (mm ≤ c))]), false, M⟩) := by
  have hl : jobs.length ≤ 30 := by have := k.mo; omega
  have e1 := s_check_jobs noClo M k (by omega)
  have hp := J3_perm jobs
  have e2 := s_johnson noClo M (.list ((pr3 jobs).map r2)) (pr3 jobs) (it_r2 _) (by rw [pr3_len]; exact hl)
  have e2' : f_johnson noClo [.py (.list ((pr3 jobs).map r2))] M = some (.ok ⟨.py (tn (J3o jobs)), false, M⟩) := e2
  have e3 := ends3 M k (by omega) hp
  have e4 := end_last (m := 3) (jobs := jobs) (M := M) (perm_ne hp (List.length_pos_iff.mpr k.ne))
  have e5 := ix_ends3 k.toOkJ (perm_lt hp) M
  have g1 := c_m1 (lamC F_middle_rule []) M k.w hl
  have g2 := c_m2 (lamC F_middle_rule []) M k.w hl
  have g3 := c_m3 (lamC F_middle_rule []) M k.w hl
  have g4 := c_m4 (lamC F_middle_rule []) M k.w hl
  generalize hN : nn (mk3 jobs (J3o jobs)) = N at e5
  have e6 : ∀ p q r : PyData, mkT [D.py p, .py q, .py r] = .py (.tuple [p, q, r]) := fun _ _ _ => rfl
  have h33 : (3 : Nat) ≤ sizeLine := by decide
  simp at e1
  by_cases ha : mm ≤ a
  · simp [f_middle_rule, runF, d_middle_rule, startN, e1, e2', e3, e4, e5, g1, g2, g3, g4, h1, h2, h3, ha, h33]
  · simp [f_middle_rule, runF, d_middle_rule, startN, e1, e2', e3, e4, e5, g1, g2, g3, g4, h1, h2, h3, ha, h33]
theorem s_soonest_three (C : Clo) (M : Mem) {jobs : List (List Nat)} (k : OkT 3 6 jobs) {q : PyData} (h : bi .min [.py (.list ((ORD jobs.length).map (cand (mk3 jobs))))] = some (.py q, false)) : f_soonest_three C [.py (js jobs)] M = some (.ok ⟨.py q, false, M⟩) := by
  have hz : (100000 : Nat) ≤ sizeLine := by decide
  have h0 := List.length_pos_iff.mpr k.ne
  have e1 := s_check_jobs noClo M k (by omega)
  have e2 := s_all_orders noClo M h0 k.mo
  have e3 := len_js jobs
  have hc : evE F_soonest_three (lamC F_soonest_three []) c_soonest_three_1 [some (.py (js jobs), false), none] M = some (.ok ⟨.py (.list ((ORD jobs.length).map (cand (mk3 jobs)))), .fr, [some (.py (js jobs), false), none], M⟩) :=
    comp_map (fun o => D.py (tn o)) (cand (mk3 jobs)) (fun o => [some (.py (js jobs), false), some (.py (tn o), false)]) (ORD jobs.length) (sd := .py (.list ((ORD jobs.length).map tn))) (sm := .sh) (by simp [e2, e3]) (it_ltn _) (by have := O_small (n := jobs.length) k.mo (Nat.le_refl _); unfold ORD; omega) rfl (fun _ _ => rfl) (fun o ho => ⟨.sh, by
      have hp := ORD_of.mp ho
      have g1 := ends3 M k (by omega) hp
      have g2 := end_last (m := 3) (jobs := jobs) (M := M) (perm_ne hp h0)
      have g3 := ix_ends3 k.toOkJ (perm_lt hp) M
      simp [g1, g2, g3, show (2 : Nat) ≤ sizeLine from by omega, cand], rfl⟩) (fun _ _ => rfl) rfl
  simp at e1
  simp [f_soonest_three, runF, d_soonest_three, startN, e1, hc, h]
/-! the law's rule -/
theorem c_r1 (C : Nv → Clo) (M : Mem) {jobs : List (List Nat)} (h : ∀ j ∈ jobs, j.length = 3) (hl : jobs.length ≤ 30) : evE F_law_rule C c_law_rule_1 [some (.py (js jobs), false), none, none, none, none, none, none, none, none, none, none] M = some (.ok ⟨.py (.list ((pr3 jobs).map r2)), .fr, [some (.py (js jobs), false), none, none, none, none, none, none, none, none, none, none], M⟩) := by
  have hz : (100 : Nat) ≤ sizeLine := by decide
  rw [← pr3_map]
  exact comp_map (fun x => D.py (r3 x)) (fun x => r2 (two x)) (fun x => [some (.py (js jobs), false), none, none, none, some (.py (nn x.a), false), some (.py (nn x.m), false), some (.py (nn x.c), false), none, none, none, none]) (t3 jobs) (sd := .py (js jobs)) (sm := .sh) (by simp [js_t3 h]) (js_t3 h) (by rw [t3_len]; omega) rfl (fun x _ => by simp [r3, tn]) (fun x _ => ⟨.sh, by simp [show (2 : Nat) ≤ sizeLine from by decide]; rfl, rfl⟩) (fun _ _ => rfl) rfl
theorem c_r2 (C : Nv → Clo) (M : Mem) (s0 s2 s3 : Slot) (ps : List (Nat × Nat)) (hl : ps.length ≤ 30) : evE F_law_rule C c_law_rule_2 [s0, some (.py (.list (ps.map r2)), true), s2, s3, none, none, none, none, none, none, none] M = some (.ok ⟨.py (.list (((ps.zipIdx.filter fun x => decide (x.1.1 ≤ x.1.2)).map rowA).map q2)), .fr, [s0, some (.py (.list (ps.map r2)), true), s2, s3, none, none, none, none, none, none, none], M⟩) := by
  have hz : (100 : Nat) ≤ sizeLine := by decide
  have hx := it_r2 ps
  rw [List.map_map]
  exact comp_filter en (fun x => decide (x.1.1 ≤ x.1.2)) (fun x => q2 (rowA x)) (fun y => [s0, some (.py (.list (ps.map r2)), true), s2, s3, none, none, none, some (.py (nn y.2), false), none, some (.py (nn y.1.1), false), some (.py (nn y.1.2), false)]) ps.zipIdx (sd := .ml (enuFrom 0 (ps.map fun p => D.py (r2 p)))) (sm := .bo 1) (by simp only [s_en, e_var, List.getElem?_cons_zero, List.getElem?_cons_succ, vget_t, bz_ok, hx, ob_s]) (by rw [it_ml, enu_r2]) (by rw [List.length_zipIdx]; omega) rfl (fun y _ => by simp [en, r2, tn]) (fun y _ => ⟨.py (.bool (decide (y.1.1 ≤ y.1.2))), by simp, rfl⟩) (fun y _ _ => ⟨.sh, by simp [show (2 : Nat) ≤ sizeLine from by decide]; rfl, rfl⟩) (fun _ _ => rfl) rfl
theorem c_r3 (C : Nv → Clo) (M : Mem) (s0 s2 s3 : Slot) (ps : List (Nat × Nat)) (hl : ps.length ≤ 30) : evE F_law_rule C c_law_rule_3 [s0, some (.py (.list (ps.map r2)), true), s2, s3, none, none, none, none, none, none, none] M = some (.ok ⟨.py (.list (((ps.zipIdx.filter fun x => decide (x.1.2 < x.1.1)).map rowB).map q2)), .fr, [s0, some (.py (.list (ps.map r2)), true), s2, s3, none, none, none, none, none, none, none], M⟩) := by
  have hz : (100 : Nat) ≤ sizeLine := by decide
  have hx := it_r2 ps
  rw [List.map_map]
  exact comp_filter en (fun x => decide (x.1.2 < x.1.1)) (fun x => q2 (rowB x)) (fun y => [s0, some (.py (.list (ps.map r2)), true), s2, s3, none, none, none, some (.py (nn y.2), false), none, some (.py (nn y.1.1), false), some (.py (nn y.1.2), false)]) ps.zipIdx (sd := .ml (enuFrom 0 (ps.map fun p => D.py (r2 p)))) (sm := .bo 1) (by simp only [s_en, e_var, List.getElem?_cons_zero, List.getElem?_cons_succ, vget_t, bz_ok, hx, ob_s]) (by rw [it_ml, enu_r2]) (by rw [List.length_zipIdx]; omega) rfl (fun y _ => by simp [en, r2, tn]) (fun y _ => ⟨.py (.bool (decide (y.1.2 < y.1.1))), by simp, rfl⟩) (fun y _ _ => ⟨.sh, by simp [show (2 : Nat) ≤ sizeLine from by decide]; rfl, rfl⟩) (fun _ _ => rfl) rfl
theorem c_r4 (C : Nv → Clo) (M : Mem) (s0 s1 : Slot) (A B : List (Int × Int)) (hl : A.length + B.length ≤ 60) : evE F_law_rule C c_law_rule_4 [s0, s1, some (.py (.list (A.map q2)), true), some (.py (.list (B.map q2)), true), none, none, none, none, none, none, none] M = some (.ok ⟨.py (.list ((A ++ B).map fun p => .int p.2)), .fr, [s0, s1, some (.py (.list (A.map q2)), true), some (.py (.list (B.map q2)), true), none, none, none, none, none, none, none], M⟩) := by
  have hz : (100 : Nat) ≤ sizeLine := by decide
  have hadd : o2 .add (.py (.list (A.map q2))) (.py (.list (B.map q2))) = some (.py (.list ((A ++ B).map q2)), true) := by
    rw [add_l, if_pos (by rw [List.length_map, List.length_map]; omega), List.map_append]
  exact comp_map (fun p => D.py (q2 p)) (fun p => .int p.2) (fun p => [s0, s1, some (.py (.list (A.map q2)), true), some (.py (.list (B.map q2)), true), none, none, none, some (.py (.int p.2), false), some (.py (.int p.1), false), none, none]) (A ++ B) (sd := .py (.list ((A ++ B).map q2))) (sm := .fr) (by simp [hadd, -List.map_append]) (by rw [it_l, List.map_map]; rfl) (by rw [List.length_append]; omega) rfl (fun y _ => by simp [q2]) (fun y _ => ⟨.sh, by simp, rfl⟩) (fun _ _ => rfl) rfl
theorem s_law_rule (C : Clo) (M : Mem) {jobs : List (List Nat)} (h : ∀ j ∈ jobs, j.length = 3) (hl : jobs.length ≤ 30) : f_law_rule C [.py (js jobs)] M = some (.ok ⟨.py (tn (J3o jobs)), false, M⟩) := by
  have hps : (pr3 jobs).length ≤ 30 := by rw [pr3_len]; exact hl
  have g1 := c_r1 (lamC F_law_rule []) M h hl
  have g3 := joh_tn (pr3 jobs)
  have hJ : tn (J3o jobs) = tn (joh (pr3 jobs)) := rfl
  rw [hJ]
  generalize pr3 jobs = ps at g1 g3 hps ⊢
  have h1 := fun s2 s3 => c_r2 (lamC F_law_rule []) M (some (.py (js jobs), false)) s2 s3 ps hps
  have h2 := fun s2 s3 => c_r3 (lamC F_law_rule []) M (some (.py (js jobs), false)) s2 s3 ps hps
  have hA : (johA ps).length ≤ 30 := by
    unfold johA
    rw [sortP_len, List.length_map]
    exact Nat.le_trans (List.length_filter_le _ _) (by rw [List.length_zipIdx]; exact hps)
  have hB : (johB ps).length ≤ 30 := by
    unfold johB
    rw [sortP_len, List.length_map]
    exact Nat.le_trans (List.length_filter_le _ _) (by rw [List.length_zipIdx]; exact hps)
  have h3 := c_r4 (lamC F_law_rule []) M (some (.py (js jobs), false)) (some (.py (.list (ps.map r2)), true)) (johA ps) (johB ps) (by omega)
  have q1 : bi .sorted [.py (.list (((ps.zipIdx.filter fun x => decide (x.1.1 ≤ x.1.2)).map rowA).map q2))] = some (.py (.list ((johA ps).map q2)), true) := sorted_q2 _
  have q2' : bi .sorted [.py (.list (((ps.zipIdx.filter fun x => decide (x.1.2 < x.1.1)).map rowB).map q2))] = some (.py (.list ((johB ps).map q2)), true) := sorted_q2 _
  simp only [f_law_rule, runF, d_law_rule, startN, ss_cons, ss_nil, t_asg, e_bi, l_cons, l_nil, List.length_cons, List.length_nil, if_true, List.map_cons, List.map_nil, List.cons_append, List.nil_append, Nat.reduceSub, List.replicate, g1, bz_ok, liftO_s, fzs_c, fzs_n, fz_fr, mdOf_t, st_fr, ob_s, List.set_cons_succ, List.set_cons_zero]
  rw [h1]
  simp only [bz_ok, List.map_cons, List.map_nil, q1, liftO_s, fzs_c, fzs_n, fz_fr, mdOf_t, st_fr, ob_s, List.set_cons_succ, List.set_cons_zero, t_ret, e_bi, l_cons, l_nil]
  rw [h2]
  simp only [bz_ok, List.map_cons, List.map_nil, q2', liftO_s, fzs_c, fzs_n, fz_fr, mdOf_t, st_fr, ob_s, List.set_cons_succ, List.set_cons_zero, t_ret, e_bi, l_cons, l_nil]
  rw [h3]
  simp [-List.map_append, g3]
end k31

set_option exponentiation.threshold 5000
namespace k31
open Ev PySem
/-! draws -/
theorem take (C : Clo) {M : Mem} {n c u : Nat} (hp : PotAt M n c) (hc : c ≤ 10 ^ 9) (hu : 0 < u) (hu2 : u < 2 ^ 30) : ∃ (d : Nat) (M' : Mem), f_law_take C [.cel n, .py (nn u)] M = some (.ok ⟨.py (nn d), false, M'⟩) ∧ d < u ∧ PotAt M' n (c + 1) :=
  s_take (Fs := F_law_take) (a := 91830) (b := 669) (e := 10259) (f := 122) (g := 2305843009213693907) (h := 152) C hp hc hu hu2 (by decide) (by decide) (by decide) (by decide) (by decide) (by decide)
theorem pot (C : Clo) (M : Mem) (ns : List Int) {pl : Nat} (h : pl ≤ 1000) : ∃ ps, f_law_pot C [.scr ns, .py (nn pl)] M = some (.ok ⟨.cel M.length, false, M ++ [ps]⟩) ∧ PotAt (M ++ [ps]) M.length 0 :=
  s_pot (Fs := F_law_pot) (a := 7183) (b := 462) (p := 94925) (q := 11647) (r := 869) (t := 2305843009213693921) C h (by decide) (by decide) (by decide) (by decide)
theorem one_of (C : Clo) {M : Mem} {n c : Nat} (hp : PotAt M n c) (hc : c ≤ 10 ^ 9) {ps : List PyData} (hn : ps ≠ []) (hl : ps.length < 2 ^ 30) : ∃ (p : PyData) (M' : Mem), p ∈ ps ∧ f_law_of C [.cel n, .py (.list ps)] M = some (.ok ⟨.py p, false, M'⟩) ∧ PotAt M' n (c + 1) := by
  have h0 : 0 < ps.length := List.length_pos_iff.mpr hn
  obtain ⟨d, M', h1, h2, h3⟩ := take noClo hp hc h0 hl
  have h1' : f_law_take noClo [.cel n, .py (.int (ps.length : Int))] M = some (.ok ⟨.py (nn d), false, M'⟩) := h1
  refine ⟨ps[d], M', List.getElem_mem h2, ?_, h3⟩
  have e : ixD M' (.py (.list ps)) (.py (nn d)) = some (.py ps[d]) := ixl_n (List.getElem?_eq_getElem h2)
  simp [f_law_of, runF, d_law_of, startN, h1', e]
/-! jobs -/
structure OkS (m most : Nat) (jobs : List (List Nat)) : Prop where
  w : ∀ j ∈ jobs, j.length = m
  s : ∀ j ∈ jobs, ∀ x ∈ j, x < 10
  ne : jobs ≠ []
  mo : jobs.length ≤ most
theorem OkS.t {m most b : Nat} {jobs : List (List Nat)} (k : OkS m most jobs) (h : most ≤ b) (h2 : b ≤ 20) : OkT m b jobs :=
  { w := k.w, le := by have := k.mo; omega, t := fun j hj x hx => by have := k.s j hj x hx; omega, ne := k.ne, mo := by have := k.mo; omega }
theorem row_turn (C : Nv → Clo) {M : Mem} {n c w m : Nat} (hp : PotAt M n c) (hc : c ≤ 10 ^ 8) (hw : 0 < w) (hw2 : w ≤ 10) (hm : m ≤ 3) (s1 s4 : Slot) : ∃ (ks : List Nat) (M' : Mem), ks.length = m ∧ (∀ x ∈ ks, x < 10) ∧ PotAt M' n (c + m) ∧
    evE F_law_jobs C c_law_jobs_1 [some (.cel n, false), s1, some (.py (nn m), false), some (.py (nn w), false), s4, none] M = some (.ok ⟨.py (.list (ks.map nn)), .fr, [some (.cel n, false), s1, some (.py (nn m), false), some (.py (nn w), false), s4, none], M'⟩) := by
  have hz : (100 : Nat) ≤ sizeLine := by decide
  have er : rngL 0 (m : Int) 1 = some ((List.range m).map fun (i : Nat) => D.py (nn i)) := rngL_up (by omega)
  obtain ⟨ys, M1, e1, ks, rfl, k1, k2, k3⟩ := comp_st (Fs := F_law_jobs) (C := C) (own := [("at", 5)]) (t := .nm 5) (src := .rng1 (.var 2)) (cond := .no) (elt := .call 18 (.cons false (.var 0) (.cons false (.var 3) .nil)))
    (ρ := [some (.cel n, false), s1, some (.py (nn m), false), some (.py (nn w), false), s4, none]) (M := M) (sd := .ml ((List.range m).map fun (i : Nat) => D.py (nn i))) (sm := .sh) (M' := M) (ρ' := [some (.cel n, false), s1, some (.py (nn m), false), some (.py (nn w), false), s4, none]) (ρw := [some (.cel n, false), s1, some (.py (nn m), false), some (.py (nn w), false), s4, none])
    (fun (i : Nat) => D.py (nn i)) (fun x => [some (.cel n, false), s1, some (.py (nn m), false), some (.py (nn w), false), s4, some (.py (nn x), false)])
    (fun done rs M => ∃ ks : List Nat, rs = ks.map (fun i => D.py (nn i)) ∧ ks.length = done.length ∧ (∀ x ∈ ks, x < 10) ∧ PotAt M n (c + done.length)) (List.range m)
    (by simp [er]) (by simp) (by simp; omega) rfl ⟨[], rfl, rfl, (fun _ h => nomatch h), hp⟩ (fun _ _ => rfl)
    (fun done x rest rs M e ⟨ks, q1, q2, q3, q4⟩ => by
      obtain ⟨rfl, hlen⟩ := rng_one e
      obtain ⟨v, M1, t1, t2, t3⟩ := take noClo q4 (by omega) (u := w) (by omega) (by omega)
      refine ⟨_, M, true, e_no, rfl, .inl ⟨rfl, .py (nn v), .sh, M1, by simp [t1], rfl, ks ++ [v], by rw [q1]; simp, by simp [q2], fun x hx => ?_, by rw [List.length_append, List.length_singleton]; exact t3.mono (by omega)⟩⟩
      rcases List.mem_append.mp hx with hx | hx
      · exact q3 x hx
      · rw [List.mem_singleton.mp hx]
        omega) rfl
  rw [List.length_range] at k1 k3
  rw [show mkL (ks.map fun i => D.py (nn i)) = .py (.list (ks.map nn)) from mkL_map nn ks] at e1
  exact ⟨ks, M1, k1, k2, k3, e1⟩
theorem s_law_jobs (C : Clo) {M : Mem} {n c most m : Nat} (hp : PotAt M n c) (hc : c ≤ 10 ^ 7) (h1 : 1 ≤ most) (h2 : most ≤ 5) (hm : m ≤ 3) : ∃ (jobs : List (List Nat)) (M' : Mem), f_law_jobs C [.cel n, .py (nn most), .py (nn m)] M = some (.ok ⟨.py (js jobs), false, M'⟩) ∧ OkS m most jobs ∧ PotAt M' n (c + 20) := by
  have hz : (100 : Nat) ≤ sizeLine := by decide
  obtain ⟨p, M1, p1, p2, p3⟩ := one_of noClo hp (by omega) (ps := [nn 3, nn 10]) (by simp) (by decide)
  obtain ⟨w, hw1, hw2, rfl⟩ : ∃ w : Nat, 0 < w ∧ w ≤ 10 ∧ p = nn w := by
    simp at p1
    rcases p1 with e | e
    · exact ⟨3, by decide, by decide, e⟩
    · exact ⟨10, by decide, by decide, e⟩
  obtain ⟨v, M2, t1, t2, t3⟩ := take noClo p3 (by omega) (u := most) (by omega) (by omega)
  have er : rngL 0 ((v + 1 : Nat) : Int) 1 = some ((List.range (v + 1)).map fun (i : Nat) => D.py (nn i)) := rngL_up (by omega)
  have ea : o2 .add (.py (.int 1)) (.py (nn v)) = some (.py (nn (v + 1)), false) := by
    show some (D.py (.int (1 + (v : Int))), false) = some (D.py (.int ((v + 1 : Nat) : Int)), false)
    rw [show (1 + (v : Int)) = ((v + 1 : Nat) : Int) by omega]
  have hg : ∀ k : Int → RE, gi (.py (nn (v + 1))) k = k ((v + 1 : Nat) : Int) := fun _ => rfl
  obtain ⟨ys, M3, e1, jobs, rfl, k1, k2, k3, k4⟩ := comp_st (Fs := F_law_jobs) (C := lamC F_law_jobs []) (own := [("lap", 4)]) (t := .nm 4) (src := .rng1 (.bin .add (.lit (.int 1)) (.call 18 (.cons false (.var 0) (.cons false (.var 1) .nil))))) (cond := .no) (elt := .bi .tuple (.cons false c_law_jobs_1 .nil))
    (ρ := [some (.cel n, false), some (.py (nn most), false), some (.py (nn m), false), some (.py (nn w), false), none, none]) (M := M1) (sd := .ml ((List.range (v + 1)).map fun (i : Nat) => D.py (nn i))) (sm := .sh) (M' := M2) (ρ' := [some (.cel n, false), some (.py (nn most), false), some (.py (nn m), false), some (.py (nn w), false), none, none]) (ρw := [some (.cel n, false), some (.py (nn most), false), some (.py (nn m), false), some (.py (nn w), false), none, none])
    (fun (i : Nat) => D.py (nn i)) (fun x => [some (.cel n, false), some (.py (nn most), false), some (.py (nn m), false), some (.py (nn w), false), some (.py (nn x), false), none])
    (fun done rs M => ∃ ks : List (List Nat), rs = ks.map (fun r => D.py (tn r)) ∧ ks.length = done.length ∧ (∀ j ∈ ks, j.length = m) ∧ (∀ j ∈ ks, ∀ x ∈ j, x < 10) ∧ PotAt M n (c + 2 + m * done.length)) (List.range (v + 1))
    (by
      simp only [s_r1, e_bin, e_lit, bz_ok, e_call, l_cons, l_nil, e_var, List.getElem?_cons_zero, List.getElem?_cons_succ, vget_f, C_law_jobs_18, callF_d, List.map_cons, List.map_nil, cl_cons, cl_cel, cl_py, cl_nil, Bool.and_self, if_true, t1, mdOf_f, fzs_c, fzs_n, fz_sh, ea, liftO_s, hg, er, ob_s]) (by simp) (by simp; omega) rfl ⟨[], rfl, rfl, (fun _ h => nomatch h), (fun _ h => nomatch h), t3⟩ (fun _ _ => rfl)
    (fun done x rest rs M e ⟨ks, q1, q2, q3, q4, q5⟩ => by
      obtain ⟨rfl, hlen⟩ := rng_one e
      have hq : m * done.length ≤ 3 * 5 := Nat.mul_le_mul hm (by omega)
      obtain ⟨row, M1, u1, u2, u3, u4⟩ := row_turn (lamC F_law_jobs []) q5 (by omega) hw1 hw2 hm (some (.py (nn most), false)) (some (.py (nn done.length), false))
      refine ⟨_, M, true, e_no, rfl, .inl ⟨rfl, .py (tn row), .sh, M1, by simp [u4, tn], rfl, ks ++ [row], by rw [q1]; simp, by simp [q2], fun j hj => ?_, fun j hj => ?_, by rw [List.length_append, List.length_singleton, Nat.mul_add]; exact u3.mono (by omega)⟩⟩
      · rcases List.mem_append.mp hj with hj | hj
        · exact q3 j hj
        · rw [List.mem_singleton.mp hj]
          exact u1
      · rcases List.mem_append.mp hj with hj | hj
        · exact q4 j hj
        · rw [List.mem_singleton.mp hj]
          exact u2) rfl
  rw [List.length_range] at k1 k4
  rw [show mkL (jobs.map fun r => D.py (tn r)) = .py (.list (jobs.map tn)) from mkL_map tn jobs] at e1
  have hq : m * (v + 1) ≤ 3 * 5 := Nat.mul_le_mul hm (by omega)
  have e1' : evE F_law_jobs (lamC F_law_jobs []) c_law_jobs_2 [some (.cel n, false), some (.py (nn most), false), some (.py (nn m), false), some (.py (nn w), false), none, none] M1 = some (.ok ⟨.py (.list (jobs.map tn)), .fr, [some (.cel n, false), some (.py (nn most), false), some (.py (nn m), false), some (.py (nn w), false), none, none], M3⟩) := e1
  refine ⟨jobs, M3, ?_, ⟨k2, k3, fun h => by rw [h] at k1; simp at k1, by omega⟩, k4.mono (by omega)⟩
  have p2' : f_law_of noClo [.cel n, .py (.list [.int 3, .int 10])] M = some (.ok ⟨.py (nn w), false, M1⟩) := p2
  simp [f_law_jobs, runF, d_law_jobs, startN, p2', e1', js, show (2 : Nat) ≤ sizeLine from by omega]
end k31

set_option exponentiation.threshold 5000
namespace k31
open Ev PySem
def smB : PyData → Bool
  | .tuple [_, .tuple qs] => decide (qs.length ≤ 100)
  | _ => true
theorem sm_of {p : PyData} (h : smB p = true) : Sm p := fun t qs e => by
  subst e
  exact of_decide_eq_true h
def ODD : List PyData := [.none, .bool true, .bool false, .int 0, .int 1, .int (-1), .int 2, .int 1001, .str "", .str "a", .str "map", .str "to", .tuple [], .list [], .tuple [.int 0], .tuple [.tuple []], .list [.int 1], .tuple [.bool true], .tuple [.none],
  .tuple [.str "a"], .tuple [.tuple [.int 0], .tuple []], .tuple [.int 7], .tuple [.int 0, .list [.int 0]], .tuple [.tuple [.int 0], .tuple [.tuple [.int 0, .int 1]]], .list [.tuple [.int 0], .tuple [.tuple [.int 0, .int 0]]], .str "map 0", .int (10 ^ 20)]
theorem ODD_sm : ∀ p ∈ ODD, Sm p := by
  have h : ODD.all smB = true := by rfl
  rw [List.all_eq_true] at h
  exact fun p hp => sm_of (h p hp)
theorem s_law_odd (C : Clo) {M : Mem} {n c : Nat} (hp : PotAt M n c) (hc : c ≤ 10 ^ 8) : ∃ (p : PyData) (M' : Mem), p ∈ ODD ∧ f_law_odd C [.cel n] M = some (.ok ⟨.py p, false, M'⟩) ∧ PotAt M' n (c + 1) := by
  obtain ⟨p, M1, p1, p2, p3⟩ := one_of noClo hp (by omega) (ps := ODD) (by simp [ODD]) (by decide)
  refine ⟨p, M1, p1, ?_, p3⟩
  have hz : (100 : Nat) ≤ sizeLine := by decide
  have hA : o2 .pow (.py (.int 10)) (.py (.int 20)) = some (.py (.int (10 ^ 20)), false) := pow_ok (j := 20) (lt_up (a := 40) (by decide) (by decide)) (by decide)
  unfold ODD at p2
  simp [-Int.reducePow, f_law_odd, runF, d_law_odd, startN, hA, p2, show (0 : Nat) ≤ sizeLine from by omega, show (1 : Nat) ≤ sizeLine from by omega, show (2 : Nat) ≤ sizeLine from by omega, show (8 : Nat) ≤ sizeLine from by omega, show (19 : Nat) ≤ sizeLine from by omega, show (27 : Nat) ≤ sizeLine from by omega]
end k31

set_option exponentiation.threshold 5000
namespace k31
open Ev PySem
theorem ne_nil {ps : List PyData} (hs : SeqAt.shaped (.tuple ps) = true) : cm .ne (.py (.tuple ps)) (.py (.tuple [])) = some (!ps.isEmpty) := by
  have e : eqP (.py (.tuple ps)) (.py (.tuple [])) = some ps.isEmpty := by
    show (if SeqAt.shaped (.tuple ps) && SeqAt.shaped (.tuple []) then some (PyData.eqv (.tuple ps) (.tuple [])) else none) = _
    rw [hs, show SeqAt.shaped (.tuple []) = true from rfl]
    simp only [Bool.and_self, if_true]
    cases ps <;> simp [PyData.eqv, PyData.eqvAll]
  have h : cm .ne (.py (.tuple ps)) (.py (.tuple [])) = notO (eqD (.py (.tuple ps)) (.py (.tuple []))) := rfl
  rw [h]
  unfold eqD orO
  rw [e] <;> rfl
theorem lay_tn : ∀ l : List Nat, PyData.canLayAll0 (l.map nn) = true
  | [] => rfl
  | x :: l => by
    show ((nn x).canLay0 && PyData.canLayAll0 (l.map nn)) = true
    rw [lay_tn l]
    rfl
theorem shaped_tn (l : List Nat) : SeqAt.shaped (.tuple (l.map nn)) = true := by
  have e : (tn l).depth = 1 := depth_tn l
  show (PyData.canLayAll0 (l.map nn) && decide ((tn l).depth ≤ 64)) = true
  rw [lay_tn, e]
  rfl
def told (T : Nat) (os : List Nat) : PyData := .tuple [nn T, tn os]
theorem shaped_told (T : Nat) (os : List Nat) : SeqAt.shaped (.tuple [nn T, tn os]) = true := by
  have e : (tn os).depth = 1 := depth_tn os
  have h1 : PyData.canLayAll0 [nn T, tn os] = true := by
    show ((nn T).canLay0 && ((tn os).canLay0 && true)) = true
    rw [show (tn os).canLay0 = PyData.canLayAll0 (os.map nn) from rfl, lay_tn]
    rfl
  show (PyData.canLayAll0 [nn T, tn os] && decide (max (nn T).depth (max (tn os).depth 0) + 1 ≤ 64)) = true
  rw [h1, e]
  rfl
theorem str_i {i : Int} (h : i.natAbs < 10 ^ 12) : ∃ s : Str, bi .str [.py (.int i)] = some (.py (.str s), false) := by
  refine ⟨((toString i : String) : Str), ?_⟩
  · show orB biStrI biStrS [.py (.int i)] = _
    unfold orB biStrI
    have h3 : i.natAbs.log2 < 1920 := by
      by_cases h0 : i.natAbs = 0
      · rw [h0]; decide
      · refine (Nat.log2_lt h0).mpr (Nat.lt_trans h ?_)
        exact Nat.lt_of_lt_of_le (show (10 : Nat) ^ 12 < 2 ^ 40 by decide) (Nat.pow_le_pow_right (by decide) (by decide))
    simp only
    rw [if_pos h3]
    rfl
theorem bent_i (g : Fn) (C : Clo) {M : Mem} {n c : Nat} (hp : PotAt M n c) (hc : c ≤ 10 ^ 8) {i : Int} (hi : i.natAbs < 10 ^ 12) : ∃ (p : PyData) (M' : Mem), runF (F_law_bent ++ [g]) d_law_bent C [.cel n, .py (.int i)] M = some (.ok ⟨.py p, false, M'⟩) ∧ PotAt M' n (c + 1) := by
  have hz : (100 : Nat) ≤ sizeLine := by decide
  obtain ⟨s, hs⟩ := str_i hi
  obtain ⟨p, M1, p1, p2, p3⟩ := one_of noClo hp (by omega) (ps := [.int (i + 1), .int (i - 1), .int (-i), .str s, .none, .bool (i == 1), .tuple [.int i]]) (by simp) (show (7 : Nat) < 2 ^ 30 by decide)
  refine ⟨p, M1, ?_, p3⟩
  simp [runF, d_law_bent, startN, Ev.isi, hs, p2, show (1 : Nat) ≤ sizeLine from by omega, show (7 : Nat) ≤ sizeLine from by omega]
theorem cut_len {α : Type} (xs : List α) (lo hi : Option Int) : (cutL xs lo hi).length ≤ xs.length := by
  unfold cutL
  rw [List.length_take, List.length_drop]
  omega
def bends (ps : List PyData) : List PyData := [.list ps, .tuple (ps.drop 1), .tuple (cutL ps none (some (-1))), .tuple (ps ++ cutL ps (some (-1)) none), .tuple ps.reverse, .tuple [], .none]
theorem rev_t (ps : List PyData) : revD (.py (.tuple ps)) = some (.py (.tuple ps.reverse), false) := (rfl)
theorem part_n (b : Bool) (n : Nat) : part b (.py (nn n)) = some (some (n : Int)) := (rfl)
theorem add_n1 (a : Nat) : o2 .add (.py (nn a)) (.py (.int 1)) = some (.py (nn (a + 1)), false) := (rfl)
theorem gt_n0 (a : Nat) : cm .gt (.py (nn a)) (.py (.int 0)) = some (decide (0 < a)) := gt_n a 0
theorem bent_tup (g : Fn) (C : Clo) {M : Mem} {n c e : Nat} (hp : PotAt M n c) (hc : c ≤ 10 ^ 7) {ps : List PyData} (hs : SeqAt.shaped (.tuple ps) = true) (hne : ps ≠ []) (hl : ps.length ≤ 50) (Q : PyData → PyData → Prop)
    (hg : ∀ (q : PyData) (M1 : Mem), q ∈ ps → PotAt M1 n (c + 2) → ∃ r M2, g noClo [.cel n, .py q] M1 = some (.ok ⟨.py r, false, M2⟩) ∧ Q q r ∧ PotAt M2 n (c + 2 + e)) :
    ∃ (p : PyData) (M' : Mem), runF (F_law_bent ++ [g]) d_law_bent C [.cel n, .py (.tuple ps)] M = some (.ok ⟨.py p, false, M'⟩) ∧ PotAt M' n (c + 2 + e) ∧
      ((∃ k q r, ps[k]? = some q ∧ Q q r ∧ p = .tuple ((ps.take k ++ [r]) ++ ps.drop (k + 1))) ∨ p ∈ bends ps) := by
  have hz : (1000 : Nat) ≤ sizeLine := by decide
  obtain ⟨v, M1, t1, t2, t3⟩ := take noClo hp (by omega) (u := 5) (by decide) (by decide)
  have t1' : f_law_take noClo [.cel n, .py (.int 5)] M = some (.ok ⟨.py (nn v), false, M1⟩) := t1
  have hnn := ne_nil hs
  have hem : ps.isEmpty = false := by
    cases ps with
    | nil => exact absurd rfl hne
    | cons _ _ => rfl
  rw [hem] at hnn
  by_cases hv : 0 < v
  · obtain ⟨k, M2, k1, k2, k3⟩ := take noClo t3 (by omega) (u := ps.length) (List.length_pos_iff.mpr hne) (by omega)
    have k1' : f_law_take noClo [.cel n, .py (.int (ps.length : Int))] M1 = some (.ok ⟨.py (nn k), false, M2⟩) := k1
    obtain ⟨r, M3, g1, g2, g3⟩ := hg ps[k] M2 (List.getElem_mem k2) k3
    have hk : ps[k]? = some ps[k] := List.getElem?_eq_getElem k2
    refine ⟨.tuple ((ps.take k ++ [r]) ++ ps.drop (k + 1)), M3, ?_, g3, .inl ⟨k, ps[k], r, hk, g2, rfl⟩⟩
    have e1 : ixD M2 (.py (.tuple ps)) (.py (nn k)) = some (.py ps[k]) := ixt_n hk
    have l1 : (ps.take k).length ≤ 50 := Nat.le_trans (List.length_take_le _ _) (by omega)
    have l2 : (ps.drop (k + 1)).length ≤ 50 := by rw [List.length_drop]; omega
    have s1 : ∀ M' : Mem, evE (F_law_bent ++ [g]) (lamC (F_law_bent ++ [g]) []) (.slc (.var 1) .no (.var 2)) [some (.cel n, false), some (.py (.tuple ps), false), some (.py (nn k), false), none] M' = some (.ok ⟨.py (.tuple (ps.take k)), .sh, [some (.cel n, false), some (.py (.tuple ps), false), some (.py (nn k), false), none], M'⟩) := fun M' => by
      simp [part_n]
    have s2 : ∀ M' : Mem, evE (F_law_bent ++ [g]) (lamC (F_law_bent ++ [g]) []) (.slc (.var 1) (.bin .add (.var 2) (.lit (.int 1))) .no) [some (.cel n, false), some (.py (.tuple ps), false), some (.py (nn k), false), none] M' = some (.ok ⟨.py (.tuple (ps.drop (k + 1))), .sh, [some (.cel n, false), some (.py (.tuple ps), false), some (.py (nn k), false), none], M'⟩) := fun M' => by
      have := cut_from ps (k + 1)
      simp [part_n, add_n1, -cut_from]
      exact this
    have a1 : o2 .add (.py (.tuple (ps.take k))) (.py (.tuple [r])) = some (.py (.tuple (ps.take k ++ [r])), false) := by
      rw [add_t, if_pos (by rw [List.length_singleton]; omega)]
    have a2 : o2 .add (.py (.tuple (ps.take k ++ [r]))) (.py (.tuple (ps.drop (k + 1)))) = some (.py (.tuple ((ps.take k ++ [r]) ++ ps.drop (k + 1))), false) := by
      rw [add_t, if_pos (by rw [List.length_append, List.length_singleton]; omega)]
    generalize ps.take k = A at s1 a1 a2 ⊢
    generalize A ++ [r] = A2 at a1 a2 ⊢
    generalize ps.drop (k + 1) = B at s2 a2 ⊢
    generalize A2 ++ B = R at a2 ⊢
    generalize ps[k] = q at g1 e1
    simp [-e_slc, runF, d_law_bent, startN, Ev.isi, hnn, t1', gt_n0, hv, k1', s1, s2, e1, g1, a1, a2, show (1 : Nat) ≤ sizeLine from by omega]
  · obtain ⟨p, M2, p1, p2, p3⟩ := one_of noClo t3 (by omega) (ps := bends ps) (by simp [bends]) (show (7 : Nat) < 2 ^ 30 by decide)
    refine ⟨p, M2, ?_, p3.mono (by omega), .inr p1⟩
    unfold bends at p2
    have a1 : o2 .add (.py (.tuple ps)) (.py (.tuple (cutL ps (some (-1)) none))) = some (.py (.tuple (ps ++ cutL ps (some (-1)) none)), false) := by
      rw [add_t, if_pos]
      have := cut_len ps (some (-1)) none
      omega
    simp [-List.drop_one, runF, d_law_bent, startN, Ev.isi, hnn, t1', gt_n0, hv, p2, a1, rev_t, show (0 : Nat) ≤ sizeLine from by omega, show (7 : Nat) ≤ sizeLine from by omega]
theorem bends_len {ps : List PyData} (hl : ps.length ≤ 40) : ∀ p ∈ bends ps, ∀ qs, p = .tuple qs → qs.length ≤ 100 := by
  intro p hp qs e
  subst e
  have h1 := cut_len ps none (some (-1))
  have h2 := cut_len ps (some (-1)) none
  simp only [bends, List.mem_cons, List.not_mem_nil, or_false, PyData.tuple.injEq, reduceCtorEq, false_or] at hp
  rcases hp with rfl | rfl | rfl | rfl | rfl
  · rw [List.length_drop]
    omega
  · omega
  · rw [List.length_append]
    omega
  · rw [List.length_reverse]
    omega
  · exact Nat.zero_le _
theorem bent_o (j : Nat) {M : Mem} {n c : Nat} (hp : PotAt M n c) (hc : c ≤ 10 ^ 6) {os : List Nat} (hne : os ≠ []) (hl : os.length ≤ 20) (hx : ∀ x ∈ os, x < 100) : ∃ (p : PyData) (M' : Mem), recF F_law_bent d_law_bent (j + 2) noClo [.cel n, .py (tn os)] M = some (.ok ⟨.py p, false, M'⟩) ∧ (∀ qs, p = .tuple qs → qs.length ≤ 100) ∧ PotAt M' n (c + 3) := by
  have hll : (os.map nn).length ≤ 40 := by rw [List.length_map]; omega
  obtain ⟨p, M', h1, h2, h3⟩ := bent_tup (recF F_law_bent d_law_bent (j + 1)) noClo (e := 1) hp (by omega) (ps := os.map nn) (shaped_tn os) (by simpa using hne) (by omega) (fun _ _ => True)
    (fun q M1 hq hp1 => by
      obtain ⟨x, hxm, rfl⟩ := List.mem_map.mp hq
      have := hx x hxm
      obtain ⟨p, M2, g1, g2⟩ := bent_i (recF F_law_bent d_law_bent j) noClo hp1 (by omega) (i := (x : Int)) (by omega)
      exact ⟨p, M2, g1, trivial, g2⟩)
  refine ⟨p, M', h1, ?_, h2⟩
  rcases h3 with ⟨k, q, r, hk, _, rfl⟩ | h3
  · intro qs e
    rw [← PyData.tuple.inj e, List.length_append, List.length_append, List.length_drop, List.length_singleton]
    have := List.length_take_le' k (os.map nn)
    omega
  · exact bends_len hll p h3
theorem s_law_bent (C : Clo) {M : Mem} {n c : Nat} (hp : PotAt M n c) (hc : c ≤ 10 ^ 5) {T : Nat} (hT : T < 1000) {os : List Nat} (hne : os ≠ []) (hl : os.length ≤ 20) (hx : ∀ x ∈ os, x < 100) : ∃ (p : PyData) (M' : Mem), f_law_bent C [.cel n, .py (told T os)] M = some (.ok ⟨.py p, false, M'⟩) ∧ Sm p ∧ PotAt M' n (c + 5) := by
  obtain ⟨p, M', h1, h2, h3⟩ := bent_tup (recF F_law_bent d_law_bent 11) C (e := 3) hp (by omega) (ps := [nn T, tn os]) (shaped_told T os) (by simp) (show (2 : Nat) ≤ 50 by decide) (fun q r => q = tn os → ∀ qs, r = .tuple qs → qs.length ≤ 100)
    (fun q M1 hq hp1 => by
      simp only [List.mem_cons, List.not_mem_nil, or_false] at hq
      rcases hq with rfl | rfl
      · obtain ⟨p, M2, g1, g2⟩ := bent_i (recF F_law_bent d_law_bent 10) noClo hp1 (by omega) (i := (T : Int)) (by omega)
        exact ⟨p, M2, g1, (fun e => nomatch e), g2.mono (by omega)⟩
      · obtain ⟨p, M2, g1, g2, g3⟩ := bent_o 9 hp1 (by omega) hne hl hx
        exact ⟨p, M2, g1, (fun _ => g2), g3⟩)
  refine ⟨p, M', h1, ?_, h2⟩
  rcases h3 with ⟨k, q, r, hk, hq, rfl⟩ | h3
  · match k, hk with
    | 0, hk =>
      intro t qs e
      have e2 : [r, tn os] = [t, .tuple qs] := PyData.tuple.inj e
      have e3 : tn os = .tuple qs := by
        injection e2 with _ e2
        injection e2 with e2 _
      rw [← PyData.tuple.inj e3, List.length_map]
      omega
    | 1, hk =>
      intro t qs e
      have hk' : tn os = q := Option.some.inj hk
      have e2 : [nn T, r] = [t, .tuple qs] := PyData.tuple.inj e
      have e3 : r = .tuple qs := by
        injection e2 with _ e2
        injection e2 with e2 _
      exact hq hk'.symm qs e3
    | k + 2, hk => simp at hk
  · simp only [bends, List.mem_cons, List.not_mem_nil, or_false] at h3
    rcases h3 with rfl | rfl | rfl | rfl | rfl | rfl | rfl <;> exact sm_of rfl
end k31

set_option exponentiation.threshold 5000
namespace k31
open Ev PySem PySem.Spec PyProof.Rows L2
/-! what is refused -/
def B8 : List PyData := (List.replicate 21 [PyData.tuple [.int 1, .int 1]]).flatten
def T4 : List PyData := (List.replicate 7 [PyData.tuple [.int 1, .int 1, .int 1]]).flatten
def rep (n : Nat) (x : PyData) : List PyData := List.replicate n x
def BAD : List PyData := [.none, .tuple [], .list [.tuple [.int 1, .int 1]], .tuple [.tuple [.int 1]], .tuple [.tuple [.int 1, .int (-1)]], .tuple [.tuple [.int 1001, .int 0]], .tuple [.tuple [.bool true, .int 1]], .tuple B8]
def THR : List PyData := [.none, .tuple [], .tuple [.tuple [.int 1, .int 1]], .tuple T4, .tuple [.tuple [.int 1, .int 1, .int (-1)]]]
theorem bad2 {p : PyData} (hp : p ∈ BAD) (C : Clo) (M : Mem) : f_check_jobs C [.py p, .py (.int 20), .py (.int 2)] M = some (.er 1 p M) := by
  simp only [BAD, List.mem_cons, List.not_mem_nil, or_false] at hp
  rcases hp with rfl | rfl | rfl | rfl | rfl | rfl | rfl | rfl <;> kernel_rfl
theorem bad3 {p : PyData} (hp : p ∈ BAD) (C : Clo) (M : Mem) : f_check_jobs C [.py p, .py (.int 20), .py (.int 3)] M = some (.er 1 p M) := by
  simp only [BAD, List.mem_cons, List.not_mem_nil, or_false] at hp
  rcases hp with rfl | rfl | rfl | rfl | rfl | rfl | rfl | rfl <;> kernel_rfl
theorem thr {p : PyData} (hp : p ∈ THR) (C : Clo) (M : Mem) : f_check_jobs C [.py p, .py (.int 6), .py (.int 3)] M = some (.er 1 p M) := by
  simp only [THR, List.mem_cons, List.not_mem_nil, or_false] at hp
  rcases hp with rfl | rfl | rfl | rfl | rfl <;> kernel_rfl
def rpB (p : PyData) : Bool := p.showable && !p.hasDict && decide (p.depth ≤ 60) && p.leavesShort 13 && decide (p.weight ≤ 2 ^ 20)
theorem repr_B {p : PyData} (h : rpB p = true) : bi .repr [.py p] = some (.py (.str p.shown), false) := by
  unfold rpB at h
  simp only [Bool.and_eq_true, decide_eq_true_eq, Bool.not_eq_true'] at h
  obtain ⟨⟨⟨⟨h1, h2⟩, h3⟩, h4⟩, h5⟩ := h
  show (if p.showable && !p.hasDict && decide (p.depth ≤ 60) && decide (p.shown.length ≤ sizeLine) then _ else _) = _
  rw [if_pos]
  · rfl
  · have b := PyData.shown_fits (by decide) (by decide) h4 h5
    rw [h1, h2, decide_eq_true b, decide_eq_true h3] <;> rfl
theorem rp_BAD : ∀ p ∈ BAD, rpB p = true := by
  have h : BAD.all rpB = true := by kernel_rfl
  exact List.all_eq_true.mp h
theorem rp_THR : ∀ p ∈ THR, rpB p = true := by
  have h : THR.all rpB = true := by kernel_rfl
  exact List.all_eq_true.mp h
def OD (n : Nat) : List PyData := [.none, .tuple [], .tuple (rep (n + 1) (.int 0)), .list [.int 0], .tuple (rep n (nn n)), .tuple (.bool true :: rep n (.int 1))]
theorem OD_ok {n : Nat} (h1 : 1 ≤ n) (h5 : n ≤ 5) : ∀ p ∈ OD n, isOrd n p = false ∧ rpB p = true := by
  have h : (OD n).all (fun p => !isOrd n p && rpB p) = true := by
    have : n = 1 ∨ n = 2 ∨ n = 3 ∨ n = 4 ∨ n = 5 := by omega
    rcases this with rfl | rfl | rfl | rfl | rfl <;> kernel_rfl
  rw [List.all_eq_true] at h
  intro p hp
  have := h p hp
  simpa using this
theorem odd_no {n : Nat} (h1 : 1 ≤ n) (h5 : n ≤ 5) {p : PyData} (hp : p ∈ OD n) (C : Clo) (M : Mem) : f_check_order C [.py (nn n), .py p] M = some (.er 2 p M) := by
  simp [f_check_order, runF, d_check_order, startN, s_is_order noClo M (show n ≤ 30 by omega), (OD_ok h1 h5 p hp).1]
def wordOf (c : Nat) : Str := if c = 1 then "jobs" else "order"
theorem c_ref (C : Nv → Clo) (M : Mem) {c : Nat} (hc : c = 1 ∨ c = 2) (s0 s1 s2 s3 s4 s5 s6 s7 s8 s9 : Slot) : evE F_law_are_refused C c_law_are_refused_1 [s0, s1, s2, s3, s4, s5, s6, s7, s8, s9, some (.py (.list [.tuple [.bool (c == 1), .str "jobs"], .tuple [.bool (c == 2), .str "order"]]), true), none, none] M =
    some (.ok ⟨.py (.list [.str (wordOf c)]), .fr, [s0, s1, s2, s3, s4, s5, s6, s7, s8, s9, some (.py (.list [.tuple [.bool (c == 1), .str "jobs"], .tuple [.bool (c == 2), .str "order"]]), true), none, none], M⟩) := by
  rcases hc with rfl | rfl <;> kernel_rfl
theorem ref_turn (C : Nv → Clo) {M : Mem} {d0 d1 d2 d3 d4 d5 : D} {b5 : Bool} {s9 s10 : Slot} {k c : Nat} {p : PyData} (hc : c = 1 ∨ c = 2) (hr : rpB p = true)
    (hC : ∀ a b : Slot, C [some (d0, false), some (d1, false), some (d2, false), some (d3, false), some (d4, false), some (d5, false), some (.clo k, false), some (.py (.str (wordOf c)), false), some (.py p, false), a, b, none, none] k M = some (.er c p M)) :
    ∃ t9 t10 : Slot, evSs F_law_are_refused C b_law_are_refused_1 [some (d0, false), some (d1, false), some (d2, false), some (d3, false), some (d4, false), some (d5, b5), some (.clo k, false), some (.py (.str (wordOf c)), false), some (.py p, false), s9, s10, none, none] M =
      some (.ok (.nx [some (d0, false), some (d1, false), some (d2, false), some (d3, false), some (d4, false), some (d5, false), some (.clo k, false), some (.py (.str (wordOf c)), false), some (.py p, false), t9, t10, none, none] M)) := by
  have hz : (100 : Nat) ≤ sizeLine := by decide
  have hrp := repr_B hr
  have hmt : ∀ r : List D, allPy (.exc c p :: r) = none := fun _ => rfl
  have hix : ∀ q : D, ixD M (.mt [.exc c p, q]) (.py (.int 0)) = some (.exc c p) := fun _ => rfl
  have hat : attrD (.exc c p) = some (.py p) := rfl
  have hi1 : Ev.isi (.exc 1) (.exc c p) = some (c == 1) := by rcases hc with rfl | rfl <;> rfl
  have hi2 : Ev.isi (.exc 2) (.exc c p) = some (c == 2) := by rcases hc with rfl | rfl <;> rfl
  have hq : cm .ne (.py (.list [.str (wordOf c)])) (.py (.list [.str (wordOf c)])) = some false := by rcases hc with rfl | rfl <;> kernel_rfl
  have hcc := c_ref C M hc (some (d0, false)) (some (d1, false)) (some (d2, false)) (some (d3, false)) (some (d4, false)) (some (d5, false)) (some (.clo k, false)) (some (.py (.str (wordOf c)), false)) (some (.py p, false)) (some (.exc c p, false))
  have h2 : (2 : Nat) ≤ sizeLine := by omega
  have h1 : (1 : Nat) ≤ sizeLine := by omega
  refine ⟨some (.exc c p, false), some (.py (.list [.tuple [.bool (c == 1), .str "jobs"], .tuple [.bool (c == 2), .str "order"]]), true), ?_⟩
  generalize (c == 1) = x1 at *
  generalize (c == 2) = x2 at *
  generalize wordOf c = w at *
  rcases s9 with _ | ⟨d9, b9⟩ <;> rcases s10 with _ | ⟨d10, b10⟩ <;>
    simp [b_law_are_refused_1, hC, hmt, hix, hat, hi1, hi2, hcc, hq, hrp, h1, h2]
end k31

set_option exponentiation.threshold 5000
namespace k31
open Ev PySem PySem.Spec PyProof.Rows L2
theorem mul_rep {k : Nat} (h1 : 1 ≤ k) (h2 : k ≤ 1000) (x : PyData) : o2 .mul (.py (.tuple [x])) (.py (nn k)) = some (.py (.tuple (rep k x)), false) := by
  show orO (oInt (fun i j => bits 4000 i && bits 4000 j) fun i j => i * j) (orO oRepT (orO oRepT1 oRepL)) (.py (.tuple [x])) (.py (.int (k : Int))) = _
  by_cases hk : k = 1
  · subst hk
    rfl
  · have e : oRepT (.py (.tuple [x])) (.py (.int (k : Int))) = some (.py (.tuple (List.replicate (k : Int).toNat [x]).flatten), false) := by
      show (if decide (2 ≤ (k : Int)) && decide ((k : Int) ≤ 1000) && decide ([x].length ≤ 1000) && !([x] : List PyData).isEmpty then some (D.py (.tuple (List.replicate (k : Int).toNat [x]).flatten), false) else none) = _
      rw [decide_eq_true (show 2 ≤ (k : Int) by omega), decide_eq_true (show (k : Int) ≤ 1000 by omega)]
      rfl
    have e0 : oInt (fun i j => bits 4000 i && bits 4000 j) (fun i j => i * j) (.py (.tuple [x])) (.py (.int (k : Int))) = none := rfl
    have e3 : ∀ k : Nat, (List.replicate k [x]).flatten = rep k x := fun k => by
      unfold rep
      induction k with
      | zero => rfl
      | succ k ih => rw [List.replicate_succ, List.flatten_cons, ih, List.replicate_succ] <;> rfl
    rw [Int.toNat_natCast, e3] at e
    unfold orO
    rw [e0]
    simp only
    rw [e]
def rowD (x : Nat × Nat × PyData) : D := .mt [.clo x.1, .py (.str (wordOf x.2.1)), .py x.2.2]
theorem ref_loop (C : Nv → Clo) {M : Mem} {d0 d1 d2 d3 d4 d5 : D} : ∀ (ks : List (Nat × Nat × PyData)) (b5 : Bool) (s6 s7 s8 s9 s10 : Slot),
    (∀ x ∈ ks, (x.2.1 = 1 ∨ x.2.1 = 2) ∧ rpB x.2.2 = true ∧ ∀ s6 s7 s8 a b : Slot, C [some (d0, false), some (d1, false), some (d2, false), some (d3, false), some (d4, false), some (d5, false), s6, s7, s8, a, b, none, none] x.1 M = some (.er x.2.1 x.2.2 M)) →
    ∃ ρ' : Nv, forE F_law_are_refused C (.tp [.nm 6, .nm 7, .nm 8]) b_law_are_refused_1 (ks.map rowD) [some (d0, false), some (d1, false), some (d2, false), some (d3, false), some (d4, false), some (d5, b5), s6, s7, s8, s9, s10, none, none] M = some (.ok (.nx ρ' M))
  | [], b5, s6, s7, s8, s9, s10, _ => ⟨_, rfl⟩
  | x :: ks, b5, s6, s7, s8, s9, s10, h => by
    obtain ⟨h1, h2, h3⟩ := h x List.mem_cons_self
    obtain ⟨t9, t10, e⟩ := ref_turn C (d0 := d0) (d1 := d1) (d2 := d2) (d3 := d3) (d4 := d4) (d5 := d5) (b5 := b5) (s9 := s9) (s10 := s10) (k := x.1) h1 h2 (fun a b => h3 _ _ _ a b)
    obtain ⟨ρ', ih⟩ := ref_loop C ks false (some (.clo x.1, false)) (some (.py (.str (wordOf x.2.1)), false)) (some (.py x.2.2, false)) t9 t10 (fun y hy => h y (List.mem_cons_of_mem _ hy))
    refine ⟨ρ', ?_⟩
    rw [List.map_cons, forE_cons]
    have hb : bindT (.tp [.nm 6, .nm 7, .nm 8]) (rowD x) [some (d0, false), some (d1, false), some (d2, false), some (d3, false), some (d4, false), some (d5, b5), s6, s7, s8, s9, s10, none, none] = some [some (d0, false), some (d1, false), some (d2, false), some (d3, false), some (d4, false), some (d5, b5), some (.clo x.1, false), some (.py (.str (wordOf x.2.1)), false), some (.py x.2.2, false), s9, s10, none, none] := rfl
    rw [hb, ob_s, e, bz_ok]
    exact ih
theorem e_bad (C : Clo) (M : Mem) {p q : PyData} (h : p ∈ BAD) : f_ends C [.py p, .py q] M = some (.er 1 p M) := by
  simp [f_ends, runF, d_ends, startN, bad2 h]
theorem w_bad (C : Clo) (M : Mem) {p q : PyData} (h : p ∈ BAD) : f_waits C [.py p, .py q] M = some (.er 1 p M) := by
  simp [f_waits, runF, d_waits, startN, e_bad noClo M h]
theorem so_bad (C : Clo) (M : Mem) {p : PyData} (h : p ∈ BAD) : f_soonest C [.py p] M = some (.er 1 p M) := by
  simp [f_soonest, runF, d_soonest, startN, bad2 h]
theorem sh_bad (C : Clo) (M : Mem) {p q : PyData} (h : p ∈ BAD) : f_shows_soonest C [.py p, .py q] M = some (.er 1 p M) := by
  simp [f_shows_soonest, runF, d_shows_soonest, startN, so_bad noClo M h]
theorem mi_bad (C : Clo) (M : Mem) {p : PyData} (h : p ∈ BAD) : f_middle_rule C [.py p] M = some (.er 1 p M) := by
  simp [f_middle_rule, runF, d_middle_rule, startN, bad3 h]
theorem th_bad (C : Clo) (M : Mem) {p : PyData} (h : p ∈ THR) : f_soonest_three C [.py p] M = some (.er 1 p M) := by
  simp [f_soonest_three, runF, d_soonest_three, startN, thr h]
theorem e_odd (C : Clo) (M : Mem) {jobs : List (List Nat)} (k : OkT 2 20 jobs) (h5 : jobs.length ≤ 5) {q : PyData} (h : q ∈ OD jobs.length) : f_ends C [.py (js jobs), .py q] M = some (.er 2 q M) := by
  have e1 := s_check_jobs noClo M k (by omega)
  have h1 := List.length_pos_iff.mpr k.ne
  simp at e1
  simp [f_ends, runF, d_ends, startN, e1, len_js, odd_no h1 h5 h]
theorem w_odd (C : Clo) (M : Mem) {jobs : List (List Nat)} (k : OkT 2 20 jobs) (h5 : jobs.length ≤ 5) {q : PyData} (h : q ∈ OD jobs.length) : f_waits C [.py (js jobs), .py q] M = some (.er 2 q M) := by
  simp [f_waits, runF, d_waits, startN, e_odd noClo M k h5 h]
def rowsK (bad odd three : PyData) : List (Nat × Nat × PyData) := [(0, 1, bad), (1, 2, odd), (2, 1, bad), (3, 2, odd), (4, 1, bad), (5, 1, bad), (6, 1, three), (7, 1, bad)]
theorem s_law_are_refused (C : Clo) {M : Mem} {n c : Nat} (hp : PotAt M n c) (hc : c ≤ 10 ^ 6) {jobs : List (List Nat)} (k : OkT 2 20 jobs) (h5 : jobs.length ≤ 5) : ∃ M' : Mem, f_law_are_refused C [.cel n, .py (js jobs)] M = some (.ok ⟨.py (.bool true), false, M'⟩) ∧ PotAt M' n (c + 3) := by
  have hz : (1000 : Nat) ≤ sizeLine := by decide
  have h1 := List.length_pos_iff.mpr k.ne
  obtain ⟨bad, M1, b1, b2, b3⟩ := one_of noClo hp (by omega) (ps := BAD) (by simp [BAD]) (by decide)
  obtain ⟨odd, M2, o1, o2', o3⟩ := one_of noClo b3 (by omega) (ps := OD jobs.length) (by simp [OD]) (show (6 : Nat) < 2 ^ 30 by decide)
  obtain ⟨three, M3, t1, t2, t3⟩ := one_of noClo o3 (by omega) (ps := THR) (by simp [THR]) (by decide)
  refine ⟨M3, ?_, t3⟩
  obtain ⟨ρ', e⟩ := ref_loop (lamC F_law_are_refused d_law_are_refused.lams) (M := M3) (d0 := .cel n) (d1 := .py (js jobs)) (d2 := .py bad) (d3 := .py odd) (d4 := .py three) (d5 := .ml ((rowsK bad odd three).map rowD)) (rowsK bad odd three) false none none none none none (fun x hx => by
    have hbad := rp_BAD bad b1
    have hodd := (OD_ok h1 h5 odd o1).2
    have hthr := rp_THR three t1
    simp only [rowsK, List.mem_cons, List.not_mem_nil, or_false] at hx
    rcases hx with rfl | rfl | rfl | rfl | rfl | rfl | rfl | rfl
    · exact ⟨.inl rfl, hbad, fun _ _ _ _ _ => by simp [lamC, d_law_are_refused, m_law_are_refused_0, e_bad noClo M3 b1]⟩
    · exact ⟨.inr rfl, hodd, fun _ _ _ _ _ => by simp [lamC, d_law_are_refused, m_law_are_refused_1, e_odd noClo M3 k h5 o1]⟩
    · exact ⟨.inl rfl, hbad, fun _ _ _ _ _ => by simp [lamC, d_law_are_refused, m_law_are_refused_2, w_bad noClo M3 b1]⟩
    · exact ⟨.inr rfl, hodd, fun _ _ _ _ _ => by simp [lamC, d_law_are_refused, m_law_are_refused_3, w_odd noClo M3 k h5 o1]⟩
    · exact ⟨.inl rfl, hbad, fun _ _ _ _ _ => by simp [lamC, d_law_are_refused, m_law_are_refused_4, so_bad noClo M3 b1]⟩
    · exact ⟨.inl rfl, hbad, fun _ _ _ _ _ => by simp [lamC, d_law_are_refused, m_law_are_refused_5, sh_bad noClo M3 b1]⟩
    · exact ⟨.inl rfl, hthr, fun _ _ _ _ _ => by simp [lamC, d_law_are_refused, m_law_are_refused_6, th_bad noClo M3 t1]⟩
    · exact ⟨.inl rfl, hbad, fun _ _ _ _ _ => by simp [lamC, d_law_are_refused, m_law_are_refused_7, mi_bad noClo M3 b1]⟩)
  have m1 : Ev.o2 .mul (.py (.tuple [.tuple [.int 1, .int 1]])) (.py (.int 21)) = some (.py (.tuple B8), false) := by kernel_rfl
  have m2 : Ev.o2 .mul (.py (.tuple [.tuple [.int 1, .int 1, .int 1]])) (.py (.int 7)) = some (.py (.tuple T4), false) := by kernel_rfl
  have m3 := mul_rep (k := jobs.length + 1) (by omega) (by omega) (.int 0)
  have m4 := mul_rep (k := jobs.length) h1 (by omega) (nn jobs.length)
  have m5 := mul_rep (k := jobs.length) h1 (by omega) (.int 1)
  have m6 : Ev.o2 .add (.py (.tuple [.bool true])) (.py (.tuple (rep jobs.length (.int 1)))) = some (.py (.tuple (.bool true :: rep jobs.length (.int 1))), false) := by
    rw [add_t, if_pos (by unfold rep; rw [List.length_replicate, List.length_singleton]; omega)]
    rfl
  have hml : ∀ (xs : List D) (r : List D), allPy (.mt xs :: r) = none := fun _ _ => rfl
  have hap : ∀ (xs : List D) (d : D), appD (.ml xs) d = if xs.length < sizeLine then some (.ml (xs ++ [d])) else none := fun _ _ => rfl
  have w1 : (PyData.str "jobs") = .str (wordOf 1) := rfl
  have w2 : (PyData.str "order") = .str (wordOf 2) := rfl
  have hrows : (rowsK bad odd three).map rowD = [.mt [.clo 0, .py (.str "jobs"), .py bad], .mt [.clo 1, .py (.str "order"), .py odd], .mt [.clo 2, .py (.str "jobs"), .py bad], .mt [.clo 3, .py (.str "order"), .py odd], .mt [.clo 4, .py (.str "jobs"), .py bad], .mt [.clo 5, .py (.str "jobs"), .py bad], .mt [.clo 6, .py (.str "jobs"), .py three], .mt [.clo 7, .py (.str "jobs"), .py bad]] := rfl
  rw [hrows] at e
  unfold BAD at b2
  unfold OD at o2'
  unfold THR at t2
  simp [f_law_are_refused, runF, d_law_are_refused, startN, b2, o2', t2, m1, m2, m3, m4, m5, m6, len_js, add_n1, hml, hap, l_law_are_refused_1, show (0 : Nat) ≤ sizeLine from by omega, show (1 : Nat) ≤ sizeLine from by omega, show (2 : Nat) ≤ sizeLine from by omega, show (3 : Nat) ≤ sizeLine from by omega, show (5 : Nat) ≤ sizeLine from by omega, show (6 : Nat) ≤ sizeLine from by omega, show (8 : Nat) ≤ sizeLine from by omega,
    show (1 : Nat) < sizeLine from by omega, show (2 : Nat) < sizeLine from by omega, show (3 : Nat) < sizeLine from by omega, show (4 : Nat) < sizeLine from by omega, show (5 : Nat) < sizeLine from by omega, show (6 : Nat) < sizeLine from by omega, show (7 : Nat) < sizeLine from by omega]
  simp [d_law_are_refused] at e
  simp [e]
end k31

namespace k31
open Ev PySem
def st1 : S := (.asg (.nm 1) (.call 24 (.cons false (.var 0) (.cons false (.lit (.int 5)) (.cons false (.lit (.int 2)) .nil)))))
def st2 : S := (.asg (.tp [(.nm 12), (.nm 13)]) (.tup (.cons false (.bi .len (.cons false (.var 1) .nil)) (.cons false (.call 22 (.cons false (.bi .len (.cons false (.var 1) .nil)) .nil)) .nil))))
def st3 : S := (.asg (.nm 2) (.call 19 (.cons false (.var 0) (.cons false (.var 13) .nil))))
def st4 : S := (.asg (.nm 3) (.call 23 (.cons false (.var 1) (.cons false (.var 2) .nil))))
def st5 : S := (.ifs (.cmp (.bi .repr (.cons false (.call 8 (.cons false (.var 1) (.cons false (.var 2) .nil))) .nil)) [.ne] (.cons false (.bi .repr (.cons false (.var 3) .nil)) .nil)) (.cons (.ret (.lit (.bool false))) .nil) .nil)
def st6 : S := (.ifs (.cmp (.bi .repr (.cons false (.call 13 (.cons false (.var 1) (.cons false (.var 2) .nil))) .nil)) [.ne] (.cons false (.bi .repr (.cons false (.bin .sub (.ix (.ix (.var 3) (.neg (.lit (.int 1)))) (.lit (.int 1))) (.bi .sum (.cons false c_law_right_1 .nil))) .nil)) .nil)) (.cons (.ret (.lit (.bool false))) .nil) .nil)
def st7 : S := (.asg (.tp [(.nm 14), (.nm 15)]) (.tup (.cons false (.bi .min (.cons false c_law_right_2 .nil)) (.cons false (.call 10 (.cons false (.var 1) .nil)) .nil))))
def st8 : S := (.ifs (.not (.call 26 (.cons false (.var 1) (.cons false (.var 14) (.cons false (.var 15) .nil))))) (.cons (.ret (.lit (.bool false))) .nil) .nil)
def st9 : S := (.asg (.nm 4) (.lst (.cons false (.var 15) (.cons false (.rev (.var 15)) (.cons false (.bi .list (.cons false (.var 15) .nil)) (.cons false (.slc (.var 15) .no (.lit (.int 1))) (.cons false (.bin .add (.var 15) (.tup (.cons false (.tup .nil) .nil))) (.cons false (.tup (.cons false (.bin .add (.var 14) (.lit (.int 1))) (.cons false (.ix (.var 15) (.lit (.int 1))) .nil))) (.cons false (.tup (.cons false (.var 14) (.cons false (.rev (.ix (.var 15) (.lit (.int 1)))) .nil))) .nil)))))))))
def st10 : S := (.ext 4 (.lst (.cons false (.tup (.cons false (.var 14) (.cons false (.slc (.ix (.var 15) (.lit (.int 1))) (.lit (.int 1)) .no) .nil))) (.cons false (.tup (.cons false (.var 14) (.cons false (.bi .list (.cons false (.ix (.var 15) (.lit (.int 1))) .nil)) .nil))) (.cons false (.tup (.cons false (.var 14) (.cons false (.bin .mul (.tup (.cons false (.lit (.int 0)) .nil)) (.var 12)) .nil))) (.cons false (.call 20 (.cons false (.var 0) .nil)) .nil))))))
def st11 : S := (.ext 4 c_law_right_3)
def st12 : S := l_law_right_1
def st13 : S := (.asg (.nm 6) (.call 24 (.cons false (.var 0) (.cons false (.lit (.int 4)) (.cons false (.lit (.int 3)) .nil)))))
def st14 : S := (.asg (.nm 7) (.bi .min (.cons false c_law_right_5 .nil)))
def st15 : S := (.ifs (.cmp (.bi .repr (.cons false (.call 16 (.cons false (.var 6) .nil)) .nil)) [.ne] (.cons false (.bi .repr (.cons false (.var 7) .nil)) .nil)) (.cons (.ret (.lit (.bool false))) .nil) .nil)
def st16 : S := (.asg (.nm 8) (.call 28 (.cons false (.var 6) .nil)))
def st17 : S := (.asg (.nm 9) (.bi .max (.cons false c_law_right_6 .nil)))
def st18 : S := (.asg (.nm 10) (.bop false (.cons false (.cmp (.bi .min (.cons false c_law_right_7 .nil)) [.ge] (.cons false (.var 9) .nil)) (.cons false (.cmp (.bi .min (.cons false c_law_right_8 .nil)) [.ge] (.cons false (.var 9) .nil)) .nil))))
def st19 : S := (.asg (.nm 11) (.ix (.ix (.call 23 (.cons false (.var 6) (.cons false (.var 8) .nil))) (.neg (.lit (.int 1)))) (.lit (.int 2))))
def st20 : S := (.ifs (.bop false (.cons false (.cmp (.bi .repr (.cons false (.call 17 (.cons false (.var 6) .nil)) .nil)) [.ne] (.cons false (.bi .repr (.cons false (.tup (.cons false (.var 11) (.cons false (.var 8) (.cons false (.var 10) .nil)))) .nil)) .nil)) (.cons false (.bop true (.cons false (.var 10) (.cons false (.cmp (.var 11) [.ne] (.cons false (.ix (.var 7) (.lit (.int 0))) .nil)) .nil))) .nil))) (.cons (.ret (.lit (.bool false))) .nil) .nil)
def st21 : S := (.ret (.call 27 (.cons false (.var 0) (.cons false (.var 1) .nil))))
theorem st_body : d_law_right.body = .cons st1 (.cons st2 (.cons st3 (.cons st4 (.cons st5 (.cons st6 (.cons st7 (.cons st8 (.cons st9 (.cons st10 (.cons st11 (.cons st12 (.cons st13 (.cons st14 (.cons st15 (.cons st16 (.cons st17 (.cons st18 (.cons st19 (.cons st20 (.cons st21 (.nil))))))))))))))))))))) := rfl
end k31

namespace k31
open Ev PySem
/-! how far the clocks go -/
theorem go_le {B : Nat} : ∀ {ts cs : List Nat} {f : Nat}, (∀ x ∈ cs, x ≤ B) → f ≤ B → (∀ t ∈ ts, t ≤ 10) → ∀ y ∈ go f cs ts, y ≤ B + 10 * ts.length
  | [], [], _, _, _, _, y, hy => by cases hy
  | [], _ :: _, _, _, _, _, y, hy => by cases hy
  | _ :: _, [], _, _, _, _, y, hy => by cases hy
  | t :: ts, c :: cs, f, hc, hf, ht, y, hy => by
    unfold go at hy
    have h1 := hc c List.mem_cons_self
    have h2 := ht t List.mem_cons_self
    rw [List.length_cons]
    rcases List.mem_cons.mp hy with e | e
    · omega
    · have := go_le (B := B + 10) (ts := ts) (cs := cs) (f := max f c + t) (fun x hx => by have := hc x (List.mem_cons_of_mem _ hx); omega) (by omega) (fun x hx => ht x (List.mem_cons_of_mem _ hx)) y e
      omega
theorem go_len_le : ∀ {ts cs : List Nat} {f : Nat}, (go f cs ts).length ≤ cs.length
  | [], [], _ => Nat.le_refl _
  | [], _ :: _, _ => Nat.zero_le _
  | _ :: _, [], _ => Nat.le_refl _
  | t :: ts, c :: cs, f => by
    unfold go
    rw [List.length_cons, List.length_cons]
    have := go_len_le (ts := ts) (cs := cs) (f := max f c + t)
    omega
theorem ends_le {m : Nat} : ∀ {rows : List (List Nat)} {cl : List Nat} {B : Nat}, (∀ r ∈ rows, r.length ≤ m ∧ ∀ t ∈ r, t ≤ 10) → (∀ x ∈ cl, x ≤ B) → cl.length ≤ m → ∀ row ∈ endsR cl rows, row.length ≤ m ∧ ∀ y ∈ row, y ≤ B + (10 * m) * rows.length
  | [], _, _, _, _, _, row, hr => by cases hr
  | r :: rows, cl, B, h, hc, hl, row, hr => by
    unfold endsR at hr
    obtain ⟨h1, h2⟩ := h r List.mem_cons_self
    have h3 : (10 * m) * (r :: rows).length = (10 * m) * rows.length + 10 * m := by rw [List.length_cons, Nat.mul_succ]
    have h4 : 10 * r.length ≤ 10 * m := by omega
    have g1 := go_le (B := B) hc (Nat.zero_le _) h2
    have g2 := go_len_le (ts := r) (cs := cl) (f := 0)
    rw [h3]
    rcases List.mem_cons.mp hr with e | e
    · subst e
      exact ⟨by omega, fun y hy => by have := g1 y hy; omega⟩
    · obtain ⟨e1, e2⟩ := ends_le (B := B + 10 * m) (rows := rows) (cl := go 0 cl r) (fun x hx => h x (List.mem_cons_of_mem _ hx)) (fun x hx => by have := g1 x hx; omega) (by omega) row e
      exact ⟨e1, fun y hy => by have := e2 y hy; omega⟩
theorem endsR_len : ∀ {rows : List (List Nat)} {cl : List Nat}, (endsR cl rows).length = rows.length
  | [], _ => rfl
  | r :: rows, cl => by
    unfold endsR
    rw [List.length_cons, List.length_cons, endsR_len]
theorem rp_tn {l : List Nat} (h : ∀ x ∈ l, x < 10 ^ 12) (hl : l.length ≤ 20) : Rp 1 1000 (tn l) := by
  refine rp_tup ((rps_all (d := 0) (w := 40) fun p hp => ?_).mono (Nat.le_refl _) ?_)
  · obtain ⟨x, hx, rfl⟩ := List.mem_map.mp hp
    exact rp_nat (h x hx) (Nat.le_refl _)
  · rw [List.length_map]
    have := Nat.mul_le_mul_left (40 + 1) hl
    omega
theorem rp_rows {L : List (List Nat)} (h : ∀ l ∈ L, l.length ≤ 20 ∧ ∀ x ∈ l, x < 10 ^ 12) (hl : L.length ≤ 20) : Rp 2 30000 (.tuple (L.map tn)) := by
  refine rp_tup ((rps_all (d := 1) (w := 1000) fun p hp => ?_).mono (Nat.le_refl _) ?_)
  · obtain ⟨x, hx, rfl⟩ := List.mem_map.mp hp
    exact rp_tn (h x hx).2 (h x hx).1
  · rw [List.length_map]
    have := Nat.mul_le_mul_left (1000 + 1) hl
    omega
theorem pick_rows {m mo : Nat} {jobs : List (List Nat)} (k : OkS m mo jobs) (hmo : mo ≤ 20) {os : List Nat} (ho : ∀ o ∈ os, o < jobs.length) : ∀ r ∈ pick jobs os, r.length ≤ m ∧ ∀ t ∈ r, t ≤ 10 := fun r hr => by
  obtain ⟨h1, h2⟩ := pick_mem (k.t hmo (Nat.le_refl _)).toOkJ ho r hr
  exact ⟨by omega, fun t ht => by have := k.s r h1 t ht; omega⟩
theorem rows_le {m mo : Nat} {jobs : List (List Nat)} (k : OkS m mo jobs) (hmo : mo ≤ 5) (hm : m ≤ 3) {os : List Nat} (h : os.Perm (List.range jobs.length)) : ∀ row ∈ endsR (List.replicate m 0) (pick jobs os), row.length ≤ m ∧ ∀ y ∈ row, y ≤ 150 := by
  intro row hr
  have hl : (pick jobs os).length ≤ 5 := by
    unfold pick
    rw [List.length_map, h.length_eq, List.length_range]
    have := k.mo
    omega
  obtain ⟨h1, h2⟩ := ends_le (m := m) (B := 0) (pick_rows k (by omega) (perm_lt h)) (fun x hx => by rw [List.eq_of_mem_replicate hx]; exact Nat.le_refl _) (by rw [List.length_replicate]; exact Nat.le_refl _) row hr
  refine ⟨h1, fun y hy => ?_⟩
  have h3 := h2 y hy
  have h4 : (10 * m) * (pick jobs os).length ≤ 30 * 5 := Nat.mul_le_mul (by omega) hl
  omega
theorem rp_end {m mo : Nat} {jobs : List (List Nat)} (k : OkS m mo jobs) (hmo : mo ≤ 5) (hm : m ≤ 3) {os : List Nat} (h : os.Perm (List.range jobs.length)) : Rp 2 30000 (endD m jobs os) := by
  unfold endD
  refine rp_rows (fun l hl => ?_) ?_
  · obtain ⟨h1, h2⟩ := rows_le k hmo hm h l hl
    exact ⟨by omega, fun x hx => by have := h2 x hx; omega⟩
  · rw [endsR_len]
    unfold pick
    rw [List.length_map, h.length_eq, List.length_range]
    have := k.mo
    omega
theorem lst_le {m mo : Nat} {jobs : List (List Nat)} (k : OkS m mo jobs) (hmo : mo ≤ 5) (hm : m ≤ 3) {os : List Nat} (h : os.Perm (List.range jobs.length)) : ∀ y ∈ lst m jobs os, y ≤ 150 := by
  have hne := perm_ne h (List.length_pos_iff.mpr k.ne)
  have hl := ends_last (pick jobs os) (List.replicate m 0) (by simpa [pick] using hne)
  exact (rows_le k hmo hm h _ (List.mem_of_getLast? hl)).2
theorem mk2_le {mo : Nat} {jobs : List (List Nat)} (k : OkS 2 mo jobs) (hmo : mo ≤ 5) {os : List Nat} (h : os.Perm (List.range jobs.length)) : mk2 jobs os ≤ 150 := by
  obtain ⟨x, e⟩ := end2 (k.t (b := 20) (by omega) (Nat.le_refl _)).toOkJ (perm_lt h)
  refine lst_le k hmo (by decide) h _ ?_
  rw [e]
  simp
theorem mk3_le {mo : Nat} {jobs : List (List Nat)} (k : OkS 3 mo jobs) (hmo : mo ≤ 5) {os : List Nat} (h : os.Perm (List.range jobs.length)) : mk3 jobs os ≤ 150 := by
  obtain ⟨x, y, e⟩ : ∃ x y, lst 3 jobs os = [x, y, mk3 jobs os] := fin_F3 _ 0 0 0 fun j hj => (pick_mem (k.t (b := 20) (by omega) (Nat.le_refl _)).toOkJ (perm_lt h) j hj).2
  refine lst_le k hmo (Nat.le_refl _) h _ ?_
  rw [e]
  simp
theorem sum_le : ∀ {l : List (Nat × Nat)}, (∀ p ∈ l, p.2 ≤ 10) → 0 ≤ (l.map fun p => (p.2 : Int)).sum ∧ (l.map fun p => (p.2 : Int)).sum ≤ 10 * (l.length : Int)
  | [], _ => by simp
  | p :: l, h => by
    obtain ⟨h1, h2⟩ := sum_le (l := l) fun q hq => h q (List.mem_cons_of_mem _ hq)
    have := h p List.mem_cons_self
    rw [List.map_cons, List.sum_cons, List.length_cons]
    omega
theorem pr_le {mo : Nat} {jobs : List (List Nat)} (k : OkS 2 mo jobs) : ∀ p ∈ pr jobs, p.2 ≤ 10 := fun p hp => by
  obtain ⟨j, hj, rfl⟩ := List.mem_map.mp hp
  have h1 := k.w j hj
  have h2 := k.s j hj
  rw [row2 h1] at h2
  have := h2 (j.getD 1 0) (by simp)
  show j.getD 1 0 ≤ 10
  omega
/-- reprs alike -/
theorem repr_eq {d w : Nat} {p : PyData} (h : Rp d w p) (h1 : d ≤ 60) (h2 : w ≤ 2 ^ 20) : ∃ s : Str, bi .repr [.py p] = some (.py (.str s), false) := ⟨_, repr_ok h h1 h2⟩
theorem ORD_pos {n : Nat} (h : 0 < n) {o : List Nat} (ho : o ∈ ORD n) : o ≠ [] := perm_ne (ORD_of.mp ho) h
/-- the least is the rule's -/
theorem best_min {jobs : List (List Nat)} {m : Nat} (h1 : m ∈ (ORD jobs.length).map (mk2 jobs)) (h2 : ∀ y ∈ (ORD jobs.length).map (mk2 jobs), m ≤ y) : m = best jobs := by
  obtain ⟨o, ho, rfl⟩ := List.mem_map.mp h1
  have hj := joh_perm (pr jobs)
  rw [pr_len] at hj
  have h3 := h2 (best jobs) (List.mem_map.mpr ⟨_, ORD_of.mpr hj, rfl⟩)
  have h4 := mk2_best jobs (ORD_of.mp ho)
  omega
theorem due_told {jobs : List (List Nat)} : dueB jobs (best jobs) (told (best jobs) (joh (pr jobs))) = true := by
  have hj := joh_perm (pr jobs)
  rw [pr_len] at hj
  show (isOrd jobs.length (tn (joh (pr jobs))) && (isI (nn (best jobs)) (best jobs) (best jobs) && decide (mk2 jobs (natD (tn (joh (pr jobs)))) = best jobs))) = true
  rw [cntB_perm hj, isI_nn, natD_tn]
  simp [best]
end k31

set_option exponentiation.threshold 5000
namespace k31
open Ev PySem
theorem h1 (C : Nv → Clo) {M M1 : Mem} {n : Nat} {jobs : List (List Nat)} (h : f_law_jobs noClo [.cel n, .py (.int 5), .py (.int 2)] M = some (.ok ⟨.py (js jobs), false, M1⟩)) (s1 s2 s3 s4 s5 s6 s7 s8 s9 s10 s11 s12 s13 s14 s15 : Slot) : evS F_law_right C st1 [some (.cel n, false), s1, s2, s3, s4, s5, s6, s7, s8, s9, s10, s11, s12, s13, s14, s15, none, none, none] M = some (.ok (.nx [some (.cel n, false), some (.py (js jobs), false), s2, s3, s4, s5, s6, s7, s8, s9, s10, s11, s12, s13, s14, s15, none, none, none] M1)) := by
  simp [st1, h]
theorem h2 (C : Nv → Clo) {M : Mem} {n : Nat} {jobs : List (List Nat)} (h : f_law_orders noClo [.py (nn jobs.length)] M = some (.ok ⟨.py (.list ((ORD jobs.length).map tn)), false, M⟩)) (s2 s3 s4 s5 s6 s7 s8 s9 s10 s11 s12 s13 s14 s15 : Slot) : evS F_law_right C st2 [some (.cel n, false), some (.py (js jobs), false), s2, s3, s4, s5, s6, s7, s8, s9, s10, s11, s12, s13, s14, s15, none, none, none] M = some (.ok (.nx [some (.cel n, false), some (.py (js jobs), false), s2, s3, s4, s5, s6, s7, s8, s9, s10, s11, some (.py (nn jobs.length), false), some (.py (.list ((ORD jobs.length).map tn)), false), s14, s15, none, none, none] M)) := by
  have h2 : (2 : Nat) ≤ sizeLine := by decide
  generalize (ORD jobs.length).map tn = L at h ⊢
  simp [st2, len_js, h, h2]
theorem h3 (C : Nv → Clo) {M M1 : Mem} {n : Nat} {jobs : List (List Nat)} {os : List Nat} (h : f_law_of noClo [.cel n, .py (.list ((ORD jobs.length).map tn))] M = some (.ok ⟨.py (tn os), false, M1⟩)) (s1 s2 s3 s4 s5 s6 s7 s8 s9 s10 s11 s12 s14 s15 : Slot) : evS F_law_right C st3 [some (.cel n, false), s1, s2, s3, s4, s5, s6, s7, s8, s9, s10, s11, s12, some (.py (.list ((ORD jobs.length).map tn)), false), s14, s15, none, none, none] M = some (.ok (.nx [some (.cel n, false), s1, some (.py (tn os), false), s3, s4, s5, s6, s7, s8, s9, s10, s11, s12, some (.py (.list ((ORD jobs.length).map tn)), false), s14, s15, none, none, none] M1)) := by
  generalize (ORD jobs.length).map tn = L at h ⊢
  simp [st3, h]
theorem h4 (C : Nv → Clo) {M : Mem} {n : Nat} {jobs : List (List Nat)} {os : List Nat} (h : f_law_ends noClo [.py (js jobs), .py (tn os)] M = some (.ok ⟨.py (endD 2 jobs os), false, M⟩)) (s3 s4 s5 s6 s7 s8 s9 s10 s11 s12 s13 s14 s15 : Slot) : evS F_law_right C st4 [some (.cel n, false), some (.py (js jobs), false), some (.py (tn os), false), s3, s4, s5, s6, s7, s8, s9, s10, s11, s12, s13, s14, s15, none, none, none] M = some (.ok (.nx [some (.cel n, false), some (.py (js jobs), false), some (.py (tn os), false), some (.py (endD 2 jobs os), false), s4, s5, s6, s7, s8, s9, s10, s11, s12, s13, s14, s15, none, none, none] M)) := by
  simp [st4, h]
theorem h5 (C : Nv → Clo) {M : Mem} {n : Nat} {jobs : List (List Nat)} {os : List Nat} (h : f_ends noClo [.py (js jobs), .py (tn os)] M = some (.ok ⟨.py (endD 2 jobs os), false, M⟩)) (hr : ∃ s : Str, bi .repr [.py (endD 2 jobs os)] = some (.py (.str s), false)) (s4 s5 s6 s7 s8 s9 s10 s11 s12 s13 s14 s15 : Slot) : evS F_law_right C st5 [some (.cel n, false), some (.py (js jobs), false), some (.py (tn os), false), some (.py (endD 2 jobs os), false), s4, s5, s6, s7, s8, s9, s10, s11, s12, s13, s14, s15, none, none, none] M = some (.ok (.nx [some (.cel n, false), some (.py (js jobs), false), some (.py (tn os), false), some (.py (endD 2 jobs os), false), s4, s5, s6, s7, s8, s9, s10, s11, s12, s13, s14, s15, none, none, none] M)) := by
  obtain ⟨s, hr⟩ := hr
  simp [st5, h, hr]
theorem cc1 (C : Nv → Clo) (M : Mem) {n : Nat} {jobs : List (List Nat)} (hw : ∀ j ∈ jobs, j.length = 2) (hl : jobs.length ≤ 20) (s2 s3 s4 s5 s6 s7 s8 s9 s10 s11 s12 s13 s14 s15 : Slot) : evE F_law_right C c_law_right_1 [some (.cel n, false), some (.py (js jobs), false), s2, s3, s4, s5, s6, s7, s8, s9, s10, s11, s12, s13, s14, s15, none, none, none] M = some (.ok ⟨.py (.list ((pr jobs).map fun p => .int (p.2 : Int))), .fr, [some (.cel n, false), some (.py (js jobs), false), s2, s3, s4, s5, s6, s7, s8, s9, s10, s11, s12, s13, s14, s15, none, none, none], M⟩) := by
  have hz : (100 : Nat) ≤ sizeLine := by decide
  exact comp_map (fun p => D.py (r2 p)) (fun p => .int (p.2 : Int)) (fun p => [some (.cel n, false), some (.py (js jobs), false), s2, s3, s4, s5, s6, s7, s8, s9, s10, s11, s12, s13, s14, s15, none, none, some (.py (r2 p), false)]) (pr jobs) (sd := .py (js jobs)) (sm := .sh) (by simp [js_pr hw]) (js_pr hw) (by rw [pr_len]; omega) rfl (fun _ _ => rfl) (fun p _ => ⟨.sh, by simp [r2, tn]; rfl, rfl⟩) (fun _ _ => rfl) rfl
theorem h6 (C : Nv → Clo) {M : Mem} {n : Nat} {jobs : List (List Nat)} {os : List Nat} (k : OkT 2 20 jobs) (hp : os.Perm (List.range jobs.length)) (hr : ∃ s : Str, bi .repr [.py (.int ((mk2 jobs os : Int) - ((pr jobs).map fun p => (p.2 : Int)).sum))] = some (.py (.str s), false)) (s4 s5 s6 s7 s8 s9 s10 s11 s12 s13 s14 s15 : Slot) : evS F_law_right C st6 [some (.cel n, false), some (.py (js jobs), false), some (.py (tn os), false), some (.py (endD 2 jobs os), false), s4, s5, s6, s7, s8, s9, s10, s11, s12, s13, s14, s15, none, none, none] M = some (.ok (.nx [some (.cel n, false), some (.py (js jobs), false), some (.py (tn os), false), some (.py (endD 2 jobs os), false), s4, s5, s6, s7, s8, s9, s10, s11, s12, s13, s14, s15, none, none, none] M)) := by
  obtain ⟨s, hr⟩ := hr
  have h := s_waits noClo M k hp
  have e1 := end_last (m := 2) (jobs := jobs) (M := M) (perm_ne hp (List.length_pos_iff.mpr k.ne))
  have e2 := ix_ends2 k.toOkJ (perm_lt hp) M
  have hs := sumi (fun p : Nat × Nat => (p.2 : Int)) (pr jobs)
  have hc := cc1 C M (n := n) k.w k.mo (some (.py (tn os), false)) (some (.py (endD 2 jobs os), false)) s4 s5 s6 s7 s8 s9 s10 s11 s12 s13 s14 s15
  have hsub : ∀ (a : Nat) (b : Int), o2 .sub (.py (nn a)) (.py (.int b)) = some (.py (.int ((a : Int) - b)), false) := fun a b => rfl
  generalize ((pr jobs).map fun p => (p.2 : Int)).sum = S at *
  generalize ((pr jobs).map fun p => PyData.int (p.2 : Int)) = L at *
  generalize mk2 jobs os = B at *
  simp [st6, h, e1, e2, hs, hc, hsub, hr]
theorem cc2 (C : Nv → Clo) (M : Mem) {n : Nat} {jobs : List (List Nat)} (k : OkT 2 20 jobs) (h6 : jobs.length ≤ 6) (s2 s3 s4 s5 s6 s7 s8 s9 s10 s11 s12 s14 s15 : Slot) : evE F_law_right C c_law_right_2 [some (.cel n, false), some (.py (js jobs), false), s2, s3, s4, s5, s6, s7, s8, s9, s10, s11, s12, some (.py (.list ((ORD jobs.length).map tn)), false), s14, s15, none, none, none] M = some (.ok ⟨.py (.list (((ORD jobs.length).map (mk2 jobs)).map nn)), .fr, [some (.cel n, false), some (.py (js jobs), false), s2, s3, s4, s5, s6, s7, s8, s9, s10, s11, s12, some (.py (.list ((ORD jobs.length).map tn)), false), s14, s15, none, none, none], M⟩) := by
  have hz : (100000 : Nat) ≤ sizeLine := by decide
  rw [List.map_map]
  refine comp_map (fun o => D.py (tn o)) (fun o => nn (mk2 jobs o)) (fun o => [some (.cel n, false), some (.py (js jobs), false), s2, s3, s4, s5, s6, s7, s8, s9, s10, s11, s12, some (.py (.list ((ORD jobs.length).map tn)), false), s14, s15, none, some (.py (tn o), false), none]) (ORD jobs.length) (sd := .py (.list ((ORD jobs.length).map tn))) (sm := .sh) ?_ (it_ltn _) (by have := O_small (n := jobs.length) h6 (Nat.le_refl _); unfold ORD; omega) rfl (fun _ _ => rfl) (fun o ho => ⟨.sh, ?_, rfl⟩) (fun _ _ => rfl) rfl
  · generalize (ORD jobs.length).map tn = L
    simp
  · have hp := ORD_of.mp ho
    have g1 := lends2 M k hp
    have g2 := end_last (m := 2) (jobs := jobs) (M := M) (perm_ne hp (List.length_pos_iff.mpr k.ne))
    have g3 := ix_ends2 k.toOkJ (perm_lt hp) M
    generalize (ORD jobs.length).map tn = L
    simp [g1, g2, g3]
theorem h7 (C : Nv → Clo) {M : Mem} {n : Nat} {jobs : List (List Nat)} (k : OkT 2 20 jobs) (h6 : jobs.length ≤ 6) (s2 s3 s4 s5 s6 s7 s8 s9 s10 s11 s12 s14 s15 : Slot) : evS F_law_right C st7 [some (.cel n, false), some (.py (js jobs), false), s2, s3, s4, s5, s6, s7, s8, s9, s10, s11, s12, some (.py (.list ((ORD jobs.length).map tn)), false), s14, s15, none, none, none] M = some (.ok (.nx [some (.cel n, false), some (.py (js jobs), false), s2, s3, s4, s5, s6, s7, s8, s9, s10, s11, s12, some (.py (.list ((ORD jobs.length).map tn)), false), some (.py (nn (best jobs)), false), some (.py (told (best jobs) (joh (pr jobs))), false), none, none, none] M)) := by
  have hc := cc2 C M (n := n) k h6 s2 s3 s4 s5 s6 s7 s8 s9 s10 s11 s12 s14 s15
  obtain ⟨m, m1, m2, m3⟩ := min_nn (l := (ORD jobs.length).map (mk2 jobs)) (by simpa using ORD_ne jobs.length)
  have hm := best_min m1 m2
  subst hm
  have h : f_soonest noClo [.py (js jobs)] M = some (.ok ⟨.py (told (best jobs) (joh (pr jobs))), false, M⟩) := s_soonest noClo M k
  have h2 : (2 : Nat) ≤ sizeLine := by decide
  have hm2 : ∀ p q : PyData, mkT [D.py p, D.py q] = .py (.tuple [p, q]) := fun _ _ => rfl
  generalize told (best jobs) (joh (pr jobs)) = X at *
  generalize best jobs = T at *
  generalize ((ORD jobs.length).map (mk2 jobs)).map nn = L2 at *
  generalize (ORD jobs.length).map tn = L at *
  simp [st7, hc, m3, h, h2]
theorem h8 (C : Nv → Clo) {M : Mem} {n : Nat} {jobs : List (List Nat)} {T : Nat} {p : PyData} (h : f_law_due noClo [.py (js jobs), .py (nn T), .py p] M = some (.ok ⟨.py (.bool true), false, M⟩)) (s2 s3 s4 s5 s6 s7 s8 s9 s10 s11 s12 s13 : Slot) : evS F_law_right C st8 [some (.cel n, false), some (.py (js jobs), false), s2, s3, s4, s5, s6, s7, s8, s9, s10, s11, s12, s13, some (.py (nn T), false), some (.py p, false), none, none, none] M = some (.ok (.nx [some (.cel n, false), some (.py (js jobs), false), s2, s3, s4, s5, s6, s7, s8, s9, s10, s11, s12, s13, some (.py (nn T), false), some (.py p, false), none, none, none] M)) := by
  simp [st8, h]
def V9 (T : Nat) (JJ : List PyData) : List PyData := [.tuple [nn T, .tuple JJ], .tuple [.tuple JJ, nn T], .list [nn T, .tuple JJ], .tuple [nn T], .tuple [nn T, .tuple JJ, .tuple []], .tuple [nn (T + 1), .tuple JJ], .tuple [nn T, .tuple JJ.reverse]]
def V10 (T n : Nat) (JJ : List PyData) (q : PyData) : List PyData := [.tuple [nn T, .tuple (JJ.drop 1)], .tuple [nn T, .list JJ], .tuple [nn T, .tuple (rep n (.int 0))], q]
theorem h9 (C : Nv → Clo) {M : Mem} {n : Nat} {T : Nat} {JJ : List PyData} (s1 s2 s3 s4 s5 s6 s7 s8 s9 s10 s11 s12 s13 : Slot) : evS F_law_right C st9 [some (.cel n, false), s1, s2, s3, s4, s5, s6, s7, s8, s9, s10, s11, s12, s13, some (.py (nn T), false), some (.py (.tuple [nn T, .tuple JJ]), false), none, none, none] M = some (.ok (.nx [some (.cel n, false), s1, s2, s3, some (.py (.list (V9 T JJ)), true), s5, s6, s7, s8, s9, s10, s11, s12, s13, some (.py (nn T), false), some (.py (.tuple [nn T, .tuple JJ]), false), none, none, none] M)) := by
  have hz : (100 : Nat) ≤ sizeLine := by decide
  have hr : revD (.py (.tuple [nn T, .tuple JJ])) = some (.py (.tuple [.tuple JJ, nn T]), false) := rfl
  have hr2 := rev_t JJ
  have hs : Ev.cutL [nn T, .tuple JJ] none (some 1) = [nn T] := rfl
  have hm2 : ∀ p q : PyData, mkT [D.py p, D.py q] = .py (.tuple [p, q]) := fun _ _ => rfl
  unfold V9
  generalize JJ.reverse = RR at *
  simp [-cut_t1, -cut_to, st9, hr, hr2, hs, add_n1, show (0 : Nat) ≤ sizeLine from by omega, show (1 : Nat) ≤ sizeLine from by omega, show (2 : Nat) ≤ sizeLine from by omega, show (2 + 1 : Nat) ≤ sizeLine from by omega, show (3 : Nat) ≤ sizeLine from by omega, show (7 : Nat) ≤ sizeLine from by omega]
theorem h10 (C : Nv → Clo) {M M1 : Mem} {n : Nat} {T m : Nat} {JJ V : List PyData} {q : PyData} (h1 : 1 ≤ m) (h5 : m ≤ 1000) (hV : V.length ≤ 100) (h : f_law_odd noClo [.cel n] M = some (.ok ⟨.py q, false, M1⟩)) (s1 s2 s3 s5 s6 s7 s8 s9 s10 s11 s13 : Slot) : evS F_law_right C st10 [some (.cel n, false), s1, s2, s3, some (.py (.list V), true), s5, s6, s7, s8, s9, s10, s11, some (.py (nn m), false), s13, some (.py (nn T), false), some (.py (.tuple [nn T, .tuple JJ]), false), none, none, none] M = some (.ok (.nx [some (.cel n, false), s1, s2, s3, some (.py (.list (V ++ V10 T m JJ q)), true), s5, s6, s7, s8, s9, s10, s11, some (.py (nn m), false), s13, some (.py (nn T), false), some (.py (.tuple [nn T, .tuple JJ]), false), none, none, none] M1)) := by
  have hz : (1000 : Nat) ≤ sizeLine := by decide
  have hm := mul_rep h1 h5 (.int 0)
  unfold V10
  generalize hd : JJ.drop 1 = DD
  have hs : slD (.py (.tuple JJ)) (some 1) none = some (.py (.tuple DD), false) := by
    rw [sl_t, cut_1, hd]
  have hx : ∀ A : List PyData, A.length = 4 → extD (.py (.list V)) (.py (.list A)) = some (.py (.list (V ++ A))) := fun A hA => by
    rw [ext_l, if_pos (by omega)]
  simp [-ext_l, -sl_t, st10, hm, hs, h, hx, show (1 : Nat) ≤ sizeLine from by omega, show (2 : Nat) ≤ sizeLine from by omega, show (4 : Nat) ≤ sizeLine from by omega]
end k31

set_option exponentiation.threshold 5000
namespace k31
open Ev PySem
theorem h11 (C : Nv → Clo) {M : Mem} {n c : Nat} (hp : PotAt M n c) (hc : c ≤ 10 ^ 6) {jobs : List (List Nat)} (h0 : 0 < jobs.length) (h5 : jobs.length ≤ 5) {T : Nat} {V : List PyData} (hV : V.length ≤ 100) (hS : ∀ p ∈ V, Sm p) (s1 s2 s3 s5 s6 s7 s8 s9 s10 s11 s12 s15 : Slot) :
    ∃ (W : List PyData) (M' : Mem), W.length = 6 ∧ (∀ p ∈ W, Sm p) ∧ PotAt M' n (c + 6) ∧ evS F_law_right C st11 [some (.cel n, false), s1, s2, s3, some (.py (.list V), true), s5, s6, s7, s8, s9, s10, s11, s12, some (.py (.list ((ORD jobs.length).map tn)), false), some (.py (nn T), false), s15, none, none, none] M = some (.ok (.nx [some (.cel n, false), s1, s2, s3, some (.py (.list (V ++ W)), true), s5, s6, s7, s8, s9, s10, s11, s12, some (.py (.list ((ORD jobs.length).map tn)), false), some (.py (nn T), false), s15, none, none, none] M')) := by
  have hz : (1000 : Nat) ≤ sizeLine := by decide
  have er : rngL 0 (6 : Int) 1 = some ((List.range 6).map fun (i : Nat) => D.py (nn i)) := rngL_up (n := 6) (by omega)
  have hOl : ((ORD jobs.length).map tn).length < 2 ^ 30 := by
    rw [List.length_map]
    have := O_small (n := jobs.length) (show jobs.length ≤ 6 by omega) (Nat.le_refl _)
    unfold ORD
    omega
  have hOn : (ORD jobs.length).map tn ≠ [] := by simpa using ORD_ne jobs.length
  have hOs : ∀ p ∈ (ORD jobs.length).map tn, Sm (.tuple [nn T, p]) := fun p hp t qs e => by
    obtain ⟨o, ho, rfl⟩ := List.mem_map.mp hp
    have e2 : [nn T, tn o] = [t, .tuple qs] := PyData.tuple.inj e
    have e3 : tn o = .tuple qs := by
      injection e2 with _ e2
      injection e2 with e2 _
    have := (ORD_of.mp ho).length_eq
    rw [List.length_range] at this
    rw [← PyData.tuple.inj e3, List.length_map]
    omega
  generalize (ORD jobs.length).map tn = L at *
  obtain ⟨ys, M1, e1, W, rfl, k1, k2, k3⟩ := comp_st (Fs := F_law_right) (C := C) (own := [("lap", 16)]) (t := .nm 16) (src := .rng1 (.lit (.int 6))) (cond := .no) (elt := .tup (.cons false (.var 14) (.cons false (.call 19 (.cons false (.var 0) (.cons false (.var 13) .nil))) .nil)))
    (ρ := [some (.cel n, false), s1, s2, s3, some (.py (.list V), true), s5, s6, s7, s8, s9, s10, s11, s12, some (.py (.list L), false), some (.py (nn T), false), s15, none, none, none]) (M := M) (sd := .ml ((List.range 6).map fun (i : Nat) => D.py (nn i))) (sm := .sh) (M' := M) (ρ' := [some (.cel n, false), s1, s2, s3, some (.py (.list V), true), s5, s6, s7, s8, s9, s10, s11, s12, some (.py (.list L), false), some (.py (nn T), false), s15, none, none, none]) (ρw := [some (.cel n, false), s1, s2, s3, some (.py (.list V), true), s5, s6, s7, s8, s9, s10, s11, s12, some (.py (.list L), false), some (.py (nn T), false), s15, none, none, none])
    (fun (i : Nat) => D.py (nn i)) (fun x => [some (.cel n, false), s1, s2, s3, some (.py (.list V), true), s5, s6, s7, s8, s9, s10, s11, s12, some (.py (.list L), false), some (.py (nn T), false), s15, some (.py (nn x), false), none, none])
    (fun done rs M => ∃ W : List PyData, rs = W.map (fun i => D.py i) ∧ W.length = done.length ∧ (∀ x ∈ W, Sm x) ∧ PotAt M n (c + done.length)) (List.range 6)
    (by simp [er]) (by simp) (by simp; omega) rfl ⟨[], rfl, rfl, (fun _ h => nomatch h), hp⟩ (fun _ _ => rfl)
    (fun done x rest rs M e ⟨W, q1, q2, q3, q4⟩ => by
      obtain ⟨rfl, hlen⟩ := rng_one e
      obtain ⟨v, M1, t1, t2, t3⟩ := one_of noClo q4 (by omega) hOn hOl
      refine ⟨_, M, true, e_no, rfl, .inl ⟨rfl, .py (.tuple [nn T, v]), .sh, M1, by simp [t2, show (2 : Nat) ≤ sizeLine from by omega], rfl, W ++ [.tuple [nn T, v]], by rw [q1]; simp, by simp [q2], fun x hx => ?_, by rw [List.length_append, List.length_singleton]; exact t3.mono (by omega)⟩⟩
      rcases List.mem_append.mp hx with hx | hx
      · exact q3 x hx
      · rw [List.mem_singleton.mp hx]
        exact hOs v t1) rfl
  rw [List.length_range] at k1 k3
  rw [show mkL (W.map fun i => D.py i) = .py (.list W) from by rw [mkL_map (fun i => i) W, List.map_id']] at e1
  refine ⟨W, M1, k1, k2, k3, ?_⟩
  have e2 : evE F_law_right C c_law_right_3 _ M = _ := e1
  simp [st11, e2, show V.length + W.length ≤ sizeLine from by omega]
theorem turn12 (C : Nv → Clo) (M : Mem) {n : Nat} {jobs : List (List Nat)} (k : OkT 2 20 jobs) {p : PyData} (hs : Sm p) (s2 s3 s4 s6 s7 s8 s9 s10 s11 s12 s13 s15 : Slot) : evSs F_law_right C b_law_right_1 [some (.cel n, false), some (.py (js jobs), false), s2, s3, s4, some (.py p, false), s6, s7, s8, s9, s10, s11, s12, s13, some (.py (nn (best jobs)), false), s15, none, none, none] M = some (.ok (.nx [some (.cel n, false), some (.py (js jobs), false), s2, s3, s4, some (.py p, false), s6, s7, s8, s9, s10, s11, s12, s13, some (.py (nn (best jobs)), false), s15, none, none, none] M)) := by
  have g1 := s_shows noClo M k p
  have g2 := s_due noClo M k (best jobs) hs
  obtain ⟨s, hr⟩ := repr_eq (p := .bool (dueB jobs (best jobs) p)) (rp_bool (d := 0) (w := 0) _) (by decide) (by decide)
  generalize dueB jobs (best jobs) p = X at *
  generalize best jobs = T at *
  simp [b_law_right_1, g1, g2, hr]
theorem loop12 (C : Nv → Clo) (M : Mem) {n : Nat} {jobs : List (List Nat)} (k : OkT 2 20 jobs) (s2 s3 s4 s6 s7 s8 s9 s10 s11 s12 s13 s15 : Slot) : ∀ (W : List PyData) (s5 : Slot), (∀ p ∈ W, Sm p) → ∃ t5 : Slot, forE F_law_right C (.nm 5) b_law_right_1 (W.map D.py) [some (.cel n, false), some (.py (js jobs), false), s2, s3, s4, s5, s6, s7, s8, s9, s10, s11, s12, s13, some (.py (nn (best jobs)), false), s15, none, none, none] M = some (.ok (.nx [some (.cel n, false), some (.py (js jobs), false), s2, s3, s4, t5, s6, s7, s8, s9, s10, s11, s12, s13, some (.py (nn (best jobs)), false), s15, none, none, none] M))
  | [], s5, _ => ⟨s5, rfl⟩
  | p :: W, s5, h => by
    obtain ⟨t5, ih⟩ := loop12 C M k s2 s3 s4 s6 s7 s8 s9 s10 s11 s12 s13 s15 W (some (.py p, false)) (fun q hq => h q (List.mem_cons_of_mem _ hq))
    refine ⟨t5, ?_⟩
    rw [List.map_cons, forE_cons, bd_nm, ob_s]
    have e := turn12 C M (n := n) k (h p List.mem_cons_self) s2 s3 s4 s6 s7 s8 s9 s10 s11 s12 s13 s15
    simp only [List.set_cons_succ, List.set_cons_zero]
    rw [e, bz_ok]
    exact ih
theorem h12 (C : Nv → Clo) {M : Mem} {n c : Nat} (hp : PotAt M n c) (hc : c ≤ 10 ^ 4) {jobs : List (List Nat)} (k : OkT 2 20 jobs) (hb : best jobs < 1000) {V : List PyData} (hV : V.length ≤ 100) (hS : ∀ p ∈ V, Sm p) (s2 s3 s5 s6 s7 s8 s9 s10 s11 s12 s13 : Slot) :
    ∃ (t5 : Slot) (M' : Mem), PotAt M' n (c + 30) ∧ evS F_law_right C st12 [some (.cel n, false), some (.py (js jobs), false), s2, s3, some (.py (.list V), true), s5, s6, s7, s8, s9, s10, s11, s12, s13, some (.py (nn (best jobs)), false), some (.py (told (best jobs) (joh (pr jobs))), false), none, none, none] M = some (.ok (.nx [some (.cel n, false), some (.py (js jobs), false), s2, s3, some (.py (.list V), true), t5, s6, s7, s8, s9, s10, s11, s12, s13, some (.py (nn (best jobs)), false), some (.py (told (best jobs) (joh (pr jobs))), false), none, none, none] M')) := by
  have hz : (1000 : Nat) ≤ sizeLine := by decide
  have er : rngL 0 (6 : Int) 1 = some ((List.range 6).map fun (i : Nat) => D.py (nn i)) := rngL_up (n := 6) (by omega)
  have hj := joh_perm (pr jobs)
  rw [pr_len] at hj
  have hjn := perm_ne hj (List.length_pos_iff.mpr k.ne)
  have hjl : (joh (pr jobs)).length ≤ 20 := by
    rw [hj.length_eq, List.length_range]
    exact k.mo
  have hjx : ∀ x ∈ joh (pr jobs), x < 100 := fun x hx => by
    have := perm_lt hj x hx
    have := k.mo
    omega
  have hB := fun (M : Mem) (c : Nat) (hp : PotAt M n c) (hc : c ≤ 10 ^ 5) => s_law_bent noClo hp hc hb hjn hjl hjx
  have hl12 := fun (M : Mem) W s5 => loop12 C M (n := n) k s2 s3 (some (.py (.list V), true)) s6 s7 s8 s9 s10 s11 s12 s13 (some (.py (told (best jobs) (joh (pr jobs))), false)) W s5
  generalize told (best jobs) (joh (pr jobs)) = TT at *
  obtain ⟨ys, M1, e1, W, rfl, k1, k2, k3⟩ := comp_st (Fs := F_law_right) (C := C) (own := [("lap", 16)]) (t := .nm 16) (src := .rng1 (.lit (.int 6))) (cond := .no) (elt := .call 21 (.cons false (.var 0) (.cons false (.var 15) .nil)))
    (ρ := [some (.cel n, false), some (.py (js jobs), false), s2, s3, some (.py (.list V), true), s5, s6, s7, s8, s9, s10, s11, s12, s13, some (.py (nn (best jobs)), false), some (.py (TT), false), none, none, none]) (M := M) (sd := .ml ((List.range 6).map fun (i : Nat) => D.py (nn i))) (sm := .sh) (M' := M) (ρ' := [some (.cel n, false), some (.py (js jobs), false), s2, s3, some (.py (.list V), true), s5, s6, s7, s8, s9, s10, s11, s12, s13, some (.py (nn (best jobs)), false), some (.py (TT), false), none, none, none]) (ρw := [some (.cel n, false), some (.py (js jobs), false), s2, s3, some (.py (.list V), true), s5, s6, s7, s8, s9, s10, s11, s12, s13, some (.py (nn (best jobs)), false), some (.py (TT), false), none, none, none])
    (fun (i : Nat) => D.py (nn i)) (fun x => [some (.cel n, false), some (.py (js jobs), false), s2, s3, some (.py (.list V), true), s5, s6, s7, s8, s9, s10, s11, s12, s13, some (.py (nn (best jobs)), false), some (.py (TT), false), some (.py (nn x), false), none, none])
    (fun done rs M => ∃ W : List PyData, rs = W.map (fun i => D.py i) ∧ W.length = done.length ∧ (∀ x ∈ W, Sm x) ∧ PotAt M n (c + 5 * done.length)) (List.range 6)
    (by simp [er]) (by simp) (by simp; omega) rfl ⟨[], rfl, rfl, (fun _ h => nomatch h), hp⟩ (fun _ _ => rfl)
    (fun done x rest rs M e ⟨W, q1, q2, q3, q4⟩ => by
      obtain ⟨rfl, hlen⟩ := rng_one e
      obtain ⟨v, M1, t1, t2, t3⟩ := hB M _ q4 (by omega)
      refine ⟨_, M, true, e_no, rfl, .inl ⟨rfl, .py v, .sh, M1, by simp [t1], rfl, W ++ [v], by rw [q1]; simp, by simp [q2], fun x hx => ?_, by rw [List.length_append, List.length_singleton]; exact t3.mono (by omega)⟩⟩
      rcases List.mem_append.mp hx with hx | hx
      · exact q3 x hx
      · rw [List.mem_singleton.mp hx]
        exact t2) rfl
  rw [List.length_range] at k1 k3
  rw [show mkL (W.map fun i => D.py i) = .py (.list W) from by rw [mkL_map (fun i => i) W, List.map_id']] at e1
  have e2 : evE F_law_right C c_law_right_4 _ M = _ := e1
  obtain ⟨t5, hf⟩ := hl12 M1 (V ++ W) s5 (fun p hp => by
    rcases List.mem_append.mp hp with h | h
    · exact hS p h
    · exact k2 p h)
  refine ⟨t5, M1, k3.mono (by omega), ?_⟩
  have ha : o2 .add (.py (.list V)) (.py (.list W)) = some (.py (.list (V ++ W)), true) := by
    rw [add_l, if_pos (by omega)]
  generalize V ++ W = VW at *
  simp [st12, l_law_right_1, e2, ha, hf]
end k31

set_option exponentiation.threshold 5000
namespace k31
open Ev PySem
theorem ne_nn (a b : Nat) : cm .ne (.py (nn a)) (.py (nn b)) = some (!decide (a = b)) := by
  show notO (cm .eq (.py (nn a)) (.py (nn b))) = _
  rw [eq_nn] <;> rfl
theorem h13 (C : Nv → Clo) {M M1 : Mem} {n : Nat} {jobs : List (List Nat)} (h : f_law_jobs noClo [.cel n, .py (.int 4), .py (.int 3)] M = some (.ok ⟨.py (js jobs), false, M1⟩)) (s1 s2 s3 s4 s5 s6 s7 s8 s9 s10 s11 s12 s13 s14 s15 : Slot) : evS F_law_right C st13 [some (.cel n, false), s1, s2, s3, s4, s5, s6, s7, s8, s9, s10, s11, s12, s13, s14, s15, none, none, none] M = some (.ok (.nx [some (.cel n, false), s1, s2, s3, s4, s5, some (.py (js jobs), false), s7, s8, s9, s10, s11, s12, s13, s14, s15, none, none, none] M1)) := by
  simp [st13, h]
theorem cc5 (C : Nv → Clo) (M : Mem) {n : Nat} {jobs : List (List Nat)} (k : OkT 3 6 jobs) (s1 s2 s3 s4 s5 s7 s8 s9 s10 s11 s12 s13 s14 s15 : Slot) : evE F_law_right C c_law_right_5 [some (.cel n, false), s1, s2, s3, s4, s5, some (.py (js jobs), false), s7, s8, s9, s10, s11, s12, s13, s14, s15, none, none, none] M = some (.ok ⟨.py (.list ((ORD jobs.length).map (cand (mk3 jobs)))), .fr, [some (.cel n, false), s1, s2, s3, s4, s5, some (.py (js jobs), false), s7, s8, s9, s10, s11, s12, s13, s14, s15, none, none, none], M⟩) := by
  have hz : (100000 : Nat) ≤ sizeLine := by decide
  have ho := s_law_orders noClo M (List.length_pos_iff.mpr k.ne) k.mo
  have hl := len_js jobs
  have h2 : (2 : Nat) ≤ sizeLine := by omega
  have hm2 : ∀ p q : PyData, mkT [D.py p, D.py q] = .py (.tuple [p, q]) := fun _ _ => rfl
  refine comp_map (fun o => D.py (tn o)) (cand (mk3 jobs)) (fun o => [some (.cel n, false), s1, s2, s3, s4, s5, some (.py (js jobs), false), s7, s8, s9, s10, s11, s12, s13, s14, s15, none, some (.py (tn o), false), none]) (ORD jobs.length) (sd := .py (.list ((ORD jobs.length).map tn))) (sm := .sh) ?_ (it_ltn _) (by have := O_small (n := jobs.length) k.mo (Nat.le_refl _); unfold ORD; omega) rfl (fun _ _ => rfl) (fun o ho => ⟨.sh, ?_, rfl⟩) (fun _ _ => rfl) rfl
  · generalize (ORD jobs.length).map tn = L at *
    simp [ho, hl]
  · have hp := ORD_of.mp ho
    have g1 := lends3 M k (by omega) hp
    have g2 := end_last (m := 3) (jobs := jobs) (M := M) (perm_ne hp (List.length_pos_iff.mpr k.ne))
    have g3 := ix_ends3 k.toOkJ (perm_lt hp) M
    simp [g1, g2, g3, h2, cand]
theorem h14 (C : Nv → Clo) {M : Mem} {n : Nat} {jobs : List (List Nat)} (k : OkT 3 6 jobs) {q : PyData} (h : bi .min [.py (.list ((ORD jobs.length).map (cand (mk3 jobs))))] = some (.py q, false)) (s1 s2 s3 s4 s5 s7 s8 s9 s10 s11 s12 s13 s14 s15 : Slot) : evS F_law_right C st14 [some (.cel n, false), s1, s2, s3, s4, s5, some (.py (js jobs), false), s7, s8, s9, s10, s11, s12, s13, s14, s15, none, none, none] M = some (.ok (.nx [some (.cel n, false), s1, s2, s3, s4, s5, some (.py (js jobs), false), some (.py q, false), s8, s9, s10, s11, s12, s13, s14, s15, none, none, none] M)) := by
  have hc := cc5 C M (n := n) k s1 s2 s3 s4 s5 s7 s8 s9 s10 s11 s12 s13 s14 s15
  generalize ((ORD jobs.length).map (cand (mk3 jobs))) = L at *
  simp [st14, hc, h]
theorem h15 (C : Nv → Clo) {M : Mem} {n : Nat} {jobs : List (List Nat)} {q : PyData} (h : f_soonest_three noClo [.py (js jobs)] M = some (.ok ⟨.py q, false, M⟩)) (hr : ∃ s : Str, bi .repr [.py q] = some (.py (.str s), false)) (s1 s2 s3 s4 s5 s8 s9 s10 s11 s12 s13 s14 s15 : Slot) : evS F_law_right C st15 [some (.cel n, false), s1, s2, s3, s4, s5, some (.py (js jobs), false), some (.py q, false), s8, s9, s10, s11, s12, s13, s14, s15, none, none, none] M = some (.ok (.nx [some (.cel n, false), s1, s2, s3, s4, s5, some (.py (js jobs), false), some (.py q, false), s8, s9, s10, s11, s12, s13, s14, s15, none, none, none] M)) := by
  obtain ⟨s, hr⟩ := hr
  simp [st15, h, hr]
theorem h16 (C : Nv → Clo) {M : Mem} {n : Nat} {jobs : List (List Nat)} {os : List Nat} (h : f_law_rule noClo [.py (js jobs)] M = some (.ok ⟨.py (tn os), false, M⟩)) (s1 s2 s3 s4 s5 s7 s8 s9 s10 s11 s12 s13 s14 s15 : Slot) : evS F_law_right C st16 [some (.cel n, false), s1, s2, s3, s4, s5, some (.py (js jobs), false), s7, s8, s9, s10, s11, s12, s13, s14, s15, none, none, none] M = some (.ok (.nx [some (.cel n, false), s1, s2, s3, s4, s5, some (.py (js jobs), false), s7, some (.py (tn os), false), s9, s10, s11, s12, s13, s14, s15, none, none, none] M)) := by
  simp [st16, h]
theorem cc6 (C : Nv → Clo) (M : Mem) {n : Nat} {jobs : List (List Nat)} (hw : ∀ j ∈ jobs, j.length = 3) (hl : jobs.length ≤ 20) (s1 s2 s3 s4 s5 s7 s8 s9 s10 s11 s12 s13 s14 s15 : Slot) : evE F_law_right C c_law_right_6 [some (.cel n, false), s1, s2, s3, s4, s5, some (.py (js jobs), false), s7, s8, s9, s10, s11, s12, s13, s14, s15, none, none, none] M = some (.ok ⟨.py (.list ((t3 jobs).map fun x => nn x.m)), .fr, [some (.cel n, false), s1, s2, s3, s4, s5, some (.py (js jobs), false), s7, s8, s9, s10, s11, s12, s13, s14, s15, none, none, none], M⟩) := by
  have hz : (100 : Nat) ≤ sizeLine := by decide
  exact comp_map (fun x => D.py (r3 x)) (fun x => nn x.m) (fun x => [some (.cel n, false), s1, s2, s3, s4, s5, some (.py (js jobs), false), s7, s8, s9, s10, s11, s12, s13, s14, s15, none, none, some (.py (r3 x), false)]) (t3 jobs) (sd := .py (js jobs)) (sm := .sh) (by simp [js_t3 hw]) (js_t3 hw) (by rw [t3_len]; omega) rfl (fun _ _ => rfl) (fun x _ => ⟨.sh, by simp [r3, tn], rfl⟩) (fun _ _ => rfl) rfl
theorem cc7 (C : Nv → Clo) (M : Mem) {n : Nat} {jobs : List (List Nat)} (hw : ∀ j ∈ jobs, j.length = 3) (hl : jobs.length ≤ 20) (s1 s2 s3 s4 s5 s7 s8 s9 s10 s11 s12 s13 s14 s15 : Slot) : evE F_law_right C c_law_right_7 [some (.cel n, false), s1, s2, s3, s4, s5, some (.py (js jobs), false), s7, s8, s9, s10, s11, s12, s13, s14, s15, none, none, none] M = some (.ok ⟨.py (.list ((t3 jobs).map fun x => nn x.a)), .fr, [some (.cel n, false), s1, s2, s3, s4, s5, some (.py (js jobs), false), s7, s8, s9, s10, s11, s12, s13, s14, s15, none, none, none], M⟩) := by
  have hz : (100 : Nat) ≤ sizeLine := by decide
  exact comp_map (fun x => D.py (r3 x)) (fun x => nn x.a) (fun x => [some (.cel n, false), s1, s2, s3, s4, s5, some (.py (js jobs), false), s7, s8, s9, s10, s11, s12, s13, s14, s15, none, none, some (.py (r3 x), false)]) (t3 jobs) (sd := .py (js jobs)) (sm := .sh) (by simp [js_t3 hw]) (js_t3 hw) (by rw [t3_len]; omega) rfl (fun _ _ => rfl) (fun x _ => ⟨.sh, by simp [r3, tn], rfl⟩) (fun _ _ => rfl) rfl
theorem cc8 (C : Nv → Clo) (M : Mem) {n : Nat} {jobs : List (List Nat)} (hw : ∀ j ∈ jobs, j.length = 3) (hl : jobs.length ≤ 20) (s1 s2 s3 s4 s5 s7 s8 s9 s10 s11 s12 s13 s14 s15 : Slot) : evE F_law_right C c_law_right_8 [some (.cel n, false), s1, s2, s3, s4, s5, some (.py (js jobs), false), s7, s8, s9, s10, s11, s12, s13, s14, s15, none, none, none] M = some (.ok ⟨.py (.list ((t3 jobs).map fun x => nn x.c)), .fr, [some (.cel n, false), s1, s2, s3, s4, s5, some (.py (js jobs), false), s7, s8, s9, s10, s11, s12, s13, s14, s15, none, none, none], M⟩) := by
  have hz : (100 : Nat) ≤ sizeLine := by decide
  exact comp_map (fun x => D.py (r3 x)) (fun x => nn x.c) (fun x => [some (.cel n, false), s1, s2, s3, s4, s5, some (.py (js jobs), false), s7, s8, s9, s10, s11, s12, s13, s14, s15, none, none, some (.py (r3 x), false)]) (t3 jobs) (sd := .py (js jobs)) (sm := .sh) (by simp [js_t3 hw]) (js_t3 hw) (by rw [t3_len]; omega) rfl (fun _ _ => rfl) (fun x _ => ⟨.sh, by simp [r3, tn], rfl⟩) (fun _ _ => rfl) rfl
theorem h17 (C : Nv → Clo) {M : Mem} {n : Nat} {jobs : List (List Nat)} (k : OkT 3 20 jobs) {mm : Nat} (h : bi .max [.py (.list ((t3 jobs).map fun x => nn x.m))] = some (.py (nn mm), false)) (s1 s2 s3 s4 s5 s7 s8 s9 s10 s11 s12 s13 s14 s15 : Slot) : evS F_law_right C st17 [some (.cel n, false), s1, s2, s3, s4, s5, some (.py (js jobs), false), s7, s8, s9, s10, s11, s12, s13, s14, s15, none, none, none] M = some (.ok (.nx [some (.cel n, false), s1, s2, s3, s4, s5, some (.py (js jobs), false), s7, s8, some (.py (nn mm), false), s10, s11, s12, s13, s14, s15, none, none, none] M)) := by
  have hc := cc6 C M (n := n) k.w k.mo s1 s2 s3 s4 s5 s7 s8 s9 s10 s11 s12 s13 s14 s15
  generalize ((t3 jobs).map fun x => nn x.m) = L at *
  simp [st17, hc, h]
theorem h18 (C : Nv → Clo) {M : Mem} {n : Nat} {jobs : List (List Nat)} (k : OkT 3 20 jobs) {mm a c : Nat} (h2 : bi .min [.py (.list ((t3 jobs).map fun x => nn x.a))] = some (.py (nn a), false)) (h3 : bi .min [.py (.list ((t3 jobs).map fun x => nn x.c))] = some (.py (nn c), false)) (s1 s2 s3 s4 s5 s7 s8 s10 s11 s12 s13 s14 s15 : Slot) : evS F_law_right C st18 [some (.cel n, false), s1, s2, s3, s4, s5, some (.py (js jobs), false), s7, s8, some (.py (nn mm), false), s10, s11, s12, s13, s14, s15, none, none, none] M = some (.ok (.nx [some (.cel n, false), s1, s2, s3, s4, s5, some (.py (js jobs), false), s7, s8, some (.py (nn mm), false), some (.py (.bool (decide (mm ≤ a) || decide (mm ≤ c))), false), s11, s12, s13, s14, s15, none, none, none] M)) := by
  have g1 := cc7 C M (n := n) k.w k.mo s1 s2 s3 s4 s5 s7 s8 (some (.py (nn mm), false)) s10 s11 s12 s13 s14 s15
  have g2 := cc8 C M (n := n) k.w k.mo s1 s2 s3 s4 s5 s7 s8 (some (.py (nn mm), false)) s10 s11 s12 s13 s14 s15
  generalize ((t3 jobs).map fun x => nn x.a) = L at *
  generalize ((t3 jobs).map fun x => nn x.c) = L2 at *
  by_cases ha : mm ≤ a
  · simp [st18, g1, g2, h2, h3, ha]
  · simp [st18, g1, g2, h2, h3, ha]
theorem h19 (C : Nv → Clo) {M : Mem} {n : Nat} {jobs : List (List Nat)} (k : OkT 3 20 jobs) {os : List Nat} (hp : os.Perm (List.range jobs.length)) (s1 s2 s3 s4 s5 s7 s9 s10 s11 s12 s13 s14 s15 : Slot) : evS F_law_right C st19 [some (.cel n, false), s1, s2, s3, s4, s5, some (.py (js jobs), false), s7, some (.py (tn os), false), s9, s10, s11, s12, s13, s14, s15, none, none, none] M = some (.ok (.nx [some (.cel n, false), s1, s2, s3, s4, s5, some (.py (js jobs), false), s7, some (.py (tn os), false), s9, s10, some (.py (nn (mk3 jobs os)), false), s12, s13, s14, s15, none, none, none] M)) := by
  have g1 := lends3 M k (by omega) hp
  have g2 := end_last (m := 3) (jobs := jobs) (M := M) (perm_ne hp (List.length_pos_iff.mpr k.ne))
  have g3 := ix_ends3 k.toOkJ (perm_lt hp) M
  simp [st19, g1, g2, g3]
theorem h20 (C : Nv → Clo) {M : Mem} {n : Nat} {jobs : List (List Nat)} {t t2 : Nat} {r p : PyData} {sure : Bool} (h : f_middle_rule noClo [.py (js jobs)] M = some (.ok ⟨.py (.tuple [nn t, p, .bool sure]), false, M⟩)) (hr : ∃ s : Str, bi .repr [.py (.tuple [nn t, p, .bool sure])] = some (.py (.str s), false)) (hs : sure = true → t = t2) (s1 s2 s3 s4 s5 s9 s12 s13 s14 s15 : Slot) : evS F_law_right C st20 [some (.cel n, false), s1, s2, s3, s4, s5, some (.py (js jobs), false), some (.py (.tuple [nn t2, r]), false), some (.py p, false), s9, some (.py (.bool sure), false), some (.py (nn t), false), s12, s13, s14, s15, none, none, none] M = some (.ok (.nx [some (.cel n, false), s1, s2, s3, s4, s5, some (.py (js jobs), false), some (.py (.tuple [nn t2, r]), false), some (.py p, false), s9, some (.py (.bool sure), false), some (.py (nn t), false), s12, s13, s14, s15, none, none, none] M)) := by
  obtain ⟨s, hr⟩ := hr
  have h3 : (3 : Nat) ≤ sizeLine := by decide
  cases sure with
  | false => simp [st20, h, hr, h3]
  | true =>
    have := hs rfl
    subst this
    simp [st20, h, hr, h3, ne_nn]
end k31

set_option exponentiation.threshold 5000
namespace k31
open Ev PySem
theorem ss_step {Fs : List Fn} {C : Nv → Clo} {s : S} {ss : Ss} {ρ ρ1 : Nv} {M M1 : Mem} (h : evS Fs C s ρ M = some (.ok (.nx ρ1 M1))) : evSs Fs C (.cons s ss) ρ M = evSs Fs C ss ρ1 M1 := by
  rw [ss_cons, h] <;> rfl
theorem sm_pair {t : PyData} {qs : List PyData} (h : qs.length ≤ 100) : Sm (.tuple [t, .tuple qs]) := fun t' qs' e => by
  have e2 : [t, .tuple qs] = [t', .tuple qs'] := PyData.tuple.inj e
  have e3 : PyData.tuple qs = .tuple qs' := by
    injection e2 with _ e2
    injection e2 with e2 _
  rw [← PyData.tuple.inj e3]
  exact h
theorem V9_sm {T : Nat} {JJ : List PyData} (h : JJ.length ≤ 20) : ∀ p ∈ V9 T JJ, Sm p := fun p hp => by
  simp only [V9, List.mem_cons, List.not_mem_nil, or_false] at hp
  rcases hp with rfl | rfl | rfl | rfl | rfl | rfl | rfl
  · exact sm_pair (by omega)
  · exact sm_of rfl
  · exact sm_of rfl
  · exact sm_of rfl
  · exact sm_of rfl
  · exact sm_pair (by omega)
  · exact sm_pair (by rw [List.length_reverse]; omega)
theorem V10_sm {T m : Nat} {JJ : List PyData} {q : PyData} (h : JJ.length ≤ 20) (hm : m ≤ 20) (hq : Sm q) : ∀ p ∈ V10 T m JJ q, Sm p := fun p hp => by
  simp only [V10, List.mem_cons, List.not_mem_nil, or_false] at hp
  rcases hp with rfl | rfl | rfl | rfl
  · exact sm_pair (by rw [List.length_drop]; omega)
  · exact sm_of rfl
  · exact sm_pair (by unfold rep; rw [List.length_replicate]; omega)
  · exact hq
theorem rp_cand {a : Nat} {o : List Nat} (ha : a ≤ 150) (hl : o.length ≤ 20) (hx : ∀ x ∈ o, x < 100) : Rp 2 5000 (.tuple [nn a, tn o]) := by
  refine rp_tup ?_
  have h1 : Rp 1 1000 (nn a) := (rp_nat (d := 1) (w := 40) (by omega) (Nat.le_refl _)).mono (Nat.le_refl _) (by decide)
  have h2 : Rp 1 1000 (tn o) := rp_tn (fun x hx2 => by have := hx x hx2; omega) hl
  exact (rps_cons h1 (rps_cons h2 rps_nil (w' := 0))).mono (Nat.le_refl _) (by decide)
theorem rp_three {a : Nat} {o : List Nat} {b : Bool} (ha : a ≤ 150) (hl : o.length ≤ 20) (hx : ∀ x ∈ o, x < 100) : Rp 2 5000 (.tuple [nn a, tn o, .bool b]) := by
  refine rp_tup ?_
  have h1 : Rp 1 1000 (nn a) := (rp_nat (d := 1) (w := 40) (by omega) (Nat.le_refl _)).mono (Nat.le_refl _) (by decide)
  have h2 : Rp 1 1000 (tn o) := rp_tn (fun x hx2 => by have := hx x hx2; omega) hl
  exact (rps_cons h1 (rps_cons h2 (rps_cons (rp_bool (d := 1) (w := 1000) b) rps_nil (w' := 0)))).mono (Nat.le_refl _) (by decide)
theorem perm_small {n : Nat} {os : List Nat} (h : os.Perm (List.range n)) (hn : n ≤ 20) : os.length ≤ 20 ∧ ∀ x ∈ os, x < 100 := by
  constructor
  · rw [h.length_eq, List.length_range]
    exact hn
  · intro x hx
    have := perm_lt h x hx
    omega
/-- the three machines' words -/
theorem three_of {jobs : List (List Nat)} (k : OkS 3 4 jobs) : ∃ (m : List Nat) (mm a c : Nat), m ∈ ORD jobs.length ∧ bi .min [.py (.list ((ORD jobs.length).map (cand (mk3 jobs))))] = some (.py (cand (mk3 jobs) m), false) ∧
    bi .max [.py (.list ((t3 jobs).map fun x => nn x.m))] = some (.py (nn mm), false) ∧ bi .min [.py (.list ((t3 jobs).map fun x => nn x.a))] = some (.py (nn a), false) ∧ bi .min [.py (.list ((t3 jobs).map fun x => nn x.c))] = some (.py (nn c), false) ∧
    ((decide (mm ≤ a) || decide (mm ≤ c)) = true → mk3 jobs (J3o jobs) = mk3 jobs m) := by
  obtain ⟨m, m1, m2, m3⟩ := min_cand (mk3 jobs) (ORD_ne jobs.length)
  have hne : t3 jobs ≠ [] := by
    have := k.ne
    unfold t3
    simpa using this
  obtain ⟨mm, _, x2, x3⟩ := max_nn (l := (t3 jobs).map fun x => x.m) (by simpa using hne)
  obtain ⟨a, _, a2, a3⟩ := min_nn (l := (t3 jobs).map fun x => x.a) (by simpa using hne)
  obtain ⟨c, _, c2, c3⟩ := min_nn (l := (t3 jobs).map fun x => x.c) (by simpa using hne)
  rw [List.map_map] at x3 a3 c3
  refine ⟨m, mm, a, c, m1, m3, x3, a3, c3, fun hs => ?_⟩
  have hJ := J3_perm jobs
  have h1 := m2 (J3o jobs) (ORD_of.mpr hJ)
  have hin : ∀ j ∈ jobs, (⟨j.getD 0 0, j.getD 1 0, j.getD 2 0⟩ : J3) ∈ t3 jobs := fun j hj => List.mem_map.mpr ⟨j, hj, rfl⟩
  have h2 : mk3 jobs (J3o jobs) ≤ mk3 jobs m := by
    refine mk3_best jobs (M := mm) ?_ (ORD_of.mp m1)
    rw [Bool.or_eq_true, decide_eq_true_eq, decide_eq_true_eq] at hs
    rcases hs with hs | hs
    · refine .inl fun j hj => ?_
      have g1 := a2 _ (List.mem_map.mpr ⟨_, hin j hj, rfl⟩)
      have g2 := x2 _ (List.mem_map.mpr ⟨_, hin j hj, rfl⟩)
      simp only at g1 g2
      exact ⟨by omega, g2⟩
    · refine .inr fun j hj => ?_
      have g1 := c2 _ (List.mem_map.mpr ⟨_, hin j hj, rfl⟩)
      have g2 := x2 _ (List.mem_map.mpr ⟨_, hin j hj, rfl⟩)
      simp only at g1 g2
      exact ⟨by omega, g2⟩
  omega
theorem s_law_right (C : Clo) {M : Mem} {n c : Nat} (hp : PotAt M n c) (hc : c ≤ 10 ^ 3) : ∃ M' : Mem, f_law_right C [.cel n] M = some (.ok ⟨.py (.bool true), false, M'⟩) ∧ PotAt M' n (c + 100) := by
  obtain ⟨jobs, M1, j1, k, hp1⟩ := s_law_jobs noClo hp (most := 5) (m := 2) (by omega) (by decide) (by decide) (by decide)
  have kt := k.t (b := 20) (by decide) (Nat.le_refl _)
  have h0 := List.length_pos_iff.mpr k.ne
  have l5 := k.mo
  have hOl : ((ORD jobs.length).map tn).length < 2 ^ 30 := by
    rw [List.length_map]
    have := O_small (n := jobs.length) (show jobs.length ≤ 6 by omega) (Nat.le_refl _)
    unfold ORD
    omega
  obtain ⟨po, M2, o1, o2', hp2⟩ := one_of noClo hp1 (by omega) (ps := (ORD jobs.length).map tn) (by simpa using ORD_ne jobs.length) hOl
  obtain ⟨os, ho, rfl⟩ := List.mem_map.mp o1
  have hos := ORD_of.mp ho
  obtain ⟨q, M3, q1, q2', hp3⟩ := s_law_odd noClo hp2 (by omega)
  have hJ := joh_perm (pr jobs)
  rw [pr_len] at hJ
  obtain ⟨js1, js2⟩ := perm_small hJ (by omega)
  have hJJ : ((joh (pr jobs)).map nn).length ≤ 20 := by rw [List.length_map]; exact js1
  have hb : best jobs ≤ 150 := mk2_le k (Nat.le_refl _) hJ
  have hVl : (V9 (best jobs) ((joh (pr jobs)).map nn) ++ V10 (best jobs) jobs.length ((joh (pr jobs)).map nn) q).length ≤ 100 := by
    rw [List.length_append]
    exact (by decide : 7 + 4 ≤ 100)
  have hVs : ∀ p ∈ V9 (best jobs) ((joh (pr jobs)).map nn) ++ V10 (best jobs) jobs.length ((joh (pr jobs)).map nn) q, Sm p := fun p hpp => by
    rcases List.mem_append.mp hpp with h | h
    · exact V9_sm hJJ p h
    · exact V10_sm hJJ (by omega) (ODD_sm q q1) p h
  obtain ⟨W, M4, w1, w2, hp4, e11⟩ := h11 (lamC F_law_right d_law_right.lams) hp3 (by omega) h0 l5 (T := best jobs) hVl hVs (some (.py (js jobs), false)) (some (.py (tn os), false)) (some (.py (endD 2 jobs os), false)) none none none none none none none (some (.py (nn jobs.length), false)) (some (.py (told (best jobs) (joh (pr jobs))), false))
  have hVl2 : ((V9 (best jobs) ((joh (pr jobs)).map nn) ++ V10 (best jobs) jobs.length ((joh (pr jobs)).map nn) q) ++ W).length ≤ 100 := by
    rw [List.length_append, w1, List.length_append]
    exact (by decide : 7 + 4 + 6 ≤ 100)
  obtain ⟨t5, M5, hp5, e12⟩ := h12 (lamC F_law_right d_law_right.lams) hp4 (by omega) kt (by omega) hVl2 (fun p hpp => by
    rcases List.mem_append.mp hpp with h | h
    · exact hVs p h
    · exact w2 p h) (some (.py (tn os), false)) (some (.py (endD 2 jobs os), false)) none none none none none none none (some (.py (nn jobs.length), false)) (some (.py (.list ((ORD jobs.length).map tn)), false))
  obtain ⟨three, M6, u1, k3, hp6⟩ := s_law_jobs noClo hp5 (most := 4) (m := 3) (by omega) (by decide) (by decide) (by decide)
  have kt6 := k3.t (b := 6) (by decide) (by decide)
  have kt20 := k3.t (b := 20) (by decide) (Nat.le_refl _)
  have l4 := k3.mo
  obtain ⟨m, mm, a, cc, m1, m2, x3, a3, c3, hsure⟩ := three_of k3
  have hm := ORD_of.mp m1
  have hJ3 := J3_perm three
  obtain ⟨M7, r1, hp7⟩ := s_law_are_refused noClo hp6 (by omega) kt l5
  refine ⟨M7, ?_, hp7.mono (by omega)⟩
  have hsum := sum_le (pr_le k)
  rw [pr_len] at hsum
  have hmk := mk2_le k (Nat.le_refl _) hos
  have main : evSs F_law_right (lamC F_law_right d_law_right.lams) d_law_right.body (startN 19 [.cel n]) M = some (.ok (.rt ⟨.py (.bool true), false, M7⟩)) := by
    rw [st_body]
    refine (ss_step (h1 _ j1 ..)).trans ?_
    refine (ss_step (h2 _ (s_law_orders noClo M1 h0 (by omega)) ..)).trans ?_
    refine (ss_step (h3 _ o2' ..)).trans ?_
    refine (ss_step (h4 _ (lends2 M2 kt hos) ..)).trans ?_
    refine (ss_step (h5 _ (s_ends noClo M2 kt hos) (repr_eq (rp_end k (Nat.le_refl _) (by decide) hos) (by decide) (by decide)) ..)).trans ?_
    refine (ss_step (h6 _ kt hos (repr_eq (rp_int (d := 0) (w := 40) (by omega) (Nat.le_refl _)) (by decide) (by decide)) ..)).trans ?_
    refine (ss_step (h7 _ kt (by omega) ..)).trans ?_
    refine (ss_step (h8 _ (by
      have e := s_due noClo M2 kt (best jobs) (p := told (best jobs) (joh (pr jobs))) (sm_pair (by omega))
      rw [due_told] at e
      exact e) ..)).trans ?_
    refine (ss_step (h9 (T := best jobs) (JJ := (joh (pr jobs)).map nn) _ ..)).trans ?_
    refine (ss_step (h10 (T := best jobs) (JJ := (joh (pr jobs)).map nn) (V := V9 (best jobs) ((joh (pr jobs)).map nn)) _ h0 (by omega) (show (7 : Nat) ≤ 100 by decide) q2' ..)).trans ?_
    refine (ss_step e11).trans ?_
    refine (ss_step e12).trans ?_
    refine (ss_step (h13 _ u1 ..)).trans ?_
    refine (ss_step (h14 _ kt6 m2 ..)).trans ?_
    refine (ss_step (h15 _ (s_soonest_three noClo M6 kt6 m2) (repr_eq (rp_cand (mk3_le k3 (by decide) hm) (perm_small hm (by omega)).1 (perm_small hm (by omega)).2) (by decide) (by decide)) ..)).trans ?_
    refine (ss_step (h16 _ (s_law_rule noClo M6 k3.w (by omega)) ..)).trans ?_
    refine (ss_step (h17 _ kt20 x3 ..)).trans ?_
    refine (ss_step (h18 _ kt20 a3 c3 ..)).trans ?_
    refine (ss_step (h19 _ kt20 hJ3 ..)).trans ?_
    refine (ss_step (h20 _ (s_middle_rule noClo M6 kt20 x3 a3 c3) (repr_eq (rp_three (mk3_le k3 (by decide) hJ3) (perm_small hJ3 (by omega)).1 (perm_small hJ3 (by omega)).2) (by decide) (by decide)) hsure ..)).trans ?_
    simp [st21, r1]
  unfold f_law_right
  rw [runF_eq rfl]
  show outC (outOf (evSs F_law_right (lamC F_law_right d_law_right.lams) d_law_right.body (startN 19 [.cel n]) M)) = _
  rw [main]
  simp
end k31

set_option exponentiation.threshold 5000
namespace k31
open Ev PySem
/-! ### the law -/
def jobs0 : List (List Nat) := [[3, 2], [1, 4]]
theorem k0 : OkT 2 20 jobs0 :=
  { w := by decide, le := by decide, t := by decide, ne := by decide, mo := by decide }
theorem ends0 (M : Mem) : f_ends noClo [.py (.tuple [.tuple [.int 3, .int 2], .tuple [.int 1, .int 4]]), .py (.tuple [.int 1, .int 0])] M = some (.ok ⟨.py (.tuple [.tuple [.int 1, .int 5], .tuple [.int 4, .int 7]]), false, M⟩) :=
  s_ends noClo M k0 (os := [1, 0]) (by decide)
theorem soon0 (M : Mem) : ∃ p : PyData, f_soonest noClo [.py (.tuple [.tuple [.int 3, .int 2], .tuple [.int 1, .int 4]])] M = some (.ok ⟨.py (.tuple [.int 7, p]), false, M⟩) := by
  have h := s_soonest noClo M k0
  have e : mk2 jobs0 (joh (pr jobs0)) = 7 := by decide +kernel
  rw [e] at h
  generalize tn (joh (pr jobs0)) = p at h
  exact ⟨p, h⟩
theorem repr0 : bi .repr [.py (.tuple [.tuple [.int 1, .int 5], .tuple [.int 4, .int 7]])] = some (.py (.str "((1, 5), (4, 7))"), false) := by kernel_rfl
theorem places (C : Clo) (M : Mem) (ns : List Int) (h : ns.length ≤ 63) : ∃ k : Nat, k ≤ 63 ∧ f_law_places C [.scr ns, .py (.int 4)] M = some (.ok ⟨.py (.list ((List.range k).map nn)), true, M⟩) := by
  have hz : (200 : Nat) ≤ sizeLine := by decide
  have e : ∃ k : Nat, k ≤ 63 ∧ (if (if (ns.length : Int) < 4 then (ns.length : Int) else 4) > 1 then (if (ns.length : Int) < 4 then (ns.length : Int) else 4) else 1) = (k : Int) := by
    refine ⟨max 1 (min 4 ns.length), by omega, ?_⟩
    split <;> split <;> omega
  obtain ⟨k, hk, e⟩ := e
  refine ⟨k, hk, ?_⟩
  have h1 : bi .min [.py (.int 4), .py (.int (ns.length : Int))] = some (.py (.int (if (ns.length : Int) < 4 then (ns.length : Int) else 4)), false) := min_i _ _
  have h2 : bi .max [.py (.int 1), .py (.int (if (ns.length : Int) < 4 then (ns.length : Int) else 4))] = some (.py (.int (k : Int)), false) := by rw [max_i, e]
  have hr := rngL_up (n := k) (by omega)
  have hm : mkL ((List.range k).map fun (i : Nat) => D.py (.int (i : Int))) = .py (.list ((List.range k).map nn)) := mkL_map nn (List.range k)
  generalize (if (ns.length : Int) < 4 then (ns.length : Int) else 4) = v at *
  simp [-min_i, -max_i, f_law_places, runF, d_law_places, startN, h1, h2, hr, hm]
theorem law_turn (C : Nv → Clo) (M : Mem) (ns : List Int) (pl : Nat) (hp : pl ≤ 100) (a : Slot) : ∃ (b : Slot) (M' : Mem), evSs F_law C b_law_1 [some (.scr ns, false), some (.py (nn pl), false), a, none] M = some (.ok (.nx [some (.scr ns, false), some (.py (nn pl), false), b, none] M')) := by
  have hz : (200 : Nat) ≤ sizeLine := by decide
  obtain ⟨ps, h1, h2⟩ := pot noClo M ns (pl := pl) (by omega)
  have hr : rngL 0 2 1 = some ((List.range 2).map fun (i : Nat) => D.py (nn i)) := rngL_up (n := 2) (by omega)
  obtain ⟨ys, M', e1, h3, h4⟩ := comp_st (Fs := F_law) (C := C) (own := [("lap", 3)]) (t := .nm 3) (src := .rng1 (.lit (.int 2))) (cond := .no) (elt := .call 29 (.cons false (.var 2) .nil))
    (ρ := [some (.scr ns, false), some (.py (nn pl), false), some (.cel M.length, false), none]) (M := M ++ [ps]) (sd := .ml ((List.range 2).map fun (i : Nat) => D.py (nn i))) (sm := .sh) (M' := M ++ [ps]) (ρ' := [some (.scr ns, false), some (.py (nn pl), false), some (.cel M.length, false), none]) (ρw := [some (.scr ns, false), some (.py (nn pl), false), some (.cel M.length, false), none])
    (fun (i : Nat) => D.py (nn i)) (fun x => [some (.scr ns, false), some (.py (nn pl), false), some (.cel M.length, false), some (.py (nn x), false)])
    (fun done rs M' => rs = done.map (fun _ => D.py (.bool true)) ∧ PotAt M' M.length (100 * done.length)) (List.range 2)
    (by simp [hr]) (by simp) (by simp; omega) rfl ⟨rfl, h2⟩ (fun _ _ => rfl)
    (fun done x rest rs M1 e ⟨q1, q2⟩ => by
      obtain ⟨rfl, hlen⟩ := rng_one e
      obtain ⟨M2, r1, r2⟩ := s_law_right noClo q2 (by omega)
      exact ⟨_, M1, true, e_no, rfl, .inl ⟨rfl, .py (.bool true), .sh, M2, by simp [r1], rfl, by rw [q1]; simp, by rw [List.length_append, List.length_singleton]; exact r2.mono (by omega)⟩⟩) rfl
  have hm : mkL ys = .py (.list ((List.range 2).map fun _ => .bool true)) := by
    rw [h3]
    exact mkL_map (fun _ => .bool true) (List.range 2)
  rw [hm] at e1
  have e1' : evE F_law C c_law_1 [some (.scr ns, false), some (.py (nn pl), false), some (.cel M.length, false), none] (M ++ [ps]) = _ := e1
  have ha := allb (fun _ : Nat => true) (List.range 2)
  rw [List.all_eq_true.mpr fun _ _ => rfl] at ha
  generalize (List.range 2).map (fun _ : Nat => PyData.bool true) = L at *
  exact ⟨some (.cel M.length, false), M', by simp [b_law_1, h1, e1', ha]⟩
theorem the_law (ns : List Int) (h : ns.length ≤ 63) : ∃ M, runF (fnsOf recs []) d_law noClo [.scr ns] [] = some (.ok ⟨.py (.bool true), false, M⟩) := by
  obtain ⟨k, hk, hp⟩ := places noClo [] ns h
  obtain ⟨p, hs⟩ := soon0 []
  obtain ⟨ρ', M', e1, a, b, hI⟩ := forE_inv (Fs := F_law) (C := lamC F_law []) (t := .nm 1) (body := b_law_1) (fun i => D.py (nn i))
    (fun _ ρ _ => ∃ a b : Slot, ρ = [some (.scr ns, false), a, b, none])
    (List.range k) [some (.scr ns, false), none, none, none] [] ⟨none, none, rfl⟩
    (fun done x rest ρ M e ⟨a, b, hI⟩ => by
      subst hI
      obtain ⟨rfl, hlen⟩ := rng_one e
      obtain ⟨b', M', q⟩ := law_turn (lamC F_law []) M ns done.length (by omega) b
      exact ⟨_, rfl, _, M', q, _, _, rfl⟩)
  rw [fns_eq]
  refine ⟨M', ?_⟩
  rw [runF_eq rfl]
  show outC (outOf (evSs F_law (lamC F_law []) d_law.body [some (.scr ns, false), none, none, none] [])) = _
  have hi : items (.py (.list ((List.range k).map nn))) = some ((List.range k).map fun i => D.py (nn i)) := by rw [it_l, List.map_map]; rfl
  generalize (.list ((List.range k).map nn) : PyData) = X at *
  simp [d_law, ends0, repr0, hs, l_law_1, hp, hi, e1, show (0 : Nat) ≤ sizeLine from by decide, show (1 : Nat) ≤ sizeLine from by decide, show (2 : Nat) ≤ sizeLine from by decide]
theorem holds : PySem.Challenge.rw_drybytheirhour_k31_whole_washed_then_wru.Holds := all_of fun ns h _ => the_law ns h
end k31

theorem PySem.Challenge.cw_drybytheirhour_k31_whole_washed_then_wru_holds : PySem.Challenge.rw_drybytheirhour_k31_whole_washed_then_wru.Holds := by
  exact k31.holds
