import PyProof.Rows.All
import Wide.All
import OpenK.AllK
import Wide.FinOn
import KE.KStateDown
import HandS.ForMost
import HandS.ForExc
import HandS.Defaults
import HandS.Head0
import HandS.Head1
import HandS.Head2
import HandS.HeadEnd
import HandS.HeadHook1
import HandS.HeadHook2
import HandS.HeadHook3
import HandS.HeadHook4
import HandS.HeadWalk
import HandS.Flow
import HandS.Star
import HandS.Style
import HandS.Deep
import HandS.TupLe
import HandS.TupAny
import HandS.TupMul
import HandS.ExcInit
import HandS.WideBits
import HandS.Wide
import HandS.Zip
import HandS.RaiseMore
import HandS.IsInst
import HandS.ExcIs
import HandS.Lambda
import KE.SortData
import KE.DataMinMax
import KE.DataCmp
import KE.GoesMore
import HandS.ExcField
import HandS.Conv
import HandS.EndTab
import PySem.Challenge.RW_drybytheirhour_k28_whole_which_lot_surel
set_option Elab.async false
set_option linter.all false
set_option maxRecDepth 100000
set_option maxHeartbeats 0
set_option autoImplicit false
set_option exponentiation.threshold 5000
/-! The evaluator: values, terms, what they come to. -/
namespace Ev
open L2 PyProof.Rows PySem PySem.Spec

/-- a value: data; rows that hold other things; a def by its number; a caught error; a cell of the memory; a lambda; the script -/
inductive D where
  | py (p : PyData)
  | mt (xs : List D)
  | ml (xs : List D)
  | fn (k : Nat)
  | exc (c : Nat) (p : PyData)
  | cel (n : Nat)
  | clo (k : Nat)
  | scr (ns : List Int)

abbrev Mem := List (List PyData)
abbrev Slot := Option (D × Bool)
abbrev Nv := List Slot

def allPy : List D → Option (List PyData)
  | [] => some []
  | .py p :: r => (match allPy r with
    | some ps => some (p :: ps)
    | none => none)
  | _ :: _ => none
def mkT (ds : List D) : D := match allPy ds with
  | some ps => .py (.tuple ps)
  | none => .mt ds
def mkL (ds : List D) : D := match allPy ds with
  | some ps => .py (.list ps)
  | none => .ml ds
def items : D → Option (List D)
  | .py (.tuple ps) => some (ps.map .py)
  | .py (.list ps) => some (ps.map .py)
  | .mt ds => some ds
  | .ml ds => some ds
  | _ => none
/-- the items of a tuple -/
def itemsT : D → Option (List D)
  | .py (.tuple ps) => some (ps.map .py)
  | .mt ds => some ds
  | _ => none

inductive Op2 where
  | add | sub | mul | fdiv | mod | pow | shl | shr | band | bxor | bor
  deriving DecidableEq
inductive Cm where
  | eq | ne | lt | le | gt | ge | is | isnot | inn | notin
  deriving DecidableEq
inductive Ty where
  | tup | int | bool | str | lst | exc (c : Nat) | verr
  deriving DecidableEq
inductive Bi where
  | len | repr | str | int | tuple | list | all | any | sum | min | max | sorted | abs
  deriving DecidableEq
inductive Me where
  | index | count | join | split | upper | get
  deriving DecidableEq

/-- a target of a store: a slot, or several -/
inductive T where
  | nm (i : Nat)
  | tp (ts : List T)

mutual
inductive E where
  | no
  | lit (p : PyData)
  | gli (x : Str) (i : Int)
  | gls (x : Str) (s : Str)
  | glf (k : Nat)
  | var (i : Nat)
  | tup (es : Es)
  | lst (es : Es)
  | cell (es : Es)
  | bin (o : Op2) (a b : E)
  | neg (a : E)
  | not (a : E)
  | bop (isAnd : Bool) (es : Es)
  | cmp (a : E) (ops : List Cm) (es : Es)
  | ite (c a b : E)
  | ix (a b : E)
  | slc (a lo hi : E)
  | rev (a : E)
  | call (k : Nat) (es : Es)
  | bi (b : Bi) (es : Es)
  | isi (t : Ty) (e : E)
  | me (m : Me) (a : E) (es : Es)
  | comp (own : List (Str × Nat)) (t : T) (src : Src) (cond elt : E)
  | lsrc (src : Src)
  | attr (a : E)
  | hear (a : E)
  | hearL (a : E)
  | cv (ks : List Nat) (f : E) (es : Es)
inductive Es where
  | nil
  | cons (star : Bool) (e : E) (es : Es)
inductive Src where
  | it (e : E)
  | rng1 (b : E)
  | rng2 (a b : E)
  | rng3 (a b c : E)
  | enu (e : E)
  | zip (a b : E)
end

mutual
inductive S where
  | asg (t : T) (e : E)
  | par (ts : List Nat) (es : Es)
  | set (i : Nat) (ix v : E)
  | app (i : Nat) (e : E)
  | ext (i : Nat) (e : E)
  | pop (t : T) (i : Nat) (e : E)
  | appPop (j i : Nat) (e : E)
  | ex (e : E)
  | ret (e : E)
  | retn
  | ifs (c : E) (a b : Ss)
  | for_ (t : T) (src : Src) (body : Ss)
  | whl (c : E) (body : Ss)
  | rai (c : Nat) (e : E)
  | pas
  | brk
  | cnt
inductive Ss where
  | nil
  | cons (s : S) (ss : Ss)
end

/-! ### plain operations -/
def bits (n : Nat) (i : Int) : Bool := decide (i.natAbs < 2 ^ n)
def ob {α β : Type} (r : Option α) (k : α → Option β) : Option β := match r with
  | some a => k a
  | none => none
def orO {α β γ : Type} (f g : α → β → Option γ) (x : α) (y : β) : Option γ := match f x y with
  | some z => some z
  | none => g x y
def oInt (C : Int → Int → Bool) (g : Int → Int → Int) : D → D → Option (D × Bool)
  | .py (.int i), .py (.int j) => if C i j = true then some (.py (.int (g i j)), false) else none
  | _, _ => none
def oStr : D → D → Option (D × Bool)
  | .py (.str x), .py (.str y) => if x.length + y.length ≤ sizeLine then some (.py (.str (x ++ y)), false) else none
  | _, _ => none
def oTup : D → D → Option (D × Bool)
  | .py (.tuple xs), .py (.tuple ys) => if xs.length + ys.length ≤ sizeLine then some (.py (.tuple (xs ++ ys)), false) else none
  | _, _ => none
def oLst : D → D → Option (D × Bool)
  | .py (.list xs), .py (.list ys) => if xs.length + ys.length ≤ sizeLine then some (.py (.list (xs ++ ys)), true) else none
  | _, _ => none
def oRepT : D → D → Option (D × Bool)
  | .py (.tuple xs), .py (.int k) => if decide (2 ≤ k) && decide (k ≤ 1000) && decide (xs.length ≤ 1000) && !xs.isEmpty then some (.py (.tuple (List.replicate k.toNat xs).flatten), false) else none
  | _, _ => none
def oRepL : D → D → Option (D × Bool)
  | .py (.list xs), .py (.int k) => if decide (k < 2 ^ 30) && decide (-(2 ^ 30) < k) && decide (xs.length * k.toNat ≤ sizeLine) then some (.py (.list (List.replicate k.toNat xs).flatten), true) else none
  | _, _ => none
def o2 : Op2 → D → D → Option (D × Bool)
  | .add, x, y => orO (oInt (fun _ _ => true) fun i j => i + j) (orO oStr (orO oTup oLst)) x y
  | .sub, x, y => oInt (fun _ _ => true) (fun i j => i - j) x y
  | .mul, x, y => orO (oInt (fun i j => bits 4000 i && bits 4000 j) fun i j => i * j) (orO oRepT oRepL) x y
  | .fdiv, x, y => oInt (fun _ j => decide (0 < j) && decide (j < 1073741824)) (fun i j => i / j) x y
  | .mod, x, y => oInt (fun _ j => decide (0 < j)) (fun i j => i % j) x y
  | .pow, x, y => oInt (fun i j => decide (0 ≤ j) && decide (j ≤ 1000) && bits 1000 i) (fun i j => i ^ j.toNat) x y
  | .shl, x, y => oInt (fun i j => decide (0 ≤ j) && decide (j ≤ 1000) && bits 60 i) (fun i j => i * 2 ^ j.toNat) x y
  | .shr, x, y => oInt (fun _ j => decide (0 ≤ j)) (fun i j => i / 2 ^ j.toNat) x y
  | .band, x, y => oInt (fun _ _ => true) Builtin.bitAnd x y
  | .bxor, x, y => oInt (fun _ _ => true) Builtin.bitXor x y
  | .bor, x, y => oInt (fun _ _ => true) Builtin.bitOr x y
def cInt (g : Int → Int → Bool) : D → D → Option Bool
  | .py (.int i), .py (.int j) => some (g i j)
  | _, _ => none
def eqS : D → D → Option Bool
  | .py (.str x), .py (.str y) => some (decide (x = y))
  | _, _ => none
def eqP : D → D → Option Bool
  | .py p, .py q => if SeqAt.shaped p && SeqAt.shaped q then some (PyData.eqv p q) else none
  | _, _ => none
def eqD : D → D → Option Bool := orO (cInt fun i j => i == j) (orO eqS eqP)
def notNone : PyData → Bool
  | .none => false
  | _ => true
/-- data that can be compared -/
def cData (g : PyData → PyData → Bool) : D → D → Option Bool
  | .py p, .py q => if PySem.W.alike p q && notNone p && decide (p.depth ≤ 64) then some (g p q) else none
  | _, _ => none
def inT : D → D → Option Bool
  | .py x, .py (.tuple ys) => if SeqAt.shaped x && SeqAt.shaped (.tuple ys) then some (ys.any fun y => PyData.eqv y x) else none
  | _, _ => none
def inL : D → D → Option Bool
  | .py x, .py (.list ys) => if SeqAt.shaped x && SeqAt.shaped (.list ys) then some (ys.any fun y => PyData.eqv y x) else none
  | _, _ => none
def inS : D → D → Option Bool
  | .py (.str y), .py (.str z) => some (!(Builtin.Str.occurrences z y 0 z.length 1).isEmpty)
  | _, _ => none
def isN : D → D → Option Bool
  | .py .none, .py .none => some true
  | .py _, .py .none => some false
  | .mt _, .py .none => some false
  | .ml _, .py .none => some false
  | .exc _ _, .py .none => some false
  | _, _ => none
def isB : D → D → Option Bool
  | .py (.bool a), .py (.bool b) => some (decide (a = b))
  | _, _ => none
def notO (r : Option Bool) : Option Bool := match r with
  | some b => some (!b)
  | none => none
def cm : Cm → D → D → Option Bool
  | .eq, a, b => eqD a b
  | .ne, a, b => notO (eqD a b)
  | .lt, a, b => orO (cInt fun i j => decide (i < j)) (cData fun p q => PySem.W.dataLt p q) a b
  | .gt, a, b => orO (cInt fun i j => decide (j < i)) (cData fun p q => PySem.W.dataLt q p) a b
  | .le, a, b => orO (cInt fun i j => decide (i ≤ j)) (cData fun p q => !PySem.W.dataLt q p) a b
  | .ge, a, b => orO (cInt fun i j => decide (j ≤ i)) (cData fun p q => !PySem.W.dataLt p q) a b
  | .is, a, b => orO isN isB a b
  | .isnot, a, b => notO (orO isN isB a b)
  | .inn, a, b => orO inT (orO inL inS) a b
  | .notin, a, b => notO (orO inT (orO inL inS) a b)
def tru : D → Option Bool
  | .py .none => some false
  | .py (.bool b) => some b
  | .py (.int i) => some (i != 0)
  | .py (.str x) => if x.length ≤ sizeLine then some (x.length != 0) else none
  | .py (.tuple xs) => some (!xs.isEmpty)
  | .py (.list xs) => some (!xs.isEmpty)
  | _ => none
def isi : Ty → D → Option Bool
  | .tup, .py (.tuple _) => some true
  | .tup, .mt _ => some true
  | .tup, .py _ => some false
  | .int, .py (.int _) => some true
  | .int, .py (.bool _) => some true
  | .int, .py _ => some false
  | .bool, .py (.bool _) => some true
  | .bool, .py _ => some false
  | .str, .py (.str _) => some true
  | .str, .py _ => some false
  | .lst, .py (.list _) => some true
  | .lst, .py _ => some false
  | .exc c, .exc e _ => some (e == c || c == 0)
  | .exc _, .py .none => some false
  | .verr, .exc _ _ => some true
  | _, _ => none
def allI : List PyData → Option (List Int)
  | [] => some []
  | .int i :: r => (match allI r with
    | some is => some (i :: is)
    | none => none)
  | _ :: _ => none
def allB : List PyData → Option (List Bool)
  | [] => some []
  | .bool i :: r => (match allB r with
    | some is => some (i :: is)
    | none => none)
  | _ :: _ => none
def alikeL (xs : List PyData) : Bool := xs.all fun a => notNone a && xs.all fun b => PySem.W.alike a b
def isTupP : PyData → Bool
  | .tuple _ => true
  | _ => false
def noTupP : PyData → Bool
  | .tuple _ => false
  | .none => false
  | _ => true
def sortD (xs : List PyData) : List PyData := xs.mergeSort (PySem.W.dataLe false id)
def okL (xs : List PyData) : Bool := decide (PyData.depthAll xs ≤ 60)
abbrev Bo := List D → Option (D × Bool)
def rv (d : D) : Option (D × Bool) := some (d, false)
def orB (f g : Bo) : Bo := fun xs => match f xs with
  | some z => some z
  | none => g xs
def biLen : Bo
  | [.py (.tuple xs)] => rv (.py (.int xs.length))
  | [.py (.list xs)] => rv (.py (.int xs.length))
  | [.mt xs] => rv (.py (.int xs.length))
  | [.ml xs] => rv (.py (.int xs.length))
  | [.py (.str x)] => if x.length ≤ sizeLine then rv (.py (.int x.length)) else none
  | [.scr ns] => rv (.py (.int ns.length))
  | _ => none
def biRepr : Bo
  | [.py p] => if p.showable && !p.hasDict && decide (p.depth ≤ 60) && decide (p.shown.length ≤ sizeLine) then rv (.py (.str p.shown)) else none
  | _ => none
def biStrI : Bo
  | [.py (.int i)] => if i.natAbs.log2 < 1920 then rv (.py (.str (toString i))) else none
  | _ => none
def biStrS : Bo
  | [.py (.str x)] => rv (.py (.str x))
  | _ => none
def biInt : Bo
  | [.py (.int i)] => rv (.py (.int i))
  | [.py (.bool b)] => rv (.py (.int (if b then 1 else 0)))
  | _ => none
def biTuple : Bo
  | [.py (.tuple xs)] => rv (.py (.tuple xs))
  | [.py (.list xs)] => rv (.py (.tuple xs))
  | [.ml xs] => rv (.mt xs)
  | [.mt xs] => rv (.mt xs)
  | _ => none
def biList : Bo
  | [.py (.tuple xs)] => some (.py (.list xs), true)
  | [.py (.list xs)] => some (.py (.list xs), true)
  | [.mt xs] => some (.ml xs, true)
  | [.ml xs] => some (.ml xs, true)
  | _ => none
def biBools (g : List Bool → Bool) : Bo
  | [.py (.list xs)] => ob (allB xs) fun bs => rv (.py (.bool (g bs)))
  | _ => none
def biSum : Bo
  | [.py (.list xs)] => ob (allI xs) fun is => rv (.py (.int is.sum))
  | _ => none
def biMM (g : PyData → List PyData → PyData) : Bo
  | [.py (.list (x :: xs))] => if alikeL (x :: xs) && okL (x :: xs) then rv (.py (g x xs)) else none
  | [.py (.tuple (x :: xs))] => if alikeL (x :: xs) && okL (x :: xs) then rv (.py (g x xs)) else none
  | _ => none
def biTwo (g : Int → Int → Int) : Bo
  | [.py (.int i), .py (.int j)] => rv (.py (.int (g i j)))
  | _ => none
def biSorted : Bo
  | [.py (.list xs)] => if alikeL xs && (xs.all isTupP || xs.all noTupP) && okL xs then some (.py (.list (sortD xs)), true) else none
  | _ => none
def biAbs : Bo
  | [.py (.int i)] => rv (.py (.int (if i < 0 then -i else i)))
  | _ => none
def bi : Bi → Bo
  | .len => biLen
  | .repr => biRepr
  | .str => orB biStrI biStrS
  | .int => biInt
  | .tuple => biTuple
  | .list => biList
  | .all => biBools fun bs => bs.all id
  | .any => biBools fun bs => bs.any id
  | .sum => biSum
  | .min => orB (biTwo fun i j => if j < i then j else i) (biMM PySem.W.minD)
  | .max => orB (biTwo fun i j => if j > i then j else i) (biMM PySem.W.maxD)
  | .sorted => biSorted
  | .abs => biAbs
def me : Me → D → List D → Option (D × Bool)
  | _, _, _ => none
def ixD (M : Mem) : D → D → Option D
  | .py (.tuple xs), .py (.int i) => (atI xs i).map .py
  | .py (.list xs), .py (.int i) => (atI xs i).map .py
  | .mt xs, .py (.int i) => atI xs i
  | .ml xs, .py (.int i) => atI xs i
  | .py (.str z), .py (.int i) => if z.length ≤ sizeLine then (atI z.cps.toList i).map fun c => .py (.str ⟨#[c]⟩) else none
  | .scr ns, .py (.int i) => (atI ns i).map fun n => .py (.int n)
  | .cel n, .py (.int i) => (match M[n]? with
    | some xs => (atI xs i).map .py
    | none => none)
  | _, _ => none
def cutL {α : Type} (xs : List α) (lo hi : Option Int) : List α := (xs.drop (HT.sIx xs.length 0 lo)).take (HT.sIx xs.length xs.length hi - HT.sIx xs.length 0 lo)
def part (no : Bool) : D → Option (Option Int)
  | .py .none => if no = true then some none else none
  | .py (.int i) => some (some i)
  | _ => none
def slD : D → Option Int → Option Int → Option (D × Bool)
  | .py (.tuple xs), lo, hi => some (.py (.tuple (cutL xs lo hi)), false)
  | .py (.list xs), lo, hi => some (.py (.list (cutL xs lo hi)), true)
  | .mt xs, lo, hi => some (.mt (cutL xs lo hi), false)
  | .ml xs, lo, hi => some (.ml (cutL xs lo hi), true)
  | .scr ns, lo, hi => some (.py (.list ((cutL ns lo hi).map .int)), true)
  | _, _, _ => none
def revD : D → Option (D × Bool)
  | .py (.list xs) => some (.py (.list xs.reverse), true)
  | _ => none
def attrD : D → Option D
  | .exc _ p => some (.py p)
  | _ => none
def appD : D → D → Option D
  | .py (.list ps), .py p => if ps.length < sizeLine then some (.py (.list (ps ++ [p]))) else none
  | .py (.list ps), d => if ps.length < sizeLine then some (.ml (ps.map .py ++ [d])) else none
  | .ml ds, d => if ds.length < sizeLine then some (.ml (ds ++ [d])) else none
  | _, _ => none
def extD : D → D → Option D
  | .py (.list ps), .py (.list qs) => if ps.length + qs.length ≤ sizeLine then some (.py (.list (ps ++ qs))) else none
  | .py (.list ps), .ml es => if ps.length + es.length ≤ sizeLine then some (.ml (ps.map .py ++ es)) else none
  | .ml ds, .py (.list qs) => if ds.length + qs.length ≤ sizeLine then some (.ml (ds ++ qs.map .py)) else none
  | .ml ds, .ml es => if ds.length + es.length ≤ sizeLine then some (.ml (ds ++ es)) else none
  | _, _ => none
def setD : D → Int → D → Option D
  | .py (.list ps), i, .py p => (ixN ps.length i).map fun j => .py (.list (ps.set j p))
  | _, _, _ => none
/-- a list without its last item, the item -/
def popD : D → Option (D × D)
  | .py (.list ps) => (match ps[ps.length - 1]? with
    | some p => some (.py p, .py (.list ps.dropLast))
    | none => none)
  | _ => none
def popAtD : D → Int → Option (D × D)
  | .py (.list ps), i => (match ixN ps.length i with
    | some j => (match ps[j]? with
      | some p => some (.py p, .py (.list (ps.eraseIdx j)))
      | none => none)
    | none => none)
  | _, _ => none

/-! ### what a term comes to -/
inductive Md where
  | sh | fr | bo (i : Nat)
/-- an end, or an error of the class c with the value p -/
inductive Rz (α : Type) where
  | ok (a : α)
  | er (c : Nat) (p : PyData) (M : Mem)
structure Vl where
  d : D
  m : Md
  ρ : Nv
  M : Mem
structure Ls where
  ds : List (D × Md)
  ρ : Nv
  M : Mem
structure Ov where
  d : D
  fr : Bool
  M : Mem
inductive Fl where
  | nx (ρ : Nv) (M : Mem)
  | rt (o : Ov)
  | br (ρ : Nv) (M : Mem)
  | ct (ρ : Nv) (M : Mem)
abbrev RE := Option (Rz Vl)
abbrev RL := Option (Rz Ls)
abbrev RS := Option (Rz Fl)
abbrev Out := Option (Rz Ov)
abbrev Clo := Nat → List D → Mem → Out
abbrev Fn := Clo → List D → Mem → Out
def noClo : Clo := fun _ _ _ => none
def bz {α β : Type} (r : Option (Rz α)) (k : α → Option (Rz β)) : Option (Rz β) := match r with
  | some (.ok a) => k a
  | some (.er c p M) => some (.er c p M)
  | none => none
def vl (d : D) (m : Md) (ρ : Nv) (M : Mem) : RE := some (.ok ⟨d, m, ρ, M⟩)
def gi {β : Type} (d : D) (k : Int → Option β) : Option β := match d with
  | .py (.int i) => k i
  | _ => none
def gb {β : Type} (d : D) (k : Bool → Option β) : Option β := match d with
  | .py (.bool i) => k i
  | _ => none

def unown (ρ : Nv) (i : Nat) : Nv := match ρ[i]? with
  | some (some (d, true)) => ρ.set i (some (d, false))
  | _ => ρ
def fz (m : Md) (ρ : Nv) : Nv := match m with
  | .bo i => unown ρ i
  | _ => ρ
def fzs : List (D × Md) → Nv → Nv
  | [], ρ => ρ
  | p :: ps, ρ => fzs ps (fz p.2 ρ)
def frzAll (ρ : Nv) : Nv := ρ.map fun s => s.map fun p => (p.1, false)
def mdOf (fr : Bool) : Md := if fr then .fr else .sh
def frOf (ρ : Nv) : Md → Bool
  | .sh => false
  | .fr => true
  | .bo i => (match ρ[i]? with
    | some (some (_, true)) => true
    | _ => false)

mutual
def bindT : T → D → Nv → Option Nv
  | .nm i, d, ρ => some (ρ.set i (some (d, false)))
  | .tp ts, d, ρ => ob (itemsT d) fun ds => bindTs ts ds ρ
def bindTs : List T → List D → Nv → Option Nv
  | [], [], ρ => some ρ
  | t :: ts, d :: ds, ρ => ob (bindT t d ρ) fun ρ1 => bindTs ts ds ρ1
  | _, _, _ => none
end
/-- a value is stored: a new list stands in one slot alone -/
def store (t : T) (d : D) (m : Md) (ρ : Nv) : Option Nv := match t, m with
  | .nm i, .fr => some (ρ.set i (some (d, true)))
  | t, m => bindT t d (fz m ρ)

def wipeN (ρ : Nv) : List Nat → Nv
  | [] => ρ
  | v :: vs => (wipeN ρ vs).set v none
/-- behind a comprehension its own names stand as they stood -/
def backN (ρ0 ρ : Nv) : List Nat → Nv
  | [] => ρ
  | v :: vs => (backN ρ0 ρ vs).set v (ρ0.getD v none)

def liftO (r : Option (D × Bool)) (ρ : Nv) (M : Mem) : RE := ob r fun p => vl p.1 (mdOf p.2) ρ M
def rngN (lo hi st : Int) : Nat := if st > 0 then ((hi - lo + st - 1) / st).toNat else ((lo - hi + -st - 1) / -st).toNat
def rngL (lo hi st : Int) : Option (List D) :=
  if decide (-(2 ^ 40) ≤ lo) && decide (lo < 2 ^ 40) && decide (-(2 ^ 40) ≤ hi) && decide (hi < 2 ^ 40) && decide (st ≠ 0) && decide (st.natAbs < 2 ^ 20) && decide (rngN lo hi st ≤ sizeLine) then
    some ((List.range (rngN lo hi st)).map fun (i : Nat) => .py (.int (lo + (i : Int) * st)))
  else none
def enuFrom : Nat → List D → List D
  | _, [] => []
  | n, d :: ds => mkT [.py (.int n), d] :: enuFrom (n + 1) ds
def zipL : List D → List D → List D
  | a :: as, b :: bs => mkT [a, b] :: zipL as bs
  | _, _ => []

/-- a list, or a tuple -/
def isLst : D → Bool
  | .py (.list _) => true
  | .ml _ => true
  | .scr _ => true
  | _ => false
structure Cv where
  xs : List D
  ρ : Nv
  M : Mem
/-- a comprehension's turns -/
def compL (bind : D → Nv → Option Nv) (cond : Nv → Mem → RE) (elt : Nv → Mem → RE) (own : List Nat) : List D → Nv → Mem → Option Cv
  | [], ρ, M => some ⟨[], ρ, M⟩
  | d :: ds, ρ, M => ob (bind d ρ) fun ρ1 => (match cond ρ1 M with
    | some (.ok c) => ob (tru c.d) fun b => if b = true then (match elt c.ρ c.M with
        | some (.ok x) => ob (compL bind cond elt own ds (wipeN (fz x.m x.ρ) own) x.M) fun r => some ⟨x.d :: r.xs, r.ρ, r.M⟩
        | _ => none)
      else compL bind cond elt own ds (wipeN c.ρ own) c.M
    | _ => none)

/-- what was heard: the error and nothing, or nothing and what came back -/
def heard (ρ : Nv) : Out → RE
  | some (.ok o) => vl (mkT [.py .none, o.d]) .sh ρ o.M
  | some (.er c p M) => vl (mkT [.exc c p, .py .none]) .sh ρ M
  | none => none
def isNo : E → Bool
  | .no => true
  | _ => false
/-- a slice's part: none where it is left out -/
def prt (b : Bool) (r : RE) (ρ : Nv) (M : Mem) : RE := if b = true then vl (.py .none) .sh ρ M else r
def callV (Fs : List Fn) (k : Nat) (a : Ls) : RE := ob Fs[k]? fun f => bz (f noClo (a.ds.map (·.1)) a.M) fun o => vl o.d (mdOf o.fr) (fzs a.ds a.ρ) o.M

mutual
def evE (Fs : List Fn) (C : Nv → Clo) : E → Nv → Mem → RE
  | .no, ρ, M => vl (.py (.bool true)) .sh ρ M
  | .lit p, ρ, M => vl (.py p) .sh ρ M
  | .gli _ i, ρ, M => vl (.py (.int i)) .sh ρ M
  | .gls _ s, ρ, M => vl (.py (.str s)) .sh ρ M
  | .glf k, ρ, M => vl (.fn k) .sh ρ M
  | .var i, ρ, M => (match ρ[i]? with
    | some (some (d, true)) => vl d (.bo i) ρ M
    | some (some (d, false)) => vl d .sh ρ M
    | _ => none)
  | .tup es, ρ, M => bz (evL Fs C es ρ M) fun a => if a.ds.length ≤ sizeLine then vl (mkT (a.ds.map (·.1))) .sh (fzs a.ds a.ρ) a.M else none
  | .lst es, ρ, M => bz (evL Fs C es ρ M) fun a => if a.ds.length ≤ sizeLine then vl (mkL (a.ds.map (·.1))) .fr (fzs a.ds a.ρ) a.M else none
  | .cell es, ρ, M => bz (evL Fs C es ρ M) fun a => ob (allPy (a.ds.map (·.1))) fun ps => if ps.length ≤ sizeLine then vl (.cel a.M.length) .sh (fzs a.ds a.ρ) (a.M ++ [ps]) else none
  | .bin o a b, ρ, M => bz (evE Fs C a ρ M) fun x => bz (evE Fs C b x.ρ x.M) fun y => liftO (o2 o x.d y.d) y.ρ y.M
  | .neg a, ρ, M => bz (evE Fs C a ρ M) fun x => gi x.d fun i => vl (.py (.int (-i))) .sh x.ρ x.M
  | .not a, ρ, M => bz (evE Fs C a ρ M) fun x => ob (tru x.d) fun b => vl (.py (.bool (!b))) .sh x.ρ x.M
  | .bop k es, ρ, M => evB Fs C k es ρ M
  | .cmp a ops es, ρ, M => bz (evE Fs C a ρ M) fun x => evC Fs C ops es x.d x.ρ x.M
  | .ite c a b, ρ, M => bz (evE Fs C c ρ M) fun x => ob (tru x.d) fun t => if t = true then evE Fs C a x.ρ x.M else evE Fs C b x.ρ x.M
  | .ix a b, ρ, M => bz (evE Fs C a ρ M) fun x => bz (evE Fs C b x.ρ x.M) fun y => ob (ixD y.M x.d y.d) fun d => vl d .sh y.ρ y.M
  | .slc a lo hi, ρ, M => bz (evE Fs C a ρ M) fun x => bz (prt (isNo lo) (evE Fs C lo x.ρ x.M) x.ρ x.M) fun l => ob (part (isNo lo) l.d) fun l' => bz (prt (isNo hi) (evE Fs C hi l.ρ l.M) l.ρ l.M) fun h => ob (part (isNo hi) h.d) fun h' => liftO (slD x.d l' h') h.ρ h.M
  | .rev a, ρ, M => bz (evE Fs C a ρ M) fun x => liftO (revD x.d) x.ρ x.M
  | .call k es, ρ, M => bz (evL Fs C es ρ M) fun a => callV Fs k a
  | .bi b es, ρ, M => bz (evL Fs C es ρ M) fun a => liftO (bi b (a.ds.map (·.1))) a.ρ a.M
  | .isi t e, ρ, M => bz (evE Fs C e ρ M) fun x => ob (isi t x.d) fun b => vl (.py (.bool b)) .sh x.ρ x.M
  | .me m a es, ρ, M => bz (evE Fs C a ρ M) fun x => bz (evL Fs C es x.ρ x.M) fun a => liftO (me m x.d (a.ds.map (·.1))) a.ρ a.M
  | .comp own t src cond elt, ρ, M => bz (evSrc Fs C src ρ M) fun s => ob (items s.d) fun xs => if xs.length ≤ sizeLine then
      ob (compL (bindT t) (fun ρ M => evE Fs C cond ρ M) (fun ρ M => evE Fs C elt ρ M) (own.map (·.2)) xs (wipeN s.ρ (own.map (·.2))) s.M) fun r => vl (mkL r.xs) .fr (backN s.ρ r.ρ (own.map (·.2))) r.M
      else none
  | .lsrc src, ρ, M => bz (evSrc Fs C src ρ M) fun s => ob (items s.d) fun xs => vl (mkL xs) .fr s.ρ s.M
  | .attr a, ρ, M => bz (evE Fs C a ρ M) fun x => ob (attrD x.d) fun d => vl d .sh x.ρ x.M
  | .hear a, ρ, M => bz (evE Fs C a ρ M) fun x => (match x.d with
    | .clo k => heard (frzAll x.ρ) (C (frzAll x.ρ) k [] x.M)
    | _ => none)
  | .hearL a, ρ, M => (match evE Fs C a (frzAll ρ) M with
    | some (.ok x) => vl (mkT [.py .none, x.d]) .sh (fz x.m x.ρ) x.M
    | some (.er c p M1) => vl (mkT [.exc c p, .py .none]) .sh (frzAll ρ) M1
    | none => none)
  | .cv ks f es, ρ, M => bz (evE Fs C f ρ M) fun x => (match x.d with
    | .fn k => if ks.contains k = true then ob Fs[k]? fun _ => bz (evL Fs C es x.ρ x.M) fun a => callV Fs k a else none
    | _ => none)
def evL (Fs : List Fn) (C : Nv → Clo) : Es → Nv → Mem → RL
  | .nil, ρ, M => some (.ok ⟨[], ρ, M⟩)
  | .cons false e es, ρ, M => bz (evE Fs C e ρ M) fun x => bz (evL Fs C es x.ρ x.M) fun a => some (.ok ⟨(x.d, x.m) :: a.ds, a.ρ, a.M⟩)
  | .cons true e es, ρ, M => bz (evE Fs C e ρ M) fun x => ob (items x.d) fun xs => bz (evL Fs C es x.ρ x.M) fun a => some (.ok ⟨xs.map (fun x => (x, Md.sh)) ++ a.ds, a.ρ, a.M⟩)
/-- and, or -/
def evB (Fs : List Fn) (C : Nv → Clo) (k : Bool) : Es → Nv → Mem → RE
  | .nil, _, _ => none
  | .cons _ e es, ρ, M => (match es with
    | .nil => evE Fs C e ρ M
    | .cons s e2 es2 => bz (evE Fs C e ρ M) fun x => ob (tru x.d) fun b => if b = k then evB Fs C k (.cons s e2 es2) x.ρ x.M else vl x.d x.m x.ρ x.M)
/-- a row of comparisons behind the value x -/
def evC (Fs : List Fn) (C : Nv → Clo) : List Cm → Es → D → Nv → Mem → RE
  | os, .cons _ e es, x, ρ, M => (match os, es with
    | [o], .nil => bz (evE Fs C e ρ M) fun y => ob (cm o x y.d) fun b => vl (.py (.bool b)) .sh y.ρ y.M
    | o :: os, .cons s e2 es2 => bz (evE Fs C e ρ M) fun y => ob (cm o x y.d) fun b => if b = true then evC Fs C os (.cons s e2 es2) y.d y.ρ y.M else vl (.py (.bool false)) .sh y.ρ y.M
    | _, _ => none)
  | _, .nil, _, _, _ => none
/-- what is walked: a row of its items -/
def evSrc (Fs : List Fn) (C : Nv → Clo) : Src → Nv → Mem → RE
  | .it e, ρ, M => bz (evE Fs C e ρ M) fun x => ob (items x.d) fun _ => some (.ok x)
  | .rng1 b, ρ, M => bz (evE Fs C b ρ M) fun y => gi y.d fun j => ob (rngL 0 j 1) fun xs => vl (.ml xs) .sh y.ρ y.M
  | .rng2 a b, ρ, M => bz (evE Fs C a ρ M) fun x => gi x.d fun i => bz (evE Fs C b x.ρ x.M) fun y => gi y.d fun j => ob (rngL i j 1) fun xs => vl (.ml xs) .sh y.ρ y.M
  | .rng3 a b c, ρ, M => bz (evE Fs C a ρ M) fun x => gi x.d fun i => bz (evE Fs C b x.ρ x.M) fun y => gi y.d fun j => bz (evE Fs C c y.ρ y.M) fun z => gi z.d fun k => ob (rngL i j k) fun xs => vl (.ml xs) .sh z.ρ z.M
  | .enu e, ρ, M => bz (evE Fs C e ρ M) fun x => ob (items x.d) fun xs => vl (.ml (enuFrom 0 xs)) x.m x.ρ x.M
  | .zip a b, ρ, M => bz (evE Fs C a ρ M) fun x => bz (evE Fs C b x.ρ x.M) fun y => ob (items x.d) fun xs => ob (items y.d) fun ys => if isLst x.d != isLst y.d then none else vl (.ml (zipL xs ys)) .sh (fz y.m (fz x.m y.ρ)) y.M
end

/-- the turns of a for -/
def forL (bind : D → Nv → Option Nv) (body : Nv → Mem → RS) : List D → Nv → Mem → RS
  | [], ρ, M => some (.ok (.nx ρ M))
  | d :: ds, ρ, M => ob (bind d ρ) fun ρ1 => bz (body ρ1 M) fun f => (match f with
      | .nx ρ2 M2 => forL bind body ds ρ2 M2
      | .ct ρ2 M2 => forL bind body ds ρ2 M2
      | .br ρ2 M2 => some (.ok (.nx ρ2 M2))
      | .rt o => some (.ok (.rt o)))
/-- the turns of a while -/
def whlL (cond : Nv → Mem → RE) (body : Nv → Mem → RS) : Nat → Nv → Mem → RS
  | 0, _, _ => none
  | n + 1, ρ, M => bz (cond ρ M) fun c => ob (tru c.d) fun b => if b = true then bz (body c.ρ c.M) fun f => (match f with
        | .nx ρ2 M2 => whlL cond body n ρ2 M2
        | .ct ρ2 M2 => whlL cond body n ρ2 M2
        | .br ρ2 M2 => some (.ok (.nx ρ2 M2))
        | .rt o => some (.ok (.rt o)))
      else some (.ok (.nx c.ρ c.M))
def FUEL : Nat := 1000000
/-- the list that stands in slot i alone -/
def owned (ρ : Nv) (i : Nat) : Option D := match ρ[i]? with
  | some (some (d, true)) => some d
  | _ => none
/-- a cell, or a list that stands alone -/
def hasX (ρ : Nv) (i : Nat) : Option Unit := match ρ[i]? with
  | some (some (.cel _, false)) => some ()
  | some (some (_, true)) => some ()
  | _ => none
def nx (ρ : Nv) (M : Mem) : RS := some (.ok (.nx ρ M))
/-- x[ix] = v, x a cell or a list that stands alone -/
def putX (i : Nat) (k : Int) (d : D) (ρ : Nv) (M : Mem) : RS := match ρ[i]? with
  | some (some (.cel n, false)) => (match d with
    | .py p => ob M[n]? fun ps => ob (ixN ps.length k) fun j => nx ρ (M.set n (ps.set j p))
    | _ => none)
  | some (some (l, true)) => ob (setD l k d) fun l' => nx (ρ.set i (some (l', true))) M
  | _ => none
/-- several slots at once: all that is shared is so before -/
def setAll : List Nat → List (D × Md) → Nv → Option Nv
  | [], [], ρ => some ρ
  | i :: is, p :: ps, ρ => setAll is ps (ρ.set i (some (p.1, match p.2 with
    | .fr => true
    | _ => false)))
  | _, _, _ => none
def storeAll (is : List Nat) (ps : List (D × Md)) (ρ : Nv) : Option Nv := setAll is ps (fzs ps ρ)

mutual
def evS (Fs : List Fn) (C : Nv → Clo) : S → Nv → Mem → RS
  | .asg t e, ρ, M => bz (evE Fs C e ρ M) fun x => ob (store t x.d x.m x.ρ) fun ρ2 => nx ρ2 x.M
  | .par is es, ρ, M => bz (evL Fs C es ρ M) fun a => ob (storeAll is a.ds a.ρ) fun ρ2 => nx ρ2 a.M
  | .set i ix v, ρ, M => ob (hasX ρ i) fun _ => bz (evE Fs C v ρ M) fun x => bz (evE Fs C ix (fz x.m x.ρ) x.M) fun y => gi y.d fun k => putX i k x.d y.ρ y.M
  | .app i e, ρ, M => ob (owned ρ i) fun _ => bz (evE Fs C e ρ M) fun x => ob (owned (fz x.m x.ρ) i) fun l => ob (appD l x.d) fun l' => nx ((fz x.m x.ρ).set i (some (l', true))) x.M
  | .ext i e, ρ, M => ob (owned ρ i) fun _ => bz (evE Fs C e ρ M) fun x => ob (owned (fz x.m x.ρ) i) fun l => ob (extD l x.d) fun l' => nx ((fz x.m x.ρ).set i (some (l', true))) x.M
  | .pop t i e, ρ, M => if isNo e = true then ob (owned ρ i) fun l => ob (popD l) fun q => ob (store t q.1 .sh (ρ.set i (some (q.2, true)))) fun ρ2 => nx ρ2 M
    else ob (owned ρ i) fun _ => bz (evE Fs C e ρ M) fun y => gi y.d fun k => ob (owned y.ρ i) fun l => ob (popAtD l k) fun q => ob (store t q.1 .sh (y.ρ.set i (some (q.2, true)))) fun ρ2 => nx ρ2 y.M
  | .appPop j i e, ρ, M => bz (evE Fs C e ρ M) fun y => gi y.d fun k => ob (owned y.ρ i) fun l => ob (popAtD l k) fun q => if i = j then none else
      ob (owned y.ρ j) fun f => ob (appD f q.1) fun f' => nx ((y.ρ.set i (some (q.2, true))).set j (some (f', true))) y.M
  | .ex e, ρ, M => bz (evE Fs C e ρ M) fun x => nx x.ρ x.M
  | .ret e, ρ, M => bz (evE Fs C e ρ M) fun x => some (.ok (.rt ⟨x.d, frOf x.ρ x.m, x.M⟩))
  | .retn, _, M => some (.ok (.rt ⟨.py .none, false, M⟩))
  | .ifs c a b, ρ, M => bz (evE Fs C c ρ M) fun x => ob (tru x.d) fun t => if t = true then evSs Fs C a x.ρ x.M else evSs Fs C b x.ρ x.M
  | .for_ t src body, ρ, M => bz (evSrc Fs C src ρ M) fun s => ob (items s.d) fun xs => forL (bindT t) (fun ρ M => evSs Fs C body ρ M) xs (fz s.m s.ρ) s.M
  | .whl c body, ρ, M => whlL (fun ρ M => evE Fs C c ρ M) (fun ρ M => evSs Fs C body ρ M) FUEL ρ M
  | .rai c e, ρ, M => bz (evE Fs C e ρ M) fun x => (match x.d with
    | .py p => some (.er c p x.M)
    | _ => none)
  | .pas, ρ, M => nx ρ M
  | .brk, ρ, M => some (.ok (.br ρ M))
  | .cnt, ρ, M => some (.ok (.ct ρ M))
def evSs (Fs : List Fn) (C : Nv → Clo) : Ss → Nv → Mem → RS
  | .nil, ρ, M => nx ρ M
  | .cons s ss, ρ, M => bz (evS Fs C s ρ M) fun f => (match f with
    | .nx ρ1 M1 => evSs Fs C ss ρ1 M1
    | f => some (.ok f))
end

/-- a def: how many names, how many of them parameters, its body -/
structure Def where
  n : Nat
  ps : Nat
  body : Ss
def startN (n : Nat) (ds : List D) : Nv := ds.map (fun d => some (d, false)) ++ List.replicate (n - ds.length) none
def outOf (r : RS) : Out := bz r fun f => (match f with
  | .rt o => some (.ok o)
  | .nx _ M => some (.ok ⟨.py .none, false, M⟩)
  | _ => none)
def runF (Fs : List Fn) (d : Def) : Fn := fun C ds M => if ds.length = d.ps then outOf (evSs Fs (fun _ => C) d.body (startN d.n ds) M) else none
def tabF : List Def → List Fn → List Fn
  | [], Fs => Fs
  | d :: ds, Fs => tabF ds (Fs ++ [runF Fs d])
end Ev

/-! How values stand in the abstract heap; states that agree; what is left behind. -/
namespace Ev
open L2 PyProof.Rows PySem PySem.Spec

structure Zt where
  K : PySem.W.Frag
  fa : Nat → Addr
  ca : Nat → Addr
  T : List (Addr × Str) := []
  H0 : Hp := fun _ => none

/-- a caught error's object -/
def ExV (cls : Value) (d a : Addr) : HO := .ext fun h => ∃ oe vs, h.get? a = some oe ∧ Zc cls (some d) oe ∧ oe.data = .fields vs
abbrev valK : Str := "value"

section
variable (F : Addr → Prop) (H : Hp)
mutual
inductive RepP : V → PyData → Prop where
  | non : RepP .non .none
  | bl (b : Bool) : RepP (.bl b) (.bool b)
  | int (i : Int) : RepP (.int i) (.int i)
  | str (x : Str) : RepP (.str x) (.str x)
  | lst {a : Addr} {vs : List V} {ps : List PyData} : F a → H a = some (.lst vs) → RepPs vs ps → RepP (.ref a) (.list ps)
  | tup {a : Addr} {vs : List V} {ps : List PyData} : H a = some (.tup vs) → RepPs vs ps → RepP (.ref a) (.tuple ps)
inductive RepPs : List V → List PyData → Prop where
  | nil : RepPs [] []
  | cons {v : V} {vs : List V} {p : PyData} {ps : List PyData} : RepP v p → RepPs vs ps → RepPs (v :: vs) (p :: ps)
end
end
section
variable (Z : Zt) (F : Addr → Prop) (φ : List Addr) (H : Hp)
mutual
inductive Rep : V → D → Prop where
  | py {v : V} {p : PyData} : RepP F H v p → Rep v (.py p)
  | mt {a : Addr} {vs : List V} {ds : List D} : H a = some (.tup vs) → Reps vs ds → Rep (.ref a) (.mt ds)
  | ml {a : Addr} {vs : List V} {ds : List D} : F a → H a = some (.lst vs) → Reps vs ds → Rep (.ref a) (.ml ds)
  | fn (k : Nat) : Rep (.ref (Z.fa k)) (.fn k)
  | exc {a d : Addr} {c : Nat} {v : V} {p : PyData} : F a → F d → H a = some (ExV (.ref (Z.ca c)) d a) → H d = some (.xd [(valK, v)]) → RepP F H v p → Rep (.ref a) (.exc c p)
  | cel {n : Nat} {a : Addr} : φ[n]? = some a → Rep (.ref a) (.cel n)
  | scr {a : Addr} {ns : List Int} : ((∃ o, H a = some (.frz o (.lst (ns.map V.int)))) ∨ (F a ∧ H a = some (.lst (ns.map V.int))) ∨ SqL Z.K (fun _ => none) a (ns.map V.int)) → Rep (.ref a) (.scr ns)
inductive Reps : List V → List D → Prop where
  | nil : Reps [] []
  | cons {v : V} {vs : List V} {d : D} {ds : List D} : Rep v d → Reps vs ds → Reps (v :: vs) (d :: ds)
end
end

abbrev Sx := L2.St
/-- what values lean on stays -/
structure Stay (F : Addr → Prop) (φ : List Addr) (H : Hp) (F' : Addr → Prop) (φ' : List Addr) (H' : Hp) : Prop where
  mono : ∀ b, F b → F' b
  frz : ∀ b o, F b → H b = some o → (∀ ps, o ≠ .tbl ps) → H' b = some o
  tup : ∀ b xs, H b = some (.tup xs) → H' b = some (.tup xs)
  fro : ∀ b o u, H b = some (.frz o u) → H' b = some (.frz o u)
  cel : ∃ ψ, φ' = φ ++ ψ

section
variable {K : PySem.W.Frag} {Z : Zt} {F F' : Addr → Prop} {φ φ' : List Addr} {H H' : Hp}
mutual
theorem RepP.stay (s : Stay F φ H F' φ' H') : ∀ {v : V} {p : PyData}, RepP F H v p → RepP F' H' v p
  | _, _, .non => .non
  | _, _, .bl b => .bl b
  | _, _, .int i => .int i
  | _, _, .str x => .str x
  | _, _, .lst h1 h2 h3 => .lst (s.mono _ h1) (s.frz _ _ h1 h2 fun _ z => nomatch z) (RepPs.stay s h3)
  | _, _, .tup h1 h2 => .tup (s.tup _ _ h1) (RepPs.stay s h2)
theorem RepPs.stay (s : Stay F φ H F' φ' H') : ∀ {vs : List V} {ps : List PyData}, RepPs F H vs ps → RepPs F' H' vs ps
  | _, _, .nil => .nil
  | _, _, .cons h1 h2 => .cons (RepP.stay s h1) (RepPs.stay s h2)
end
mutual
theorem Rep.stay (s : Stay F φ H F' φ' H') : ∀ {v : V} {d : D}, Rep Z F φ H v d → Rep Z F' φ' H' v d
  | _, _, .py h => .py (h.stay s)
  | _, _, .mt h1 h2 => .mt (s.tup _ _ h1) (Reps.stay s h2)
  | _, _, .ml h1 h2 h3 => .ml (s.mono _ h1) (s.frz _ _ h1 h2 fun _ z => nomatch z) (Reps.stay s h3)
  | _, _, .fn k => .fn k
  | _, _, .exc h1 h2 h3 h4 h5 => .exc (s.mono _ h1) (s.mono _ h2) (s.frz _ _ h1 h3 fun _ z => by unfold ExV at z; cases z) (s.frz _ _ h2 h4 fun _ z => nomatch z) (h5.stay s)
  | _, _, .cel (n := n) (a := a) h => .cel (by
      obtain ⟨ψ, e⟩ := s.cel
      rw [e]
      exact (List.getElem?_append_left (List.getElem?_eq_some_iff.mp h).1).trans h)
  | _, _, .scr h => .scr (by
      rcases h with ⟨o, h⟩ | ⟨h1, h⟩ | h
      · exact .inl ⟨o, s.fro _ _ _ h⟩
      · exact .inr (.inl ⟨s.mono _ h1, s.frz _ _ h1 h fun _ z => nomatch z⟩)
      · exact .inr (.inr h))
theorem Reps.stay (s : Stay F φ H F' φ' H') : ∀ {vs : List V} {ds : List D}, Reps Z F φ H vs ds → Reps Z F' φ' H' vs ds
  | _, _, .nil => .nil
  | _, _, .cons h1 h2 => .cons (Rep.stay s h1) (Reps.stay s h2)
end
end

section
variable (Z : Zt) (F : Addr → Prop) (φ : List Addr) (H : Hp)
/-- a list that stands alone at a -/
def OwnR (a : Addr) : D → Prop
  | .py (.list ps) => ∃ vs, H a = some (.lst vs) ∧ RepPs F H vs ps
  | .ml ds => ∃ vs, H a = some (.lst vs) ∧ Reps Z F φ H vs ds
  | _ => False
end
/-- the addresses of the lists that slots own -/
def Own (ρ : Nv) (σ : Sx) (b : Addr) : Prop := ∃ (i : Nat) (d : D), ρ[i]? = some (some (d, true)) ∧ σ[i]? = some (some (.ref b))

/-- the memory's cells -/
structure GSim (Z : Zt) (M : Mem) (F : Addr → Prop) (φ : List Addr) (H : Hp) : Prop where
  dom : ∀ b, F b → H b ≠ none ∧ b ∉ φ
  len : φ.length = M.length
  cell : ∀ (n : Nat) (ps : List PyData), M[n]? = some ps → ∃ a vs, φ[n]? = some a ∧ H a = some (.lst vs) ∧ RepPs F H vs ps
  nd : φ.Nodup
  tab : LamX.Tabs Z.T H
/-- the slots -/
structure LSim (Z : Zt) (ρ : Nv) (F : Addr → Prop) (φ : List Addr) (σ : Sx) (H : Hp) : Prop where
  len : ρ.length = σ.length
  sh : ∀ (i : Nat) (d : D), ρ[i]? = some (some (d, false)) → ∃ v, σ[i]? = some (some v) ∧ Rep Z F φ H v d
  ow : ∀ (i : Nat) (d : D), ρ[i]? = some (some (d, true)) → ∃ a, σ[i]? = some (some (.ref a)) ∧ OwnR Z F φ H a d ∧ ¬ F a ∧ a ∉ φ ∧ Z.H0 a = none
  ent : ∀ b, H b = none → Z.H0 b = none
  inj : ∀ (i j : Nat) (d e : D) (a : Addr), ρ[i]? = some (some (d, true)) → ρ[j]? = some (some (e, true)) → σ[i]? = some (some (.ref a)) → σ[j]? = some (some (.ref a)) → i = j
structure Sim (Z : Zt) (ρ : Nv) (M : Mem) (F : Addr → Prop) (φ : List Addr) (σ : Sx) (H : Hp) : Prop where
  g : GSim Z M F φ H
  l : LSim Z ρ F φ σ H

/-- what a stretch of code leaves: W may be changed, O may be given away -/
structure Post (O W : Addr → Prop) (F : Addr → Prop) (φ : List Addr) (H : Hp) (F' : Addr → Prop) (φ' : List Addr) (H' : Hp) : Prop where
  ext : ∃ ψ, φ' = φ ++ ψ ∧ ∀ b ∈ ψ, H b = none
  keep : ∀ b o, H b = some o → b ∉ φ → ¬ W b → (∀ ps, o ≠ .tbl ps) → H' b = some o
  mono : ∀ b, F b → F' b
  new : ∀ b, F' b → F b ∨ H b = none ∨ O b
  dom : ∀ b, H' b = none → H b = none
/-- a slot's list may have been given away -/
def Fz (ρ ρ' : Nv) : Prop := ρ'.length = ρ.length ∧ ∀ i : Nat, (ρ[i]? = some none → ρ'[i]? = some none) ∧ ∀ (d : D) (fl : Bool), ρ[i]? = some (some (d, fl)) → ∃ fl' : Bool, ρ'[i]? = some (some (d, fl')) ∧ (fl' = true → fl = true)
theorem Fz.refl (ρ : Nv) : Fz ρ ρ := ⟨rfl, fun i => ⟨fun h => h, fun d fl h => ⟨fl, h, fun h => h⟩⟩⟩
theorem Fz.trans {a b c : Nv} (x : Fz a b) (y : Fz b c) : Fz a c := ⟨y.1.trans x.1, fun i => ⟨fun h => (y.2 i).1 ((x.2 i).1 h), fun d fl h => by
  obtain ⟨f1, h1, g1⟩ := (x.2 i).2 d fl h
  obtain ⟨f2, h2, g2⟩ := (y.2 i).2 d f1 h1
  exact ⟨f2, h2, fun z => g1 (g2 z)⟩⟩⟩
theorem Fz.own {ρ ρ' : Nv} {σ : Sx} (x : Fz ρ ρ') (hl : ρ.length = σ.length) {b : Addr} (h : Own ρ' σ b) : Own ρ σ b := by
  obtain ⟨i, d, h1, h2⟩ := h
  have hi : i < ρ.length := by rw [← x.1]; exact (List.getElem?_eq_some_iff.mp h1).1
  cases e : ρ[i]? with
  | none => rw [List.getElem?_eq_none_iff] at e; omega
  | some s =>
    cases s with
    | none => rw [(x.2 i).1 e] at h1; cases h1
    | some p =>
      obtain ⟨d', fl⟩ := p
      obtain ⟨fl', h3, g⟩ := (x.2 i).2 d' fl e
      rw [h3] at h1
      cases h1
      have z := g rfl
      subst z
      exact ⟨i, d, e, h2⟩

section
variable {Z : Zt} {ρ ρ' ρ1 : Nv} {M M' M1 : Mem} {F F' F1 F2 : Addr → Prop} {φ φ' φ1 φ2 : List Addr} {σ : Sx} {H H' H1 H2 : Hp} {O W : Addr → Prop}
theorem Post.refl : Post O W F φ H F φ H := ⟨⟨[], by simp, by simp⟩, fun _ _ h _ _ _ => h, fun _ h => h, fun _ h => .inl h, fun _ h => h⟩
theorem Post.trans {O' W' : Addr → Prop} (x : Post O W F φ H F1 φ1 H1) (y : Post O' W' F1 φ1 H1 F2 φ2 H2) (ho : ∀ b, O' b → O b ∨ H b = none) (hw : ∀ b, W' b → W b ∨ H b = none) : Post O W F φ H F2 φ2 H2 where
  ext := by
    obtain ⟨ψ, e, h⟩ := x.ext
    obtain ⟨ψ', e', h'⟩ := y.ext
    refine ⟨ψ ++ ψ', by rw [e', e, List.append_assoc], fun b hb => ?_⟩
    rcases List.mem_append.mp hb with hb | hb
    · exact h b hb
    · exact x.dom b (h' b hb)
  keep := fun b o h hn hw' nt => by
    refine y.keep b o (x.keep b o h hn hw' nt) (fun z => ?_) (fun z => ?_) nt
    · obtain ⟨ψ, e, h'⟩ := x.ext
      rw [e] at z
      rcases List.mem_append.mp z with z | z
      · exact hn z
      · rw [h' b z] at h; cases h
    · rcases hw b z with q | q
      · exact hw' q
      · rw [q] at h; cases h
  mono := fun b h => y.mono b (x.mono b h)
  new := fun b h => by
    rcases y.new b h with h | h | h
    · exact x.new b h
    · exact .inr (.inl (x.dom b h))
    · rcases ho b h with q | q
      · exact .inr (.inr q)
      · exact .inr (.inl q)
  dom := fun b h => x.dom b (y.dom b h)
theorem Post.mono' {O' W' : Addr → Prop} (x : Post O W F φ H F1 φ1 H1) (ho : ∀ b, O b → O' b) (hw : ∀ b, W b → W' b) : Post O' W' F φ H F1 φ1 H1 :=
  ⟨x.ext, fun b o h h1 h2 h3 => x.keep b o h h1 (fun z => h2 (hw b z)) h3, x.mono, fun b h => (x.new b h).imp id (Or.imp id (ho b)), x.dom⟩

/-- the tracked things that never change -/
theorem GSim.notcell (g : GSim Z M F φ H) {b : Addr} {o : HO} (h : H b = some o) (n : ∀ xs, o ≠ .lst xs) : b ∉ φ := fun hb => by
  obtain ⟨n', hn, e⟩ := List.mem_iff_getElem.mp hb
  obtain ⟨a, vs, h1, h2, _⟩ := g.cell n' (M[n']'(by rw [← g.len]; exact hn)) (by simp)
  have : a = b := by
    rw [List.getElem?_eq_getElem hn] at h1
    rw [← e]
    exact (Option.some.inj h1).symm
  subst this
  rw [h] at h2
  exact n vs (Option.some.inj h2)
theorem OwnR.lst {a : Addr} : ∀ {d : D}, OwnR Z F φ H a d → ∃ vs, H a = some (.lst vs)
  | .py (.list _), h => let ⟨vs, e, _⟩ := h; ⟨vs, e⟩
  | .ml _, h => let ⟨vs, e, _⟩ := h; ⟨vs, e⟩
  | .py .none, h => h.elim
  | .py (.bool _), h => h.elim
  | .py (.int _), h => h.elim
  | .py (.str _), h => h.elim
  | .py (.tuple _), h => h.elim
  | .py (.dict _), h => h.elim
  | .mt _, h => h.elim
  | .fn _, h => h.elim
  | .exc _ _, h => h.elim
  | .cel _, h => h.elim
  | .clo _, h => h.elim
  | .scr _, h => h.elim
theorem LSim.own_lst (l : LSim Z ρ F φ σ H) {b : Addr} (h : Own ρ σ b) : (∃ vs, H b = some (.lst vs)) ∧ ¬ F b ∧ b ∉ φ := by
  obtain ⟨i, d, h1, h2⟩ := h
  obtain ⟨a, e, r, n1, n2, _⟩ := l.ow i d h1
  rw [h2] at e
  cases e
  exact ⟨r.lst, n1, n2⟩
/-- what a stretch leaves stays for values, where it changes lists alone that are not given away -/
theorem Post.stay (x : Post O W F φ H F' φ' H') (g : GSim Z M F φ H) (hw : ∀ b, W b → (∃ vs, H b = some (.lst vs)) ∧ ¬ F b) : Stay F φ H F' φ' H' where
  mono := x.mono
  frz := fun b o hf h nt => x.keep b o h (g.dom b hf).2 (fun z => (hw b z).2 hf) nt
  tup := fun b xs h => x.keep b _ h (g.notcell h fun _ z => nomatch z) (fun z => by
    obtain ⟨⟨vs, e⟩, _⟩ := hw b z
    rw [h] at e; cases e) fun _ z => nomatch z
  fro := fun b o u h => x.keep b _ h (g.notcell h fun _ z => nomatch z) (fun z => by
    obtain ⟨⟨vs, e⟩, _⟩ := hw b z
    rw [h] at e; cases e) fun _ z => nomatch z
  cel := let ⟨ψ, e, _⟩ := x.ext; ⟨ψ, e⟩
theorem Post.stayE {O : Addr → Prop} (x : Post O (fun _ => False) F φ H F' φ' H') (g : GSim Z M F φ H) : Stay F φ H F' φ' H' := x.stay g fun _ z => z.elim
theorem OwnR.stay (s : Stay F φ H F' φ' H') {a : Addr} : ∀ {d : D}, OwnR Z F φ H a d → (∀ vs, H a = some (.lst vs) → H' a = some (.lst vs)) → OwnR Z F' φ' H' a d
  | .py (.list _), h, k => let ⟨vs, e, r⟩ := h; ⟨vs, k vs e, r.stay s⟩
  | .ml _, h, k => let ⟨vs, e, r⟩ := h; ⟨vs, k vs e, r.stay s⟩
  | .py .none, h, _ => h.elim
  | .py (.bool _), h, _ => h.elim
  | .py (.int _), h, _ => h.elim
  | .py (.str _), h, _ => h.elim
  | .py (.tuple _), h, _ => h.elim
  | .py (.dict _), h, _ => h.elim
  | .mt _, h, _ => h.elim
  | .fn _, h, _ => h.elim
  | .exc _ _, h, _ => h.elim
  | .cel _, h, _ => h.elim
  | .clo _, h, _ => h.elim
  | .scr _, h, _ => h.elim
/-- a list that stood alone is given away -/
theorem OwnR.give {a : Addr} (hf : F a) : ∀ {d : D}, OwnR Z F φ H a d → Rep Z F φ H (.ref a) d
  | .py (.list _), h => let ⟨vs, e, r⟩ := h; .py (.lst hf e r)
  | .ml _, h => let ⟨vs, e, r⟩ := h; .ml hf e r
  | .py .none, h => h.elim
  | .py (.bool _), h => h.elim
  | .py (.int _), h => h.elim
  | .py (.str _), h => h.elim
  | .py (.tuple _), h => h.elim
  | .py (.dict _), h => h.elim
  | .mt _, h => h.elim
  | .fn _, h => h.elim
  | .exc _ _, h => h.elim
  | .cel _, h => h.elim
  | .clo _, h => h.elim
  | .scr _, h => h.elim
end

/-! ### values on their way -/
/-- a value as it stands behind its term -/
def RepT (Z : Zt) (H0 : Hp) (ρ : Nv) (σ : Sx) (F : Addr → Prop) (φ : List Addr) (H : Hp) (m : Md) (v : V) (d : D) : Prop := match m with
  | .sh => Rep Z F φ H v d
  | .bo i => σ[i]? = some (some v) ∧ ∃ fl : Bool, ρ[i]? = some (some (d, fl))
  | .fr => ∃ a, v = .ref a ∧ OwnR Z F φ H a d ∧ ¬ F a ∧ a ∉ φ ∧ ¬ Own ρ σ a ∧ H0 a = none
/-- a value that is read -/
def RepR (Z : Zt) (F : Addr → Prop) (φ : List Addr) (H : Hp) (v : V) (d : D) : Prop := Rep Z F φ H v d ∨ ∃ a, v = .ref a ∧ OwnR Z F φ H a d
section
variable {Z : Zt} {ρ ρ' ρ1 : Nv} {M M' M1 : Mem} {F F' F1 F2 : Addr → Prop} {φ φ' φ1 φ2 : List Addr} {σ : Sx} {H H' H1 H2 : Hp}
theorem RepT.r {H0 : Hp} {m : Md} {v : V} {d : D} (l : LSim Z ρ F φ σ H) (h : RepT Z H0 ρ σ F φ H m v d) : RepR Z F φ H v d := by
  cases m with
  | sh => exact .inl h
  | fr => obtain ⟨a, e, r, _⟩ := h; exact .inr ⟨a, e, r⟩
  | bo i =>
    obtain ⟨h1, fl, h2⟩ := h
    cases fl with
    | true =>
      obtain ⟨a, e, r, _⟩ := l.ow i d h2
      rw [h1] at e
      cases e
      exact .inr ⟨a, rfl, r⟩
    | false =>
      obtain ⟨v', e, r⟩ := l.sh i d h2
      rw [h1] at e
      cases e
      exact .inl r
/-- a value on its way stays while another term is walked -/
theorem RepT.next {O : Addr → Prop} {H0 : Hp} {m : Md} {v : V} {d : D} (h : RepT Z H0 ρ σ F φ H m v d) (x : Post O (fun _ => False) F φ H F' φ' H') (ho : ∀ b, O b → Own ρ σ b) (fz : Fz ρ ρ') (g : GSim Z M F φ H) (hl : ρ.length = σ.length) : RepT Z H0 ρ' σ F' φ' H' m v d := by
  cases m with
  | sh => exact Rep.stay (x.stayE g) h
  | bo i =>
    obtain ⟨h1, fl, h2⟩ := h
    obtain ⟨fl', h3, _⟩ := (fz.2 i).2 d fl h2
    exact ⟨h1, fl', h3⟩
  | fr =>
    obtain ⟨a, e, r, n1, n2, n3, n4⟩ := h
    obtain ⟨vs, hv⟩ := r.lst
    refine ⟨a, e, r.stay (x.stayE g) fun vs h => x.keep a _ h n2 (fun z => z) (fun _ z => nomatch z), fun z => ?_, fun z => ?_, fun z => n3 (fz.own hl z), n4⟩
    · rcases x.new a z with q | q | q
      · exact n1 q
      · rw [q] at hv; cases hv
      · exact n3 (ho a q)
    · obtain ⟨ψ, e2, hψ⟩ := x.ext
      rw [e2] at z
      rcases List.mem_append.mp z with z | z
      · exact n2 z
      · rw [hψ a z] at hv; cases hv
theorem RepT.from {H0 H1 : Hp} {m : Md} {v : V} {d : D} (h : RepT Z H1 ρ σ F φ H m v d) (k : ∀ b, H1 b = none → H0 b = none) : RepT Z H0 ρ σ F φ H m v d := by
  cases m with
  | sh => exact h
  | bo i => exact h
  | fr =>
    obtain ⟨a, e, r, n1, n2, n3, n4⟩ := h
    exact ⟨a, e, r, n1, n2, n3, k a n4⟩
/-- slots stay while a stretch gives lists away -/
theorem LSim.post (l : LSim Z ρ F φ σ H) (x : Post (fun _ => False) (fun _ => False) F φ H F' φ' H') (g : GSim Z M F φ H) : LSim Z ρ F' φ' σ H' := by
  have s := x.stayE g
  refine ⟨l.len, fun i d h => ?_, fun i d h => ?_, fun b h => l.ent b (x.dom b h), l.inj⟩
  · obtain ⟨v, e, r⟩ := l.sh i d h
    exact ⟨v, e, r.stay s⟩
  · obtain ⟨a, e, r, n1, n2, n3⟩ := l.ow i d h
    obtain ⟨vs, hv⟩ := r.lst
    refine ⟨a, e, r.stay s fun vs h => x.keep a _ h n2 (fun z => z) (fun _ z => nomatch z), fun z => ?_, fun z => ?_, n3⟩
    · rcases x.new a z with q | q | q
      · exact n1 q
      · rw [q] at hv; cases hv
      · exact q
    · obtain ⟨ψ, e2, hψ⟩ := x.ext
      rw [e2] at z
      rcases List.mem_append.mp z with z | z
      · exact n2 z
      · rw [hψ a z] at hv; cases hv
end
end Ev

/-! Readings by the evaluator; terms one behind another. -/
namespace Ev
open L2 PyProof.Rows PySem PySem.Spec

abbrev no1 : Addr → Prop := fun _ => False
theorem PE.imp {X : Cx} {e : Expr} {t t' : TE} (h : PE X e t) (i : ∀ σ H Q, t' σ H Q → t σ H Q) : PE X e t' := ⟨fun pins s σ H Q I q => h.run pins s σ H Q I (i _ _ _ q)⟩
theorem PT.imp {X : Cx} {e : Expr} {t t' : TT} (h : PT X e t) (i : ∀ σ H Q, t' σ H Q → t σ H Q) : PT X e t' := ⟨fun pins s σ H Q I q => h.run pins s σ H Q I (i _ _ _ q)⟩
theorem PW.imp {X : Cx} {e : Expr} {t t' : TT} (h : PW X e t) (i : ∀ σ H Q, t' σ H Q → t σ H Q) : PW X e t' := ⟨fun wh pins s σ H Q I q => h.run wh pins s σ H Q I (i _ _ _ q)⟩
theorem PA.imp {X : Cx} {es : List Expr} {t t' : TA} (h : PA X es t) (i : ∀ σ H Q, t' σ H Q → t σ H Q) : PA X es t' := ⟨fun pos pins s σ H Q I q => h.run pos pins s σ H Q I (i _ _ _ q)⟩
theorem PS.imp {X : Cx} {e : Stmt} {t t' : TS} (h : PS X e t) (i : ∀ D σ H, t' D σ H → t D σ H) : PS X e t' := ⟨fun pins s σ H D I q => h.run pins s σ H D I (i _ _ _ q)⟩
theorem PSs.imp {X : Cx} {e : List Stmt} {t t' : TS} (h : PSs X e t) (i : ∀ D σ H, t' D σ H → t D σ H) : PSs X e t' := ⟨fun pins s σ H D I q => h.run pins s σ H D I (i _ _ _ q)⟩

/-- where the walk stands -/
structure Pt where
  ρ : Nv
  M : Mem
  F : Addr → Prop
  φ : List Addr
  H : Hp
abbrev Pt.Sim (Z : Zt) (σ : Sx) (p : Pt) : Prop := Ev.Sim Z p.ρ p.M p.F p.φ σ p.H
/-- from p to q by a term: lists of slots may be given away, none is changed -/
structure Via (σ : Sx) (p q : Pt) : Prop where
  post : Post (Own p.ρ σ) no1 p.F p.φ p.H q.F q.φ q.H
  fz : Fz p.ρ q.ρ
/-- how an error stands -/
structure Err (Z : Zt) (c : Nat) (v : PyData) (M : Mem) (q : Pt) (da : Addr) : Prop where
  g : GSim Z M q.F q.φ q.H
  fd : q.F da
  at_ : ∃ x, q.H da = some (.xd [(valK, x)]) ∧ RepP q.F q.H x v
/-- what is wanted behind a term -/
def Done (Z : Zt) (Eo : XK) (σ : Sx) (p : Pt) (Q : VK) : Rz Vl → Prop
  | .ok r => ∀ q v, q.ρ = r.ρ → q.M = r.M → Via σ p q → q.Sim Z σ → RepT Z p.H r.ρ σ q.F q.φ q.H r.m v r.d → Q v q.H
  | .er c v M => ∀ q da, Post (Own p.ρ σ) no1 p.F p.φ p.H q.F q.φ q.H → Err Z c v M q da → Eo (.ref (Z.ca c)) (some da) q.H
def tE (Z : Zt) (Eo : XK) (f : Nv → Mem → RE) : TE := fun σ H Q => ∃ p : Pt, p.H = H ∧ p.Sim Z σ ∧ ∃ r, f p.ρ p.M = some r ∧ Done Z Eo σ p Q r
/-- .. of a test: what is known of the value's truth -/
def DoneT (Z : Zt) (Eo : XK) (σ : Sx) (p : Pt) (Q : Bool → Hp → Prop) : Rz Vl → Prop
  | .ok r => ∃ b, tru r.d = some b ∧ ∀ q, q.ρ = r.ρ → q.M = r.M → Via σ p q → q.Sim Z σ → Q b q.H
  | .er c v M => ∀ q da, Post (Own p.ρ σ) no1 p.F p.φ p.H q.F q.φ q.H → Err Z c v M q da → Eo (.ref (Z.ca c)) (some da) q.H
def tT (Z : Zt) (Eo : XK) (f : Nv → Mem → RE) : TT := fun σ H Q => ∃ p : Pt, p.H = H ∧ p.Sim Z σ ∧ ∃ r, f p.ρ p.M = some r ∧ DoneT Z Eo σ p Q r
/-- values on their way, one behind another -/
def RepTs (Z : Zt) (H0 : Hp) (ρ : Nv) (σ : Sx) (F : Addr → Prop) (φ : List Addr) (H : Hp) : List V → List (D × Md) → Prop
  | [], [] => True
  | v :: vs, d :: ds => RepT Z H0 ρ σ F φ H d.2 v d.1 ∧ (∀ a, d.2 = .fr → v = .ref a → ∀ (j : Nat) (d' : D × Md), ds[j]? = some d' → d'.2 = .fr → vs[j]? ≠ some (V.ref a)) ∧ RepTs Z H0 ρ σ F φ H vs ds
  | _, _ => False
theorem RepTs.from {Z : Zt} {H0 H1 : Hp} {ρ : Nv} {σ : Sx} {F : Addr → Prop} {φ : List Addr} {H : Hp} (k : ∀ b, H1 b = none → H0 b = none) : ∀ {vs : List V} {ds : List (D × Md)}, RepTs Z H1 ρ σ F φ H vs ds → RepTs Z H0 ρ σ F φ H vs ds
  | [], [], _ => trivial
  | _ :: _, _ :: _, h => ⟨h.1.from k, h.2.1, RepTs.from k h.2.2⟩
  | [], _ :: _, h => h.elim
  | _ :: _, [], h => h.elim
def DoneL (Z : Zt) (Eo : XK) (σ : Sx) (p : Pt) (Q : List V → Hp → Prop) : Rz Ls → Prop
  | .ok r => ∀ q vs, q.ρ = r.ρ → q.M = r.M → Via σ p q → q.Sim Z σ → RepTs Z p.H r.ρ σ q.F q.φ q.H vs r.ds → Q vs q.H
  | .er c v M => ∀ q da, Post (Own p.ρ σ) no1 p.F p.φ p.H q.F q.φ q.H → Err Z c v M q da → Eo (.ref (Z.ca c)) (some da) q.H
def tL (Z : Zt) (Eo : XK) (f : Nv → Mem → RL) : TA := fun σ H Q => ∃ p : Pt, p.H = H ∧ p.Sim Z σ ∧ ∃ r, f p.ρ p.M = some r ∧ DoneL Z Eo σ p Q r

section
variable {Z : Zt} {Eo : XK} {σ : Sx} {p q r : Pt} {Q : VK}
theorem Via.refl : Via σ p p := ⟨Post.refl, Fz.refl _⟩
theorem Via.trans (sp : p.Sim Z σ) (x : Via σ p q) (y : Via σ q r) : Via σ p r :=
  ⟨x.post.trans y.post (fun b h => .inl (x.fz.own sp.l.len h)) (fun _ h => h.elim), x.fz.trans y.fz⟩
theorem Via.posts {F : Addr → Prop} {φ : List Addr} {H : Hp} (sp : p.Sim Z σ) (x : Via σ p q) (y : Post (Own q.ρ σ) no1 q.F q.φ q.H F φ H) : Post (Own p.ρ σ) no1 p.F p.φ p.H F φ H :=
  x.post.trans y (fun b h => .inl (x.fz.own sp.l.len h)) (fun _ h => h.elim)
theorem Done.rebase {z : Rz Vl} (sp : p.Sim Z σ) (x : Via σ p q) (d : Done Z Eo σ p Q z) : Done Z Eo σ q Q z := by
  cases z with
  | ok r => exact fun s v e1 e2 y sy rep => d s v e1 e2 (x.trans sp y) sy (rep.from x.post.dom)
  | er c v M => exact fun s da y e => d s da (x.posts sp y) e
theorem DoneT.rebase {z : Rz Vl} {Q : Bool → Hp → Prop} (sp : p.Sim Z σ) (x : Via σ p q) (d : DoneT Z Eo σ p Q z) : DoneT Z Eo σ q Q z := by
  cases z with
  | ok r =>
    obtain ⟨b, e, d⟩ := d
    exact ⟨b, e, fun s e1 e2 y sy => d s e1 e2 (x.trans sp y) sy⟩
  | er c v M => exact fun s da y e => d s da (x.posts sp y) e
theorem DoneL.rebase {z : Rz Ls} {Q : List V → Hp → Prop} (sp : p.Sim Z σ) (x : Via σ p q) (d : DoneL Z Eo σ p Q z) : DoneL Z Eo σ q Q z := by
  cases z with
  | ok r => exact fun s v e1 e2 y sy rep => d s v e1 e2 (x.trans sp y) sy (RepTs.from x.post.dom rep)
  | er c v M => exact fun s da y e => d s da (x.posts sp y) e
/-- one term, then the rest -/
theorem seqE {f : Nv → Mem → RE} {k : Vl → RE} {z : Rz Vl} {Q1 : VK} (sp : p.Sim Z σ) (h : bz (f p.ρ p.M) k = some z) (d : Done Z Eo σ p Q z)
    (hk : ∀ (d : D) (m : Md) (q : Pt) (v : V), k ⟨d, m, q.ρ, q.M⟩ = some z → Via σ p q → q.Sim Z σ → RepT Z p.H q.ρ σ q.F q.φ q.H m v d → Done Z Eo σ q Q z → Q1 v q.H) : tE Z Eo f σ p.H Q1 := by
  cases e : f p.ρ p.M with
  | none => rw [e] at h; cases h
  | some y =>
    rw [e] at h
    refine ⟨p, rfl, sp, y, e, ?_⟩
    cases y with
    | ok x =>
      obtain ⟨x1, x2, x3, x4⟩ := x
      exact fun q v e1 e2 y sy rep => by
        cases e1
        cases e2
        exact hk _ _ q v h y sy rep (d.rebase sp y)
    | er c v M =>
      have hz : z = .er c v M := (Option.some.inj h).symm
      subst hz
      exact d
theorem seqET {f : Nv → Mem → RE} {k : Vl → RE} {z : Rz Vl} {Q1 : VK} {Q : Bool → Hp → Prop} (sp : p.Sim Z σ) (h : bz (f p.ρ p.M) k = some z) (d : DoneT Z Eo σ p Q z)
    (hk : ∀ (d : D) (m : Md) (q : Pt) (v : V), k ⟨d, m, q.ρ, q.M⟩ = some z → Via σ p q → q.Sim Z σ → RepT Z p.H q.ρ σ q.F q.φ q.H m v d → DoneT Z Eo σ q Q z → Q1 v q.H) : tE Z Eo f σ p.H Q1 := by
  cases e : f p.ρ p.M with
  | none => rw [e] at h; cases h
  | some y =>
    rw [e] at h
    refine ⟨p, rfl, sp, y, e, ?_⟩
    cases y with
    | ok x =>
      obtain ⟨x1, x2, x3, x4⟩ := x
      exact fun q v e1 e2 y sy rep => by
        cases e1
        cases e2
        exact hk _ _ q v h y sy rep (d.rebase sp y)
    | er c v M =>
      have hz : z = .er c v M := (Option.some.inj h).symm
      subst hz
      exact d
theorem seqL {f : Nv → Mem → RL} {k : Ls → RE} {z : Rz Vl} {Q1 : List V → Hp → Prop} (sp : p.Sim Z σ) (h : bz (f p.ρ p.M) k = some z) (d : Done Z Eo σ p Q z)
    (hk : ∀ (ds : List (D × Md)) (q : Pt) (vs : List V), k ⟨ds, q.ρ, q.M⟩ = some z → Via σ p q → q.Sim Z σ → RepTs Z p.H q.ρ σ q.F q.φ q.H vs ds → Done Z Eo σ q Q z → Q1 vs q.H) : tL Z Eo f σ p.H Q1 := by
  cases e : f p.ρ p.M with
  | none => rw [e] at h; cases h
  | some y =>
    rw [e] at h
    refine ⟨p, rfl, sp, y, e, ?_⟩
    cases y with
    | ok x =>
      obtain ⟨x1, x2, x3⟩ := x
      exact fun q v e1 e2 y sy rep => by
        cases e1
        cases e2
        exact hk _ q v h y sy rep (d.rebase sp y)
    | er c v M =>
      have hz : z = .er c v M := (Option.some.inj h).symm
      subst hz
      exact d
theorem RepT.via {H0 : Hp} {m : Md} {v : V} {d : D} (sp : p.Sim Z σ) (h : RepT Z H0 p.ρ σ p.F p.φ p.H m v d) (x : Via σ p q) : RepT Z H0 q.ρ σ q.F q.φ q.H m v d :=
  h.next x.post (fun _ h => h) x.fz sp.g sp.l.len
theorem RepTs.rd {H0 : Hp} : ∀ {vs : List V} {ds : List (D × Md)}, p.Sim Z σ → RepTs Z H0 p.ρ σ p.F p.φ p.H vs ds → Paired (RepR Z p.F p.φ p.H) vs (ds.map (·.1))
  | [], [], _, _ => .nil
  | v :: vs, d :: ds, sp, h => .cons (h.1.r sp.l) (RepTs.rd sp h.2.2)
  | [], _ :: _, _, h => h.elim
  | _ :: _, [], _, h => h.elim
end
theorem bz_some {α β : Type} {r : Option (Rz α)} {k : α → Option (Rz β)} {z : Rz β} (h : bz r k = some z) : (∃ a, r = some (.ok a) ∧ k a = some z) ∨ ∃ c v M, r = some (.er c v M) ∧ z = .er c v M := by
  cases r with
  | none => cases h
  | some y =>
    cases y with
    | ok a => exact .inl ⟨a, rfl, h⟩
    | er c v M => exact .inr ⟨c, v, M, rfl, (Option.some.inj h).symm⟩
theorem ob_some {α β : Type} {r : Option α} {k : α → Option β} {z : β} (h : ob r k = some z) : ∃ a, r = some a ∧ k a = some z := by
  cases r with
  | none => cases h
  | some a => exact ⟨a, rfl, h⟩

/-! ### new objects -/
section
variable {Z : Zt} {ρ : Nv} {M : Mem} {F : Addr → Prop} {φ : List Addr} {σ : Sx} {H : Hp} {a : Addr} {o : HO}
theorem GSim.free (g : GSim Z M F φ H) (h : H a = none) : ¬ F a ∧ a ∉ φ := ⟨fun z => (g.dom a z).1 h, fun z => by
  obtain ⟨n, hn, e⟩ := List.mem_iff_getElem.mp z
  obtain ⟨b, vs, h1, h2, _⟩ := g.cell n (M[n]'(by rw [← g.len]; exact hn)) (by simp)
  rw [List.getElem?_eq_getElem hn, e] at h1
  cases h1
  rw [h] at h2
  cases h2⟩
theorem LSim.free (l : LSim Z ρ F φ σ H) (h : H a = none) : ¬ Own ρ σ a := fun z => by
  obtain ⟨⟨vs, e⟩, _⟩ := l.own_lst z
  rw [h] at e
  cases e
theorem post_new (O : Addr → Prop) (h : H a = none) : Post O no1 F φ H F φ (upd H a o) :=
  ⟨⟨[], by simp, by simp⟩, fun b x e _ _ _ => by rw [upd_ne (ne_of_none e h)]; exact e, fun _ h => h, fun _ h => .inl h, fun b e => by
    by_cases hb : b = a
    · rw [hb, upd_same] at e; cases e
    · rw [upd_ne hb] at e; exact e⟩
theorem GSim.next {F' : Addr → Prop} {φ' : List Addr} {H' : Hp} (g : GSim Z M F φ H) (s : Stay F φ H F' φ' H') (e : φ' = φ) (hc : ∀ b ∈ φ, H' b = H b) (hd : ∀ b, F' b → H' b ≠ none ∧ b ∉ φ) (ht : LamX.Tabs Z.T H') : GSim Z M F' φ' H' := by
  subst e
  refine ⟨hd, g.len, fun n ps h => ?_, g.nd, ht⟩
  obtain ⟨a, vs, h1, h2, h3⟩ := g.cell n ps h
  exact ⟨a, vs, h1, by rw [hc a (List.mem_of_getElem? h1)]; exact h2, h3.stay s⟩
theorem Sim.new (s : Sim Z ρ M F φ σ H) (h : H a = none) : Sim Z ρ M F φ σ (upd H a o) := by
  have x : Post no1 no1 F φ H F φ (upd H a o) := post_new no1 h
  have f := s.g.free h
  refine ⟨s.g.next (x.stayE s.g) rfl (fun b hb => upd_ne fun z => f.2 (z ▸ hb)) (fun b hb => ?_) (s.g.tab.ext fun b o e => by rw [upd_ne (ne_of_none e h)]; exact e), s.l.post x s.g⟩
  obtain ⟨h1, h2⟩ := s.g.dom b hb
  refine ⟨fun z => h1 (x.dom b z), h2⟩
/-- a term's value: it stood, or it is a new object -/
inductive New (Z : Zt) (F : Addr → Prop) (φ : List Addr) (H : Hp) : D → Bool → V → Hp → Prop where
  | same {v : V} {d : D} : Rep Z F φ H v d → New Z F φ H d false v H
  | tup {a : Addr} {vs : List V} {d : D} : H a = none → Rep Z F φ (upd H a (.tup vs)) (.ref a) d → New Z F φ H d false (.ref a) (upd H a (.tup vs))
  | lst {a : Addr} {vs : List V} {d : D} : H a = none → OwnR Z F φ (upd H a (.lst vs)) a d → New Z F φ H d true (.ref a) (upd H a (.lst vs))
end
theorem New.done {Z : Zt} {Eo : XK} {σ : Sx} {p : Pt} {Q : VK} {d : D} {fr : Bool} {v : V} {H' : Hp} (n : New Z p.F p.φ p.H d fr v H') (sp : p.Sim Z σ) (h : Done Z Eo σ p Q (.ok ⟨d, mdOf fr, p.ρ, p.M⟩)) : Q v H' := by
  cases n with
  | same r => exact h p v rfl rfl Via.refl sp r
  | tup e r =>
    exact h ⟨p.ρ, p.M, p.F, p.φ, _⟩ _ rfl rfl ⟨post_new _ e, Fz.refl _⟩ (Sim.new sp e) r
  | lst e r =>
    obtain ⟨f1, f2⟩ := GSim.free sp.g e
    exact h ⟨p.ρ, p.M, p.F, p.φ, _⟩ _ rfl rfl ⟨post_new _ e, Fz.refl _⟩ (Sim.new sp e) ⟨_, rfl, r, f1, f2, LSim.free sp.l e, e⟩
/-- an operation of two values keeps its word -/
def OpS (Z : Zt) (r : R2) (g : D → D → Option (D × Bool)) : Prop := ∀ (F : Addr → Prop) (φ : List Addr) (H : Hp) (v w : V) (x y : D) (z : D × Bool) (Q : VK),
  RepR Z F φ H v x → RepR Z F φ H w y → g x y = some z → (∀ u H', New Z F φ H z.1 z.2 u H' → Q u H') → r v w H Q
theorem liftO_some {r : Option (D × Bool)} {ρ : Nv} {M : Mem} {z : Rz Vl} (h : liftO r ρ M = some z) : ∃ t, r = some t ∧ z = .ok ⟨t.1, mdOf t.2, ρ, M⟩ := by
  obtain ⟨t, e, h2⟩ := ob_some h
  exact ⟨t, e, (Option.some.inj h2).symm⟩
theorem s_bin {X : Cx} {Z : Zt} {Eo : XK} {a b : Expr} {op : Operator} {pos : Pos} {fa fb : Nv → Mem → RE} {r : R2} {g : D → D → Option (D × Bool)} (ho : OpR X (binaryOp op) r) (hs : OpS Z r g) (ha : PE X a (tE Z Eo fa)) (hb : PE X b (tE Z Eo fb)) :
    PE X (.BinOp a op b pos) (tE Z Eo fun ρ M => bz (fa ρ M) fun x => bz (fb x.ρ x.M) fun y => liftO (g x.d y.d) y.ρ y.M) := by
  refine PE.imp (pe_op ho ha hb) fun σ H Q h => ?_
  obtain ⟨p, rfl, sp, z, hz, d⟩ := h
  refine seqE sp hz d fun x m q v h1 via sq rx d1 => ?_
  refine seqE sq h1 d1 fun y m2 t w h2 via2 st ry d2 => ?_
  obtain ⟨n, hn, rfl⟩ := liftO_some h2
  exact hs t.F t.φ t.H v w x y n Q ((RepT.via sq rx via2).r st.l) (ry.r st.l) hn fun u H' nw => New.done nw st d2
end Ev

/-! What a value's form tells; operations keep their word. -/
namespace Ev
open L2 PyProof.Rows PySem PySem.Spec

section
variable {Z : Zt} {F : Addr → Prop} {φ : List Addr} {H : Hp} {v : V}
theorem RepPs.len : ∀ {vs : List V} {ps : List PyData}, RepPs F H vs ps → vs.length = ps.length
  | _, _, .nil => rfl
  | _, _, .cons _ t => congrArg (· + 1) t.len
theorem Reps.len : ∀ {vs : List V} {ds : List D}, Reps Z F φ H vs ds → vs.length = ds.length
  | _, _, .nil => rfl
  | _, _, .cons _ t => congrArg (· + 1) t.len
theorem RepPs.reps : ∀ {vs : List V} {ps : List PyData}, RepPs F H vs ps → Reps Z F φ H vs (ps.map .py)
  | _, _, .nil => .nil
  | _, _, .cons h t => .cons (.py h) t.reps
theorem RepPs.get : ∀ {vs : List V} {ps : List PyData} {i : Nat} {p : PyData}, RepPs F H vs ps → ps[i]? = some p → ∃ v, vs[i]? = some v ∧ RepP F H v p
  | _, _, _, _, .nil, e => by simp at e
  | _, _, 0, _, .cons h _, e => by
    simp at e
    subst e
    exact ⟨_, rfl, h⟩
  | _, _, i + 1, _, .cons _ t, e => by
    obtain ⟨v, e1, r⟩ := RepPs.get (i := i) t (by simpa using e)
    exact ⟨v, by simpa using e1, r⟩
theorem Reps.get : ∀ {vs : List V} {ds : List D} {i : Nat} {d : D}, Reps Z F φ H vs ds → ds[i]? = some d → ∃ v, vs[i]? = some v ∧ Rep Z F φ H v d
  | _, _, _, _, .nil, e => by simp at e
  | _, _, 0, _, .cons h _, e => by
    simp at e
    subst e
    exact ⟨_, rfl, h⟩
  | _, _, i + 1, _, .cons _ t, e => by
    obtain ⟨v, e1, r⟩ := Reps.get (i := i) t (by simpa using e)
    exact ⟨v, by simpa using e1, r⟩
theorem RepPs.app : ∀ {vs ws : List V} {ps qs : List PyData}, RepPs F H vs ps → RepPs F H ws qs → RepPs F H (vs ++ ws) (ps ++ qs)
  | _, _, _, _, .nil, s => s
  | _, _, _, _, .cons h t, s => .cons h (t.app s)
theorem Reps.app : ∀ {vs ws : List V} {ps qs : List D}, Reps Z F φ H vs ps → Reps Z F φ H ws qs → Reps Z F φ H (vs ++ ws) (ps ++ qs)
  | _, _, _, _, .nil, s => s
  | _, _, _, _, .cons h t, s => .cons h (t.app s)
theorem RepPs.drop : ∀ {vs : List V} {ps : List PyData} (n : Nat), RepPs F H vs ps → RepPs F H (vs.drop n) (ps.drop n)
  | _, _, 0, h => h
  | _, _, _ + 1, .nil => .nil
  | _, _, n + 1, .cons _ t => RepPs.drop n t
theorem RepPs.take : ∀ {vs : List V} {ps : List PyData} (n : Nat), RepPs F H vs ps → RepPs F H (vs.take n) (ps.take n)
  | _, _, 0, _ => .nil
  | _, _, _ + 1, .nil => .nil
  | _, _, n + 1, .cons h t => .cons h (RepPs.take n t)
theorem Reps.drop : ∀ {vs : List V} {ps : List D} (n : Nat), Reps Z F φ H vs ps → Reps Z F φ H (vs.drop n) (ps.drop n)
  | _, _, 0, h => h
  | _, _, _ + 1, .nil => .nil
  | _, _, n + 1, .cons _ t => Reps.drop n t
theorem Reps.take : ∀ {vs : List V} {ps : List D} (n : Nat), Reps Z F φ H vs ps → Reps Z F φ H (vs.take n) (ps.take n)
  | _, _, 0, _ => .nil
  | _, _, _ + 1, .nil => .nil
  | _, _, n + 1, .cons h t => .cons h (Reps.take n t)
theorem RepPs.rev {vs : List V} {ps : List PyData} (h : RepPs F H vs ps) : RepPs F H vs.reverse ps.reverse := by
  induction h using RepPs.rec (motive_1 := fun _ _ _ => True) with
  | nil => exact .nil
  | cons h t _ ih =>
    rw [List.reverse_cons, List.reverse_cons]
    exact ih.app (.cons h .nil)
  | _ => trivial
theorem RepPs.set {v : V} {p : PyData} (r : RepP F H v p) : ∀ {vs : List V} {ps : List PyData} (i : Nat), RepPs F H vs ps → RepPs F H (vs.set i v) (ps.set i p)
  | _, _, _, .nil => .nil
  | _, _, 0, .cons _ t => .cons r t
  | _, _, i + 1, .cons h t => .cons h (RepPs.set r i t)
theorem RepPs.erase : ∀ {vs : List V} {ps : List PyData} (i : Nat), RepPs F H vs ps → RepPs F H (vs.eraseIdx i) (ps.eraseIdx i)
  | _, _, _, .nil => .nil
  | _, _, 0, .cons _ t => t
  | _, _, i + 1, .cons h t => .cons h (RepPs.erase i t)
theorem RepPs.dropLast {vs : List V} {ps : List PyData} (h : RepPs F H vs ps) : RepPs F H vs.dropLast ps.dropLast := by
  rw [List.dropLast_eq_take, List.dropLast_eq_take, h.len]
  exact h.take _
theorem RepPs.rep {vs : List V} {ps : List PyData} (h : RepPs F H vs ps) : ∀ k : Nat, RepPs F H (List.replicate k vs).flatten (List.replicate k ps).flatten
  | 0 => .nil
  | k + 1 => by
    rw [List.replicate_succ, List.replicate_succ, List.flatten_cons, List.flatten_cons]
    exact h.app (RepPs.rep h k)
theorem Reps.all : ∀ {vs : List V} {ds : List D} {ps : List PyData}, Reps Z F φ H vs ds → allPy ds = some ps → RepPs F H vs ps
  | _, _, ps, .nil, e => by
    cases e
    exact .nil
  | _, _, ps, .cons (ds := ds) (.py h) t, e => by
    unfold allPy at e
    cases q : allPy ds with
    | none => rw [q] at e; cases e
    | some qs =>
      rw [q] at e
      cases e
      exact .cons h (t.all q)
  | _, _, _, .cons (.mt _ _) _, e => by cases e
  | _, _, _, .cons (.ml _ _ _) _, e => by cases e
  | _, _, _, .cons (.fn _) _, e => by cases e
  | _, _, _, .cons (.exc _ _ _ _ _) _, e => by cases e
  | _, _, _, .cons (.cel _) _, e => by cases e
  | _, _, _, .cons (.scr _) _, e => by cases e
/-- a tuple of such values -/
theorem Reps.mkT {a : Addr} {vs : List V} {ds : List D} (h : Reps Z F φ H vs ds) (e : H a = some (.tup vs)) : Rep Z F φ H (.ref a) (mkT ds) := by
  unfold Ev.mkT
  split
  · rename_i ps q
    exact .py (.tup e (h.all q))
  · exact .mt e h
theorem Reps.mkL {a : Addr} {vs : List V} {ds : List D} (h : Reps Z F φ H vs ds) (e : H a = some (.lst vs)) : OwnR Z F φ H a (mkL ds) := by
  unfold Ev.mkL
  split
  · rename_i ps q
    exact ⟨vs, e, h.all q⟩
  · exact ⟨vs, e, h⟩
/-! forms -/
theorem RepR.int {i : Int} (h : RepR Z F φ H v (.py (.int i))) : v = .int i := by
  rcases h with h | ⟨_, _, h⟩
  · cases h with | py h => cases h with | int => rfl
  · exact h.elim
theorem RepR.bl {i : Bool} (h : RepR Z F φ H v (.py (.bool i))) : v = .bl i := by
  rcases h with h | ⟨_, _, h⟩
  · cases h with | py h => cases h with | bl => rfl
  · exact h.elim
theorem RepR.str {i : Str} (h : RepR Z F φ H v (.py (.str i))) : v = .str i := by
  rcases h with h | ⟨_, _, h⟩
  · cases h with | py h => cases h with | str => rfl
  · exact h.elim
theorem RepR.non (h : RepR Z F φ H v (.py .none)) : v = .non := by
  rcases h with h | ⟨_, _, h⟩
  · cases h with | py h => cases h with | non => rfl
  · exact h.elim
theorem RepR.tup {ps : List PyData} (h : RepR Z F φ H v (.py (.tuple ps))) : ∃ a vs, v = .ref a ∧ H a = some (.tup vs) ∧ RepPs F H vs ps := by
  rcases h with h | ⟨_, _, h⟩
  · cases h with | py h => cases h with | tup e r => exact ⟨_, _, rfl, e, r⟩
  · exact h.elim
theorem RepR.lst {ps : List PyData} (h : RepR Z F φ H v (.py (.list ps))) : ∃ a vs, v = .ref a ∧ H a = some (.lst vs) ∧ RepPs F H vs ps := by
  rcases h with h | ⟨a, e, vs, h1, h2⟩
  · cases h with | py h => cases h with | lst _ e r => exact ⟨_, _, rfl, e, r⟩
  · exact ⟨a, vs, e, h1, h2⟩
theorem RepR.mt {ds : List D} (h : RepR Z F φ H v (.mt ds)) : ∃ a vs, v = .ref a ∧ H a = some (.tup vs) ∧ Reps Z F φ H vs ds := by
  rcases h with h | ⟨_, _, h⟩
  · cases h with | mt e r => exact ⟨_, _, rfl, e, r⟩
  · exact h.elim
theorem RepR.ml {ds : List D} (h : RepR Z F φ H v (.ml ds)) : ∃ a vs, v = .ref a ∧ H a = some (.lst vs) ∧ Reps Z F φ H vs ds := by
  rcases h with h | ⟨a, e, vs, h1, h2⟩
  · cases h with | ml _ e r => exact ⟨_, _, rfl, e, r⟩
  · exact ⟨a, vs, e, h1, h2⟩
theorem RepR.exc {c : Nat} {p : PyData} (h : RepR Z F φ H v (.exc c p)) : ∃ a d w, v = .ref a ∧ H a = some (ExV (.ref (Z.ca c)) d a) ∧ H d = some (.xd [(valK, w)]) ∧ RepP F H w p := by
  rcases h with h | ⟨_, _, h⟩
  · cases h with | exc _ _ h1 h2 h3 => exact ⟨_, _, _, rfl, h1, h2, h3⟩
  · exact h.elim
theorem RepR.cel {n : Nat} (h : RepR Z F φ H v (.cel n)) : ∃ a, v = .ref a ∧ φ[n]? = some a := by
  rcases h with h | ⟨_, _, h⟩
  · cases h with | cel e => exact ⟨_, rfl, e⟩
  · exact h.elim
theorem RepR.scr {ns : List Int} (h : RepR Z F φ H v (.scr ns)) : ∃ a, v = .ref a ∧ SqL Z.K H a (ns.map V.int) := by
  rcases h with h | ⟨_, _, h⟩
  · cases h with
    | scr e =>
      refine ⟨_, rfl, ?_⟩
      rcases e with ⟨o, e⟩ | ⟨_, e⟩ | e
      · exact .inl (.inr ⟨o, e⟩)
      · exact .inl (.inl e)
      · rcases e with (e | ⟨_, e⟩) | e
        · cases e
        · cases e
        · exact .inr e
  · exact h.elim
theorem RepR.fn {k : Nat} (h : RepR Z F φ H v (.fn k)) : v = .ref (Z.fa k) := by
  rcases h with h | ⟨_, _, h⟩
  · cases h with | fn => rfl
  · exact h.elim
theorem RepR.clo {k : Nat} (h : RepR Z F φ H v (.clo k)) : False := by
  rcases h with h | ⟨_, _, h⟩
  · cases h
  · exact h.elim
theorem rInt (i : Int) : Rep Z F φ H (.int i) (.py (.int i)) := .py (.int i)
theorem rStr (i : Str) : Rep Z F φ H (.str i) (.py (.str i)) := .py (.str i)
theorem rBl (i : Bool) : Rep Z F φ H (.bl i) (.py (.bool i)) := .py (.bl i)
/-! data as the hand layer reads it -/
mutual
theorem RepP.dp : ∀ {v : V} {p : PyData}, RepP F H v p → Dp Z.K H v p
  | _, _, .non => .non
  | _, _, .bl b => .bl b
  | _, _, .int i => .int i
  | _, _, .str i => .str i
  | _, _, .lst _ e r => .lst (SqL.of e) r.dp
  | _, _, .tup e r => .tup (SqT.of e) r.dp
theorem RepPs.dp : ∀ {vs : List V} {ps : List PyData}, RepPs F H vs ps → DpAll Z.K H vs ps
  | _, _, .nil => .nil
  | _, _, .cons h t => .cons h.dp t.dp
end
theorem RepR.dp {p : PyData} (h : RepR Z F φ H v (.py p)) : Dp Z.K H v p := by
  rcases h with h | ⟨a, e, h⟩
  · cases h with | py h => exact h.dp
  · cases p with
    | list ps =>
      obtain ⟨vs, h1, h2⟩ := h
      subst e
      exact .lst (SqL.of h1) h2.dp
    | _ => exact h.elim
end

/-! ### operations -/
section
variable {X : Cx} {Z : Zt}
theorem bits_ok {n : Nat} {i : Int} (h : bits n i = true) : i.natAbs < 2 ^ n := of_decide_eq_true h
def opE : Op2 → Operator
  | .add => .Add | .sub => .Sub | .mul => .Mult | .fdiv => .FloorDiv | .mod => .Mod | .pow => .Pow | .shl => .LShift | .shr => .RShift | .band => .BitAnd | .bxor => .BitXor | .bor => .BitOr
/-- two ints, an int -/
theorem opS_int {C : Int → Int → Prop} {g : Int → Int → Int} {h : D → D → Option (D × Bool)}
    (e : ∀ x y z, h x y = some z → ∃ i j, x = .py (.int i) ∧ y = .py (.int j) ∧ C i j ∧ z = (.py (.int (g i j)), false)) : OpS Z (rI C fun i j => .int (g i j)) h := by
  intro F φ H v w x y z Q rx ry q k
  obtain ⟨i, j, rfl, rfl, c, rfl⟩ := e x y z q
  exact ⟨i, j, rx.int, ry.int, c, k _ _ (.same (rInt _))⟩
theorem opS_or {r r' : R2} {h h' : D → D → Option (D × Bool)} (a : OpS Z r h) (b : OpS Z r' h') : OpS Z (fun x y H Q => r x y H Q ∨ r' x y H Q) (orO h h') := by
  intro F φ H v w x y z Q rx ry q kk
  unfold orO at q
  split at q
  · rename_i z' e
    cases q
    exact .inl (a F φ H v w x y z Q rx ry e kk)
  · exact .inr (b F φ H v w x y z Q rx ry q kk)
theorem oInt_some {C : Int → Int → Bool} {g : Int → Int → Int} {x y : D} {z : D × Bool} (h : oInt C g x y = some z) : ∃ i j, x = .py (.int i) ∧ y = .py (.int j) ∧ C i j = true ∧ z = (.py (.int (g i j)), false) := by
  unfold oInt at h
  split at h
  · split at h
    · rename_i i j c
      exact ⟨i, j, rfl, rfl, c, (Option.some.inj h).symm⟩
    · cases h
  · cases h
theorem s_oInt {C : Int → Int → Bool} {C' : Int → Int → Prop} {g : Int → Int → Int} (hc : ∀ i j, C i j = true → C' i j) : OpS Z (rI C' fun i j => .int (g i j)) (oInt C g) := opS_int fun _ _ _ h => by
  obtain ⟨i, j, h1, h2, h3, h4⟩ := oInt_some h
  exact ⟨i, j, h1, h2, hc i j h3, h4⟩
/-- texts glued -/
theorem s_oStr : OpS Z (fun x y H Q => ∃ i j, x = .str i ∧ y = .str j ∧ i.length + j.length ≤ sizeLine ∧ Q (.str (i ++ j)) H) oStr := by
  intro F φ H v w x y z Q rx ry q k
  unfold oStr at q
  split at q
  · split at q
    · rename_i hz
      cases q
      exact ⟨_, _, rx.str, ry.str, hz, k _ _ (.same (rStr _))⟩
    · cases q
  · cases q
/-- tuples, lists, one behind another -/
theorem s_oTup : OpS Z (rCatA X.K) oTup := by
  intro F φ H v w x y z Q rx ry q k
  unfold oTup at q
  split at q
  · split at q
    · rename_i xs ys hz
      cases q
      obtain ⟨a, vs, rfl, ha, r1⟩ := rx.tup
      obtain ⟨b, ws, rfl, hb, r2⟩ := ry.tup
      refine ⟨a, b, vs, ws, rfl, rfl, SqT.of ha, SqT.of hb, by rw [r1.len, r2.len]; exact hz, fun e => ?_, fun _ e => ?_, fun _ _ p hp => k _ _ (.tup hp (.py (.tup upd_same ?_)))⟩
      · subst e
        cases r1
        exact k _ _ (.same (.py (.tup hb r2)))
      · subst e
        cases r2
        rw [List.append_nil] at k
        exact k _ _ (.same (.py (.tup ha r1)))
      · have s : Stay F φ H F φ (upd H p (.tup (vs ++ ws))) := ⟨fun _ h => h, fun b o _ h _ => by rw [upd_ne (ne_of_none h hp)]; exact h, fun b o h => by rw [upd_ne (ne_of_none h hp)]; exact h, fun b o u h => by rw [upd_ne (ne_of_none h hp)]; exact h, ⟨[], by simp⟩⟩
        exact (r1.app r2).stay s
    · cases q
  · cases q
theorem stay_upd {F : Addr → Prop} {φ : List Addr} {H : Hp} {p : Addr} {o : HO} (hp : H p = none) : Stay F φ H F φ (upd H p o) :=
  ⟨fun _ h => h, fun b x _ h _ => by rw [upd_ne (ne_of_none h hp)]; exact h, fun b x h => by rw [upd_ne (ne_of_none h hp)]; exact h, fun b x u h => by rw [upd_ne (ne_of_none h hp)]; exact h, ⟨[], by simp⟩⟩
theorem s_oLst : OpS Z rCat oLst := by
  intro F φ H v w x y z Q rx ry q k
  unfold oLst at q
  split at q
  · split at q
    · rename_i xs ys hz
      cases q
      obtain ⟨a, vs, rfl, ha, r1⟩ := rx.lst
      obtain ⟨b, ws, rfl, hb, r2⟩ := ry.lst
      exact ⟨a, b, vs, ws, rfl, rfl, ha, hb, by rw [r1.len, r2.len]; exact hz, fun p hp => k _ _ (.lst hp ⟨_, upd_same, (r1.app r2).stay (stay_upd (φ := φ) hp)⟩)⟩
    · cases q
  · cases q
theorem s_oRepT : OpS Z (rRepT X.K) oRepT := by
  intro F φ H v w x y z Q rx ry q k
  unfold oRepT at q
  split at q
  · split at q
    · rename_i xs n hz
      cases q
      simp only [Bool.and_eq_true, decide_eq_true_eq, Bool.not_eq_true', List.isEmpty_eq_false_iff] at hz
      obtain ⟨⟨⟨h1, h2⟩, h3⟩, h4⟩ := hz
      obtain ⟨a, vs, rfl, ha, r1⟩ := rx.tup
      refine ⟨a, n, vs, rfl, ry.int, SqT.of ha, fun e => ?_, h1, h2, by rw [r1.len]; exact h3, fun p hp => k _ _ (.tup hp (.py (.tup upd_same ((r1.rep _).stay (stay_upd (φ := φ) hp)))))⟩
      subst e
      cases r1
      exact h4 rfl
    · cases q
  · cases q
theorem s_oRepL : OpS Z rRep oRepL := by
  intro F φ H v w x y z Q rx ry q k
  unfold oRepL at q
  split at q
  · split at q
    · rename_i xs n hz
      cases q
      simp only [Bool.and_eq_true, decide_eq_true_eq] at hz
      obtain ⟨⟨h1, h2⟩, h3⟩ := hz
      obtain ⟨a, vs, rfl, ha, r1⟩ := rx.lst
      exact ⟨a, n, vs, rfl, ry.int, ha, by omega, by omega, by rw [r1.len]; exact h3, fun p hp => k _ _ (.lst hp ⟨_, upd_same, (r1.rep _).stay (stay_upd (φ := φ) hp)⟩)⟩
    · cases q
  · cases q
theorem op_powX : OpR X (binaryOp .Pow) (rI (fun i j => 0 ≤ j ∧ (Builtin.Int.intBits i : Int) * j ≤ 2 ^ 27) fun i j => .int (i ^ j.toNat)) := opI fun _ _ _ _ _ _ _ hc q => pow_int hc.1 hc.2 q
theorem intBits_lt {i : Int} {n : Nat} (h : i.natAbs < 2 ^ n) : Builtin.Int.intBits i ≤ n := by
  unfold Builtin.Int.intBits
  split
  · exact Nat.zero_le _
  · rename_i hne
    have h0 : i.natAbs ≠ 0 := fun z => by
      have : i = 0 := Int.natAbs_eq_zero.mp z
      simp [this] at hne
    exact (Nat.log2_lt h0).mpr h
theorem s_oAny {C : Int → Int → Bool} {g : Int → Int → Int} : OpS Z (rI0 fun i j => .int (g i j)) (oInt C g) := by
  intro F φ H v w x y z Q rx ry q k
  obtain ⟨i, j, rfl, rfl, _, rfl⟩ := oInt_some q
  exact ⟨i, j, rx.int, ry.int, k _ _ (.same (rInt _))⟩
/-- each operator, its rule -/
theorem s_op2 (X : Cx) (Z : Zt) (o : Op2) : ∃ r, OpR X (binaryOp (opE o)) r ∧ OpS Z r (o2 o) := by
  cases o with
  | add => exact ⟨_, op_add.or (op_add_str.or (op_catA.or op_cat)), opS_or s_oAny (opS_or s_oStr (opS_or s_oTup s_oLst))⟩
  | sub => exact ⟨_, op_sub, s_oAny⟩
  | mul =>
    refine ⟨_, op_mulX.or (op_repT.or op_rep), opS_or (s_oInt fun i j h => ?_) (opS_or s_oRepT s_oRepL)⟩
    simp only [Bool.and_eq_true] at h
    exact mulx_ok (bits_ok h.1) (bits_ok h.2) (by decide)
  | fdiv =>
    refine ⟨_, op_fdiv, s_oInt fun i j h => ?_⟩
    simp only [Bool.and_eq_true, decide_eq_true_eq] at h
    exact h
  | mod => exact ⟨_, op_mod, s_oInt fun i j h => of_decide_eq_true h⟩
  | pow =>
    refine ⟨_, op_powX, s_oInt fun i j h => ?_⟩
    simp only [Bool.and_eq_true, decide_eq_true_eq] at h
    obtain ⟨⟨h1, h2⟩, h3⟩ := h
    have h4 := intBits_lt (bits_ok h3)
    refine ⟨h1, ?_⟩
    have h5 : (Builtin.Int.intBits i : Int) * j ≤ 1000 * 1000 := Int.mul_le_mul (by omega) h2 h1 (by decide)
    omega
  | shl =>
    refine ⟨_, op_shl, s_oInt fun i j h => ?_⟩
    simp only [Bool.and_eq_true, decide_eq_true_eq] at h
    obtain ⟨⟨h1, h2⟩, h3⟩ := h
    exact ⟨h1, by omega, Nat.lt_of_lt_of_le (bits_ok h3) (by decide)⟩
  | shr => exact ⟨_, op_shr, s_oInt fun i j h => of_decide_eq_true h⟩
  | band => exact ⟨_, op_and, s_oAny⟩
  | bxor => exact ⟨_, op_xor, s_oAny⟩
  | bor => exact ⟨_, op_or, s_oAny⟩
end
end Ev

/-! Comparisons, truth, built-in functions. -/
namespace Ev
open L2 PyProof.Rows PySem PySem.Spec

/-- a comparison keeps its word -/
def CmS (Z : Zt) (r : R2) (g : D → D → Option Bool) : Prop := ∀ (F : Addr → Prop) (φ : List Addr) (H : Hp) (v w : V) (x y : D) (b : Bool) (Q : VK),
  RepR Z F φ H v x → RepR Z F φ H w y → g x y = some b → Q (.bl b) H → r v w H Q
section
variable {X : Cx} {Z : Zt}
theorem cmS_or {r r' : R2} {h h' : D → D → Option Bool} (a : CmS Z r h) (b : CmS Z r' h') : CmS Z (fun x y H Q => r x y H Q ∨ r' x y H Q) (orO h h') := by
  intro F φ H v w x y z Q rx ry q kk
  unfold orO at q
  split at q
  · rename_i z' e
    cases q
    exact .inl (a F φ H v w x y z Q rx ry e kk)
  · exact .inr (b F φ H v w x y z Q rx ry q kk)
theorem cmS_not_or {r r' : R2} {h h' : D → D → Option Bool} (a : CmS Z r fun x y => notO (h x y)) (b : CmS Z r' fun x y => notO (h' x y)) : CmS Z (fun x y H Q => r x y H Q ∨ r' x y H Q) fun x y => notO (orO h h' x y) := by
  intro F φ H v w x y z Q rx ry q kk
  unfold orO at q
  dsimp only at q
  cases e : h x y with
  | some z' =>
    rw [e] at q
    exact .inl (a F φ H v w x y z Q rx ry (by show notO (h x y) = _; rw [e]; exact q) kk)
  | none =>
    rw [e] at q
    exact .inr (b F φ H v w x y z Q rx ry q kk)
theorem cInt_some {g : Int → Int → Bool} {x y : D} {b : Bool} (h : cInt g x y = some b) : ∃ i j, x = .py (.int i) ∧ y = .py (.int j) ∧ b = g i j := by
  unfold cInt at h
  split at h
  · cases h
    exact ⟨_, _, rfl, rfl, rfl⟩
  · cases h
theorem notO_some {r : Option Bool} {b : Bool} (h : notO r = some b) : ∃ c, r = some c ∧ b = !c := by
  cases r with
  | none => cases h
  | some c => exact ⟨c, rfl, (Option.some.inj h).symm⟩
theorem s_cInt {g : Int → Int → Bool} : CmS Z (rI0 fun i j => .bl (g i j)) (cInt g) := by
  intro F φ H v w x y b Q rx ry q k
  obtain ⟨i, j, rfl, rfl, rfl⟩ := cInt_some q
  exact ⟨i, j, rx.int, ry.int, k⟩
/-- data of a kind, compared by a rule of the library -/
def rData (K : PySem.W.Frag) (C : PyData → PyData → Prop) (g : PyData → PyData → Bool) : R2 := fun x y H Q => ∃ d e, Dp K H x d ∧ Dp K H y e ∧ C d e ∧ Q (.bl (g d e)) H
theorem op_data {op : CmpOp} {C : PyData → PyData → Prop} {g : PyData → PyData → Bool}
    (rule : ∀ (s : Shared) (a b : Value) (d e : PyData) (as bs : List Addr) (Q : Value → Shared → Prop), Reads s.heap a d as → Reads s.heap b e bs → C d e → Q (.bool (g d e)) s → wpAny (model X.prog X.w) X.A (compareOp op a b) Q X.xe s) :
    OpR X (compareOp op) (rData X.K C g) := by
  intro pins s σ H x y v u Q I rx ry h
  obtain ⟨d, e, hd, he, c, q⟩ := h
  obtain ⟨as, r1⟩ := Dp.reads I d x v hd rx
  obtain ⟨bs, r2⟩ := Dp.reads I e y u he ry
  exact rule s v u d e as bs _ r1 r2 c ⟨.bl _, H, I, rfl, q⟩
theorem s_data {C : PyData → PyData → Prop} {g : PyData → PyData → Bool} {h : D → D → Option Bool} (e : ∀ x y b, h x y = some b → ∃ p q, x = .py p ∧ y = .py q ∧ C p q ∧ b = g p q) : CmS Z (rData Z.K C g) h := by
  intro F φ H v w x y b Q rx ry q k
  obtain ⟨p, p', rfl, rfl, c, rfl⟩ := e x y b q
  exact ⟨p, p', rx.dp, ry.dp, c, k⟩
def Alk (p q : PyData) : Prop := PySem.W.alike p q = true ∧ p ≠ .none ∧ p.depth ≤ 64
theorem cData_some {g : PyData → PyData → Bool} {x y : D} {b : Bool} (h : cData g x y = some b) : ∃ p q, x = .py p ∧ y = .py q ∧ Alk p q ∧ b = g p q := by
  unfold cData at h
  split at h
  · rename_i p q
    split at h
    · rename_i hc
      cases h
      simp only [Bool.and_eq_true, decide_eq_true_eq] at hc
      refine ⟨p, q, rfl, rfl, ⟨hc.1.1, fun z => ?_, hc.2⟩, rfl⟩
      rw [z] at hc
      exact absurd hc.1.2 (by decide)
    · cases h
  · cases h
theorem min_room {A : Around} {p q : PyData} (h : p.depth ≤ 64) (hu : A.units + 64 < cLine) : A.units + min p.depth q.depth < cLine := by
  have := Nat.min_le_left p.depth q.depth
  omega
def Shp (p q : PyData) : Prop := SeqAt.shaped p = true ∧ SeqAt.shaped q = true
theorem eqP_some {x y : D} {b : Bool} (h : eqP x y = some b) : ∃ p q, x = .py p ∧ y = .py q ∧ Shp p q ∧ b = PyData.eqv p q := by
  unfold eqP at h
  split at h
  · rename_i p q
    split at h
    · rename_i hc
      cases h
      simp only [Bool.and_eq_true] at hc
      exact ⟨p, q, rfl, rfl, hc, rfl⟩
    · cases h
  · cases h
def ShL (p q : PyData) : Prop := Shp p q ∧ ∃ ys, q = .list ys
def ShT (p q : PyData) : Prop := Shp p q ∧ ∃ ys, q = .tuple ys
def anyP : PyData → PyData → Bool := fun x q => match q with
  | .list ys => ys.any fun y => PyData.eqv y x
  | .tuple ys => ys.any fun y => PyData.eqv y x
  | _ => false
theorem inL_some {x y : D} {b : Bool} (h : inL x y = some b) : ∃ p q, x = .py p ∧ y = .py q ∧ ShL p q ∧ b = anyP p q := by
  unfold inL at h
  split at h
  · rename_i p ys
    split at h
    · rename_i hc
      cases h
      simp only [Bool.and_eq_true] at hc
      exact ⟨p, _, rfl, rfl, ⟨hc, ys, rfl⟩, rfl⟩
    · cases h
  · cases h
theorem inT_some {x y : D} {b : Bool} (h : inT x y = some b) : ∃ p q, x = .py p ∧ y = .py q ∧ ShT p q ∧ b = anyP p q := by
  unfold inT at h
  split at h
  · rename_i p ys
    split at h
    · rename_i hc
      cases h
      simp only [Bool.and_eq_true] at hc
      exact ⟨p, _, rfl, rfl, ⟨hc, ys, rfl⟩, rfl⟩
    · cases h
  · cases h
theorem not_of {C : PyData → PyData → Prop} {g : PyData → PyData → Bool} {h : D → D → Option Bool} (e : ∀ x y b, h x y = some b → ∃ p q, x = .py p ∧ y = .py q ∧ C p q ∧ b = g p q) :
    ∀ x y b, notO (h x y) = some b → ∃ p q, x = .py p ∧ y = .py q ∧ C p q ∧ b = !g p q := by
  intro x y b q
  obtain ⟨c, e1, rfl⟩ := notO_some q
  obtain ⟨p, p', h1, h2, h3, h4⟩ := e x y c e1
  exact ⟨p, p', h1, h2, h3, by rw [h4]⟩
theorem s_inS : CmS Z (fun x y H Q => ∃ i j, x = .str i ∧ y = .str j ∧ Q (.bl (!(Builtin.Str.occurrences j i 0 j.length 1).isEmpty)) H) inS := by
  intro F φ H v w x y b Q rx ry q k
  unfold inS at q
  split at q
  · cases q
    exact ⟨_, _, rx.str, ry.str, k⟩
  · cases q
theorem s_inSn : CmS Z (fun x y H Q => ∃ i j, x = .str i ∧ y = .str j ∧ Q (.bl (!(!(Builtin.Str.occurrences j i 0 j.length 1).isEmpty))) H) fun x y => notO (inS x y) := by
  intro F φ H v w x y b Q rx ry q k
  obtain ⟨c, e, rfl⟩ := notO_some q
  unfold inS at e
  split at e
  · cases e
    exact ⟨_, _, rx.str, ry.str, k⟩
  · cases e
theorem s_eqS : CmS Z rEq eqS := by
  intro F φ H v w x y b Q rx ry q k
  unfold eqS at q
  split at q
  · rename_i a c
    cases q
    have e1 := rx.str
    have e2 := ry.str
    subst e1 e2
    refine ⟨rfl, ?_⟩
    have e : decide (V.str a = V.str c) = decide (a = c) := decide_eq_decide.mpr ⟨fun z => V.str.inj z, fun z => by rw [z]⟩
    rw [e]
    exact k
  · cases q
theorem s_eqSn : CmS Z rNe fun x y => notO (eqS x y) := by
  intro F φ H v w x y b Q rx ry q k
  obtain ⟨cc, e, rfl⟩ := notO_some q
  unfold eqS at e
  split at e
  · rename_i a c
    cases e
    have e1 := rx.str
    have e2 := ry.str
    subst e1 e2
    refine ⟨rfl, ?_⟩
    have e : decide (V.str a = V.str c) = decide (a = c) := decide_eq_decide.mpr ⟨fun z => V.str.inj z, fun z => by rw [z]⟩
    rw [e]
    exact k
  · cases e
theorem s_eqI : CmS Z rEq (cInt fun i j => i == j) := by
  intro F φ H v w x y b Q rx ry q k
  obtain ⟨i, j, rfl, rfl, rfl⟩ := cInt_some q
  have e1 := rx.int
  have e2 := ry.int
  subst e1 e2
  exact ⟨rfl, by rw [dec_int]; exact k⟩
theorem s_eqIn : CmS Z rNe fun x y => notO (cInt (fun i j => i == j) x y) := by
  intro F φ H v w x y b Q rx ry q k
  obtain ⟨c, e, rfl⟩ := notO_some q
  obtain ⟨i, j, rfl, rfl, rfl⟩ := cInt_some e
  have e1 := rx.int
  have e2 := ry.int
  subst e1 e2
  exact ⟨rfl, by rw [dec_int]; exact k⟩
def nonP : PyData → Bool
  | .none => true
  | _ => false
theorem RepR.isn {F : Addr → Prop} {φ : List Addr} {H : Hp} {v : V} {p : PyData} (h : RepR Z F φ H v (.py p)) : decide (v = .non) = nonP p := by
  cases p with
  | none => have e := h.non; subst e; rfl
  | bool b => have e := h.bl; subst e; rfl
  | int b => have e := h.int; subst e; rfl
  | str b => have e := h.str; subst e; rfl
  | list b => obtain ⟨a, vs, rfl, _⟩ := h.lst; rfl
  | tuple b => obtain ⟨a, vs, rfl, _⟩ := h.tup; rfl
  | dict b =>
    rcases h with h | ⟨_, _, h⟩
    · cases h with | py h => cases h
    · exact h.elim
theorem s_isN' {b : Bool} {F : Addr → Prop} {φ : List Addr} {H : Hp} {v w : V} {x y : D} (rx : RepR Z F φ H v x) (ry : RepR Z F φ H w y) (q : isN x y = some b) : w = .non ∧ decide (v = .non) = b := by
  unfold isN at q
  split at q
  · cases q
    exact ⟨ry.non, by rw [rx.isn]; rfl⟩
  · rename_i p hne
    cases q
    refine ⟨ry.non, ?_⟩
    rw [rx.isn]
    cases p <;> first | rfl | exact (hne rfl).elim
  · cases q
    obtain ⟨a, vs, rfl, _⟩ := rx.mt
    exact ⟨ry.non, rfl⟩
  · cases q
    obtain ⟨a, vs, rfl, _⟩ := rx.ml
    exact ⟨ry.non, rfl⟩
  · cases q
    obtain ⟨a, d, vs, rfl, _⟩ := rx.exc
    exact ⟨ry.non, rfl⟩
  · cases q
theorem s_isN : CmS Z (fun x y H Q => y = .non ∧ Q (.bl (decide (x = .non))) H) isN := by
  intro F φ H v w x y b Q rx ry q k
  obtain ⟨e1, e2⟩ := s_isN' rx ry q
  exact ⟨e1, by rw [e2]; exact k⟩
theorem s_isNn : CmS Z (fun x y H Q => y = .non ∧ Q (.bl (!decide (x = .non))) H) fun x y => notO (isN x y) := by
  intro F φ H v w x y b Q rx ry q k
  obtain ⟨c, e, rfl⟩ := notO_some q
  obtain ⟨e1, e2⟩ := s_isN' rx ry e
  exact ⟨e1, by rw [e2]; exact k⟩
theorem s_isB : CmS Z rIsB isB := by
  intro F φ H v w x y b Q rx ry q k
  unfold isB at q
  split at q
  · cases q
    exact ⟨_, _, rx.bl, ry.bl, k⟩
  · cases q
theorem s_isBn : CmS Z rNotB fun x y => notO (isB x y) := by
  intro F φ H v w x y b Q rx ry q k
  obtain ⟨c, e, rfl⟩ := notO_some q
  unfold isB at e
  split at e
  · cases e
    exact ⟨_, _, rx.bl, ry.bl, k⟩
  · cases e
def cmE : Cm → CmpOp
  | .eq => .Eq | .ne => .NotEq | .lt => .Lt | .le => .LtE | .gt => .Gt | .ge => .GtE | .is => .Is | .isnot => .IsNot | .inn => .In | .notin => .NotIn
theorem anyP_list (x : PyData) (ys : List PyData) : anyP x (.list ys) = ys.any fun y => PyData.eqv y x := rfl
theorem s_cm (X : Cx) (Z : Zt) (hK : X.K = Z.K) (hu : X.A.units + 65 < cLine) (o : Cm) : ∃ r, OpR X (compareOp (cmE o)) r ∧ CmS Z r (cm o) := by
  have hu4 : X.A.units + 64 < cLine := by omega
  cases o with
  | eq => exact ⟨_, op_eq.or (op_eq.or (op_data (C := Shp) fun s a b d e as bs Q r1 r2 c q => SeqAt.compareEq_shaped r1 r2 c.1 c.2 hu4 q)), cmS_or s_eqI (cmS_or s_eqS (by rw [hK]; exact s_data fun x y b => eqP_some))⟩
  | ne => exact ⟨_, op_ne.or (op_ne.or (op_data (C := Shp) (g := fun p q => !PyData.eqv p q) fun s a b d e as bs Q r1 r2 c q => SeqAt.compareNe_shaped r1 r2 c.1 c.2 hu4 q)), cmS_not_or s_eqIn (cmS_not_or s_eqSn (by rw [hK]; exact s_data (not_of fun x y b => eqP_some)))⟩
  | lt => exact ⟨_, op_lt.or (op_data (C := Alk) fun s a b d e as bs Q r1 r2 c q => PySem.W.lt_data r1 r2 c.1 c.2.1 (min_room c.2.2 hu4) q), cmS_or s_cInt (by rw [hK]; exact s_data fun x y b => cData_some)⟩
  | gt => exact ⟨_, op_gt.or (op_data (C := Alk) fun s a b d e as bs Q r1 r2 c q => PySem.W.gt_data r1 r2 c.1 c.2.1 (min_room c.2.2 hu4) q), cmS_or s_cInt (by rw [hK]; exact s_data fun x y b => cData_some)⟩
  | le => exact ⟨_, op_le.or (op_data (C := Alk) fun s a b d e as bs Q r1 r2 c q => PySem.W.le_data r1 r2 c.1 c.2.1 (min_room c.2.2 hu4) q), cmS_or s_cInt (by rw [hK]; exact s_data fun x y b => cData_some)⟩
  | ge => exact ⟨_, op_ge.or (op_data (C := Alk) fun s a b d e as bs Q r1 r2 c q => PySem.W.ge_data r1 r2 c.1 c.2.1 (min_room c.2.2 hu4) q), cmS_or s_cInt (by rw [hK]; exact s_data fun x y b => cData_some)⟩
  | is => exact ⟨_, op_isN.or op_isBl, cmS_or s_isN s_isB⟩
  | isnot => exact ⟨_, op_notN.or op_notBl, cmS_not_or s_isNn s_isBn⟩
  | inn =>
    refine ⟨_, (op_data (C := ShT) (g := anyP) fun s a b d e as bs Q r1 r2 c q => ?_).or ((op_data (C := ShL) (g := anyP) fun s a b d e as bs Q r1 r2 c q => ?_).or op_in_str),
      cmS_or (by rw [hK]; exact s_data fun x y b => inT_some) (cmS_or (by rw [hK]; exact s_data fun x y b => inL_some) s_inS)⟩
    · obtain ⟨⟨c1, c2⟩, ys, rfl⟩ := c
      exact SeqAt.in_tuple_reads r2 r1 (SeqAt.canLay_of_shaped c2) (SeqAt.canLay_of_shaped c1) (room_in_shaped c1 hu) q
    · obtain ⟨⟨c1, c2⟩, ys, rfl⟩ := c
      exact SeqAt.in_list_reads r2 r1 (SeqAt.canLay_of_shaped c2) (SeqAt.canLay_of_shaped c1) (room_in_shaped c1 hu) q
  | notin =>
    refine ⟨_, (op_data (C := ShT) (g := fun p q => !anyP p q) fun s a b d e as bs Q r1 r2 c q => ?_).or ((op_data (C := ShL) (g := fun p q => !anyP p q) fun s a b d e as bs Q r1 r2 c q => ?_).or op_notIn_str),
      cmS_not_or (by rw [hK]; exact s_data (not_of fun x y b => inT_some)) (cmS_not_or (by rw [hK]; exact s_data (not_of fun x y b => inL_some)) s_inSn)⟩
    · obtain ⟨⟨c1, c2⟩, ys, rfl⟩ := c
      exact SeqAt.notIn_tuple_reads r2 r1 (SeqAt.canLay_of_shaped c2) (SeqAt.canLay_of_shaped c1) (room_in_shaped c1 hu) q
    · obtain ⟨⟨c1, c2⟩, ys, rfl⟩ := c
      exact SeqAt.notIn_list_reads r2 r1 (SeqAt.canLay_of_shaped c2) (SeqAt.canLay_of_shaped c1) (room_in_shaped c1 hu) q
/-- truth -/
theorem tru_ok' {F : Addr → Prop} {φ : List Addr} {H : Hp} {v : V} {d : D} {b : Bool} (r : RepR Z F φ H v d) (h : tru d = some b) : TruV Z.K v H b := by
  unfold tru at h
  split at h
  · cases h
    rw [r.non]
    exact rfl
  · cases h
    rw [r.bl]
    exact rfl
  · cases h
    rw [r.int]
    exact rfl
  · split at h
    · rename_i x hz
      cases h
      rw [r.str]
      exact ⟨hz, by cases x.length <;> rfl⟩
    · cases h
  · rename_i xs
    cases h
    obtain ⟨a, vs, rfl, e, rs⟩ := r.tup
    refine .inr (.inl ⟨vs, SqT.of e, ?_⟩)
    cases rs <;> rfl
  · rename_i xs
    cases h
    obtain ⟨a, vs, rfl, e, rs⟩ := r.lst
    refine .inl ⟨vs, SqL.of e, ?_⟩
    cases rs <;> rfl
  · cases h
end
end Ev

/-! sorted of tuples, empty ones among them. -/
namespace Ev
open PySem PySem.Spec PyProof.Rows PySem.Calls PySem.W
section
variable {P : Program} {W : World} {A : Around} {E : Value → Shared → Prop} {s : Shared}
theorem tup_lt_call {Q : Value → Shared → Prop} {l b : Addr} {us ws : Array Value} {e r : Nat → Bool} (hl : s.heap.IsTuple l us) (hb : s.heap.IsTuple b ws)
    (he : ∀ j (i1 : j < us.size) (i2 : j < ws.size), SeqAt.EqAt A.in1 s us[j] ws[j] (e j)) (hr : ∀ j (i1 : j < us.size) (i2 : j < ws.size), e j = false → SeqAt.RcLt A.in1 s us[j] ws[j] (r j))
    (q : Q (.bool (SeqAt.firstLt e r (decide (us.size < ws.size)) (List.range (min us.size ws.size)))) s) : wpAny (model P W) A (call (.builtin "tuple.__lt__") [.ref l, .ref b]) Q E s := by
  obtain ⟨⟨c1, d1, t1, s1⟩, o1, k1, n1, e1⟩ := id hl
  obtain ⟨⟨c2, d2, t2, s2⟩, o2, k2, n2, e2⟩ := id hb
  simp only at k1 e1 k2 e2
  subst k1
  subst e1
  subst k2
  subst e2
  exact call_meets F.slot_tuple_lt ⟨_, o1, rfl⟩ F.entry_tuple_lt (F.args_tuple_lt_2 _ _) (SeqAt.tuple_ltAt l b us ws n1 n2 d1 d2 s1 s2 e r) ⟨o1, o2, he, hr, q⟩
theorem tup_oneLt {xs ys : List PyData} {a b : Value} {as bs : List Addr} {Q : Bool → Shared → Prop} (ra : Reads s.heap a (.tuple xs) as) (rb : Reads s.heap b (.tuple ys) bs) (al : PySem.W.alike (.tuple xs) (.tuple ys) = true)
    (hu : A.units + min (PyData.tuple xs).depth (PyData.tuple ys).depth < cLine) (q : Q (PySem.W.dataLt (.tuple xs) (.tuple ys)) s) : wpAny (model P W) A (oneLt' true a b) Q E s := by
  have al2 : PySem.W.alikeAll xs ys = true := by simpa [PySem.W.alike] using al
  cases ra with
  | @tuple l o vs n _ _ a1 a2 a3 a4 =>
    cases rb with
    | @tuple l2 o2 ws m _ _ b1 b2 b3 b4 =>
      have z1 : vs.size = xs.length := by simpa using SeqAt.ReadsAll.length _ _ _ a4
      have z2 : ws.size = ys.length := by simpa using SeqAt.ReadsAll.length _ _ _ b4
      rw [PySem.W.dataLt_tuple, ← PySem.W.firstLt_toks xs ys al2, ← z1, ← z2] at q
      rw [oneLt'_eq]
      simp only [if_true]
      refine wpAny_bind (wpAny_cRoomFor (SeqAt.room_here hu) ?_)
      refine wpAny_bind (wpAny_callSpecialIfBound?_slot (T := "tuple") ⟨_, a1, a2⟩ F.slot_tuple_lt (tup_lt_call (e := SeqAt.pairEq xs ys) (r := fun j => PySem.W.dataLt (xs.getD j .none) (ys.getD j .none)) ⟨_, a1, a2, _, a3⟩ ⟨_, b1, b2, _, b3⟩ (fun j i1 i2 => ?_) (fun j i1 i2 hj => ?_) ?_))
      · have w := PySem.W.eqAt_alikeAll xs ys A.in1 s vs.toList ws.toList _ _ a4 b4 al2 (SeqAt.room_in hu) j (by simpa using i1) (by simpa using i2)
        simpa using w
      · have w := PySem.W.rcLt_alikeAll xs ys A.in1 s vs.toList ws.toList _ _ a4 b4 al2 (SeqAt.room_in hu) j (by simpa using i1) (by simpa using i2) hj
        simpa using w
      · exact wpAny_truthy_bool q
end
section
variable {M : Model} {A : Around} {E : Value → Shared → Prop} {s : Shared}
/-- the first items of tuples -/
inductive Frs (h : Heap) : List Value → List (Option Value) → Prop where
  | nil : Frs h [] []
  | cons {a : Addr} {o : Obj} {xs : Array Value} {n : Nat} {vs : List Value} {fs : List (Option Value)} : h.get? a = some o → o.cls = .type "tuple" → o.data = .seq xs n → Frs h vs fs → Frs h (.ref a :: vs) (xs[0]? :: fs)
theorem Frs.len {h : Heap} {vs : List Value} {fs : List (Option Value)} (f : Frs h vs fs) : vs.length = fs.length := by
  induction f with
  | nil => rfl
  | cons _ _ _ _ ih => simp [ih]
theorem Frs.go : ∀ {vs : List Value} {fs : List (Option Value)} {Q : List (Option Value) → Shared → Prop}, Frs s.heap vs fs → Q fs s → wpAny M A (vs.mapM firstOfTuple') Q E s
  | _, _, _, .nil, q => by rw [List.mapM_nil]; exact wpAny_pure q
  | _, _, Q, .cons (xs := xs) (vs := vs) (fs := fs) h1 h2 h3 t, q => by
    rw [List.mapM_cons]
    refine wpAny_bind ?_
    rw [kas_first_eq]
    refine wpAny_bind (Looks.here (show Looks M s.heap (typeOf (.ref _)) _ from (Looks.ld h1).andThen .now) ?_)
    rw [h2, if_neg (by first | decide | simp)]
    refine wpAny_bind (listItems_at h1 h3 (wpAny_pure ?_))
    exact wpAny_bind (Frs.go (Q := fun bs s' => wpAny M A (pure (xs[0]? :: bs)) Q E s') t (wpAny_pure q))
theorem Frs.ty {vs : List Value} {fs : List (Option Value)} (f : Frs s.heap vs fs) : ∀ v ∈ vs, Looks M s.heap (typeOf v) (.type "tuple") := by
  induction f with
  | nil => exact fun v hv => absurd hv (by simp)
  | cons h1 h2 _ _ ih =>
    intro v hv
    rcases List.mem_cons.mp hv with e | hv
    · subst e
      exact h2 ▸ (Looks.ld h1).andThen .now
    · exact ih v hv
theorem Frs.kind {v : Value} {vs : List Value} {f : Option Value} {fs : List (Option Value)} {Q : SortKind → Shared → Prop} (t : Frs s.heap (v :: vs) (f :: fs)) (ne : (f :: fs).all (·.isSome) = false) (q : Q (if f.isSome = true then general' else oneType') s) :
    wpAny M A (keyKind' (v :: vs).toArray) Q E s := by
  rw [keyKind'_eq, List.mapM_toArray, map_eq_pure_bind]
  refine wpAny_bind (wpAny_bind (Frs.go t (wpAny_pure ?_)))
  rw [if_neg (by rw [List.all_toArray, ne]; simp)]
  have e0 : ((f :: fs).toArray[0]?.bind id) = f := by simp
  rw [e0]
  cases f with
  | some f =>
    simp only [Option.isSome_some, if_true] at q ⊢
    exact wpAny_pure q
  | none =>
    rw [if_neg (by simp)]
    rw [oneTypeOnly'_eq, List.mapM_toArray, map_eq_pure_bind]
    refine wpAny_bind (wpAny_bind (wpAny_bind (kas_mapM (r := Value.type "tuple") _ (fun v hv Q' hq => (t.ty v hv).here hq) (wpAny_pure ?_))))
    have e1 : (List.map (fun _ => Value.type "tuple") (v :: vs)).toArray[0]? = some (Value.type "tuple") := by simp
    have e2 : ((List.map (fun _ => Value.type "tuple") (v :: vs)).toArray.all fun x => x == Value.type "tuple") = true := by
      simp only [List.all_toArray, List.all_map, List.all_eq_true]
      intro _ _
      exact beq_self_eq_true _
    rw [e1]
    simp only [e2, if_true]
    exact wpAny_pure (wpAny_pure q)
end

section
variable {P : Program} {W : World} {A : Around} {E : Value → Shared → Prop} {s : Shared}
theorem frs_of {h : Heap} : ∀ {vs : List Value} {ds : List PyData}, EachIs (fun v d => ∃ as, Reads h v d as) vs ds → (∀ d ∈ ds, ∃ xs, d = .tuple xs) → ∃ fs, Frs h vs fs ∧ (fs.all (·.isSome) = true → ∀ d ∈ ds, ∃ x r, d = .tuple (x :: r))
  | _, _, .nil, _ => ⟨[], .nil, fun _ d hd => absurd hd (by simp)⟩
  | _, _, .cons (b := d) ⟨as, r⟩ t, ht => by
    obtain ⟨fs, f1, f2⟩ := frs_of t fun d hd => ht d (List.mem_cons_of_mem _ hd)
    obtain ⟨xs, rfl⟩ := ht d List.mem_cons_self
    cases r with
    | @tuple a o us n _ _ h1 h2 h3 h4 =>
      refine ⟨us[0]? :: fs, .cons h1 h2 h3 f1, fun hs d hd => ?_⟩
      simp only [List.all_cons, Bool.and_eq_true] at hs
      rcases List.mem_cons.mp hd with e | hd
      · subst e
        cases xs with
        | cons x r => exact ⟨x, r, rfl⟩
        | nil =>
          have z : us.size = 0 := by simpa using SeqAt.ReadsAll.length _ _ _ h4
          rw [Array.getElem?_eq_none (by omega)] at hs
          exact absurd hs.1 (by simp)
      · exact f2 hs.2 d hd
theorem sorts_tup {vs : List Value} {ds : List PyData} (e : EachIs (fun v d => ∃ as, Reads s.heap v d as) vs ds) (al : AllAlike ds) (ht : ∀ d ∈ ds, ∃ xs, d = .tuple xs) (hu : ∀ d ∈ ds, A.units + d.depth < cLine) : SortsAt P W A s (dataKind s.heap ds) vs := by
  obtain ⟨fs, f1, f2⟩ := frs_of e ht
  cases hfs : fs.all (·.isSome) with
  | true => exact SortsAt.data e al (.inl fun d hd => f2 hfs d hd) hu
  | false =>
    refine ⟨fun v hv => ?_, ?_⟩
    · obtain ⟨d, hd, as, r⟩ := e.left v hv
      exact ⟨_, dataKind_some al hd r⟩
    · cases f1 with
      | nil => simp at hfs
      | @cons a o us n vs fs h1 h2 h3 t =>
        refine ⟨if us[0]?.isSome = true then general' else oneType', fun E x y p q Q hp hq k => ?_, fun _ E Q q => Frs.kind (.cons h1 h2 h3 t) hfs q⟩
        obtain ⟨d, as, hd, ra, rfl⟩ := dataKind_inv hp
        obtain ⟨d', as', hd', rb, rfl⟩ := dataKind_inv hq
        have ad := al d hd d' hd'
        have room : A.units + min d.depth d'.depth < cLine := Nat.lt_of_le_of_lt (Nat.add_le_add_left (Nat.min_le_left _ _) _) (hu d hd)
        have k' : Q (dataLt d d') s := k
        obtain ⟨xs, rfl⟩ := ht d hd
        obtain ⟨ys, rfl⟩ := ht d' hd'
        split
        · exact oneLt_alike (f := false) (fun z => by cases z) ra rb ad (fun z => by cases z) room k'
        · rw [keyLt'_oneType]
          exact tup_oneLt ra rb ad room k'
/-- data of one kind that can be sorted -/
def Sortb (ds : List PyData) : Prop := (∀ d ∈ ds, ∃ xs, d = .tuple xs) ∨ ∀ d ∈ ds, d ≠ .none ∧ ∀ xs, d ≠ .tuple xs
theorem sorts_at {vs : List Value} {ds : List PyData} (e : EachIs (fun v d => ∃ as, Reads s.heap v d as) vs ds) (al : AllAlike ds) (ht : Sortb ds) (hu : ∀ d ∈ ds, A.units + d.depth < cLine) : SortsAt P W A s (dataKind s.heap ds) vs := by
  rcases ht with ht | ht
  · exact sorts_tup e al ht hu
  · exact SortsAt.data e al (.inr ht) hu
theorem sorted_b {β : Type} {R : Value → β → Prop} {enc : β → PyData} {l : Addr} {vs : List Value} {bs : List β} {Q : Value → Shared → Prop} (hl : s.heap.IsList l vs.toArray) (e : EachIs R vs bs) (er : EachIs (fun v b => ∃ as, Reads s.heap v (enc b) as) vs bs)
    (al : AllAlike (bs.map enc)) (hk : Sortb (bs.map enc)) (hz : bs.length ≤ sizeLine) (hu : ∀ b, b ∈ bs → A.units + 2 + (enc b).depth < cLine)
    (q : ∀ out, out.length = bs.length → EachIs R out (bs.mergeSort (dataLe false enc)) → Q (.ref (s.heap.objs.size + 1)) { s with heap := sortedAll s.heap vs (List.toArray out) }) :
    wpAny (model P W) A (call (.builtin "sorted") [.ref l]) Q E s := by
  have er2 : EachIs (fun v b => ∃ as, Reads (sortingHeap (copyHeap s.heap vs) (s.heap.objs.size + 1) vs) v (enc b) as) vs bs := er.mono fun _ _ ⟨as, r⟩ => ⟨as, PyProof.Rows.Reads.keeps (fun _ _ => sorting_copy_old) r⟩
  refine sorted_vals hl (sorts_at (s := { s with heap := sortingHeap (copyHeap s.heap vs) (s.heap.objs.size + 1) vs }) (each_map (R := fun v d => ∃ as, Reads (sortingHeap (copyHeap s.heap vs) (s.heap.objs.size + 1) vs) v d as) enc er2) al hk fun d hd => ?_) (by rw [e.length]; exact hz)
    (q _ (by rw [sortVals_length false rfl]; exact e.length) (sortVals_data false e er2 al))
  obtain ⟨b, hb, rfl⟩ := List.mem_map.mp hd
  exact hu b hb
end
end Ev

/-! Built-in functions. -/
namespace Ev
open L2 PyProof.Rows PySem PySem.Spec

/-- a built-in function keeps its word -/
def BiS (Z : Zt) (r : List V → Hp → VK → Prop) (g : List D → Option (D × Bool)) : Prop := ∀ (F : Addr → Prop) (φ : List Addr) (H : Hp) (vs : List V) (xs : List D) (z : D × Bool) (Q : VK),
  Paired (RepR Z F φ H) vs xs → g xs = some z → (∀ u H', New Z F φ H z.1 z.2 u H' → Q u H') → r vs H Q
section
variable {X : Cx} {Z : Zt}
theorem pr1 {R : V → D → Prop} {vs : List V} {x : D} (h : Paired R vs [x]) : ∃ v, vs = [v] ∧ R v x := by
  cases h with | cons a b => cases b; exact ⟨_, rfl, a⟩
theorem pr2 {R : V → D → Prop} {vs : List V} {x y : D} (h : Paired R vs [x, y]) : ∃ v w, vs = [v, w] ∧ R v x ∧ R w y := by
  cases h with | cons a b => cases b with | cons c d => cases d; exact ⟨_, _, rfl, a, c⟩
theorem RepPs.none_of {F : Addr → Prop} {H : Hp} {vs : List V} {ps : List PyData} (h : RepPs F H vs ps) {i : Nat} (e : ps[i]? = none) : vs[i]? = none := by
  rw [List.getElem?_eq_none_iff] at e ⊢
  rw [h.len]
  exact e
/-! least and greatest of data -/
def AlkL (xs : List PyData) : Prop := PySem.W.AlikeAll xs ∧ PyData.depthAll xs ≤ 60
def rMM (K : PySem.W.Frag) (best : PyData → List PyData → PyData) : List V → Hp → VK → Prop := fun vs H Q => ∃ (a : Addr) (ws : List V) (x : PyData) (xs : List PyData), vs = [.ref a] ∧ (SqL K H a ws ∨ SqT K H a ws) ∧ DpAll K H ws (x :: xs) ∧ AlkL (x :: xs) ∧
  ∀ (i : Nat) (w : V), ws[i]? = some w → (x :: xs)[i]? = some (best x xs) → Q w H
theorem mm_of {name : String} {best : PyData → List PyData → PyData} (hc : X.calm = true) (hu : X.A.units + 70 < cLine)
    (hl : ∀ (s : Shared) (l : Addr) (vs : Array Value) (x : PyData) (xs : List PyData) (as : List Addr) (Q : Value → Shared → Prop), s.heap.IsList l vs → ReadsAll s.heap vs.toList (x :: xs) as → AlkL (x :: xs) →
      (∀ (i : Nat) v h' tk bs, vs[i]? = some v → Reads h' v (best x xs) bs → (∀ b o, s.heap.get? b = some o → h'.get? b = some o) → Q v { s with heap := h', toks := tk }) → wpAny (model X.prog X.w) X.A (call (.builtin name) [.ref l]) Q X.xe s)
    (ht : ∀ (s : Shared) (l : Addr) (vs : Array Value) (x : PyData) (xs : List PyData) (as : List Addr) (Q : Value → Shared → Prop), s.heap.IsTuple l vs → ReadsAll s.heap vs.toList (x :: xs) as → AlkL (x :: xs) →
      (∀ (i : Nat) v h' tk bs, vs[i]? = some v → Reads h' v (best x xs) bs → (∀ b o, s.heap.get? b = some o → h'.get? b = some o) → Q v { s with heap := h', toks := tk }) → wpAny (model X.prog X.w) X.A (call (.builtin name) [.ref l]) Q X.xe s) :
    CallR X (.builtin name) (rMM X.K best) := by
  intro pins s σ H vs us Q I r h
  obtain ⟨a, ws, x, xs, rfl, hs, dp, ak, q⟩ := h
  rw [Vals.ref1 r]
  have fin : ∀ {its : List Value} {as : List Addr}, Vals ws its → ReadsAll s.heap its.toArray.toList (x :: xs) as → ∀ (i : Nat) (v : Value) (h' : Heap) (tk : Nat) (bs : List Addr), its.toArray[i]? = some v → Reads h' v (best x xs) bs → (∀ b o, s.heap.get? b = some o → h'.get? b = some o) →
      EP X pins σ Q v { s with heap := h', toks := tk } := by
    intro its as rv ra i v h' tk bs hv rd kp
    have hi : its[i]? = some v := by simpa using hv
    cases hw : ws[i]? with
    | none => rw [rv.none_of hw] at hi; cases hi
    | some w =>
      obtain ⟨u, hu', ru⟩ := rv.get hw
      rw [hi] at hu'
      cases hu'
      refine ⟨w, H, I.kept (t' := tk) kp, ru, q i w hw ?_⟩
      obtain ⟨cs, r1, hlt, _, _⟩ := PySem.W.readsAll_at (vs := its) (by simpa using ra) i v hi
      have e := (PySem.Reads.unique rd _ _ (Reads.keeps kp r1)).1
      rw [e, List.getD_eq_getElem?_getD, List.getElem?_eq_getElem hlt]
      rfl
  rcases hs with hs | hs
  · obtain ⟨its, rv, hl', hz⟩ := I.list hs
    obtain ⟨as, ra⟩ := Dp.readsAll I _ _ its dp rv
    have ra' : ReadsAll s.heap its.toArray.toList (x :: xs) as := by simpa using ra
    exact hl s a its.toArray x xs as _ hl'.isList ra' ak fun i v h' tk bs => fin rv ra' i v h' tk bs
  · obtain ⟨its, rv, ht', hz⟩ := I.tuple hs
    obtain ⟨as, ra⟩ := Dp.readsAll I _ _ its dp rv
    have ra' : ReadsAll s.heap its.toArray.toList (x :: xs) as := by simpa using ra
    exact ht s a its.toArray x xs as _ ht' ra' ak fun i v h' tk bs => fin rv ra' i v h' tk bs
theorem call_minD (hc : X.calm = true) (hh : X.A.handled = none) (hu : X.A.units + 70 < cLine) : CallR X (.builtin "min") (rMM X.K PySem.W.minD) :=
  mm_of hc hu (fun s l vs x xs as Q hl ra ak q => PySem.W.min_list_data hh hl ra ak.1 (by have := ak.2; omega) q)
    fun s l vs x xs as Q hl ra ak q => PySem.W.min_tuple_data hh hl ra ak.1 (by have := ak.2; omega) q
theorem call_maxD (hc : X.calm = true) (hh : X.A.handled = none) (hu : X.A.units + 70 < cLine) : CallR X (.builtin "max") (rMM X.K PySem.W.maxD) :=
  mm_of hc hu (fun s l vs x xs as Q hl ra ak q => PySem.W.max_list_data hh hl ra ak.1 (by have := ak.2; omega) q)
    fun s l vs x xs as Q hl ra ak q => PySem.W.max_tuple_data hh hl ra ak.1 (by have := ak.2; omega) q
/-! sorted of data -/
theorem eachIs_of {α β γ : Type} {R : α → γ → Prop} {f : β → γ} : ∀ {as : List α} {bs : List β}, PySem.W.EachIs (fun a b => R a (f b)) as bs → Paired R as (bs.map f)
  | _, _, .nil => .nil
  | _, _, .cons h t => .cons h (eachIs_of t)
theorem eachIs_mk {F : Addr → Prop} {H : Hp} : ∀ {ws : List V} {ps : List PyData} {us : List Value}, RepPs F H ws ps → Vals ws us → PySem.W.EachIs (fun u (b : V × PyData) => RelV b.1 u ∧ RepP F H b.1 b.2) us (ws.zip ps)
  | _, _, _, .nil, .nil => .nil
  | _, _, _, .cons h t, .cons r s => .cons ⟨r, h⟩ (eachIs_mk t s)
def rSortD (K : PySem.W.Frag) (F : Addr → Prop) : List V → Hp → VK → Prop := fun vs H Q => ∃ (a : Addr) (ws : List V) (ps : List PyData), vs = [.ref a] ∧ H a = some (.lst ws) ∧ RepPs F H ws ps ∧ (∀ x ∈ ps, ∀ y ∈ ps, PySem.W.alike x y = true) ∧ Sortb ps ∧ PyData.depthAll ps ≤ 60 ∧
  ∀ ws' p, H p = none → RepPs F H ws' (sortD ps) → ws'.length = ws.length → Q (.ref p) (upd H p (.lst ws'))
theorem zip_snd : ∀ {ws : List V} {ps : List PyData}, ws.length = ps.length → (ws.zip ps).map (·.2) = ps
  | [], [], _ => rfl
  | _ :: ws, _ :: ps, h => by
    simp only [List.zip_cons_cons, List.map_cons]
    rw [zip_snd (by simpa using h)]
  | [], _ :: _, h => by simp at h
  | _ :: _, [], h => by simp at h
theorem repPs_zip {F : Addr → Prop} {H : Hp} : ∀ {bs : List (V × PyData)}, (∀ b ∈ bs, RepP F H b.1 b.2) → RepPs F H (bs.map (·.1)) (bs.map (·.2))
  | [], _ => .nil
  | b :: bs, h => .cons (h b List.mem_cons_self) (repPs_zip fun c hc => h c (List.mem_cons_of_mem _ hc))
theorem merge_map {ws : List (V × PyData)} : (ws.mergeSort (PySem.W.dataLe false (·.2))).map (·.2) = sortD (ws.map (·.2)) := by
  unfold sortD
  exact List.map_mergeSort (s := PySem.W.dataLe false id) fun a _ b _ => rfl
theorem depth_mem : ∀ {ps : List PyData} {p : PyData}, p ∈ ps → p.depth ≤ PyData.depthAll ps
  | q :: ps, p, h => by
    rw [PyData.depthAll]
    rcases List.mem_cons.mp h with e | h
    · subst e
      exact Nat.le_max_left _ _
    · exact Nat.le_trans (depth_mem h) (Nat.le_max_right _ _)
theorem cr_sortD {F : Addr → Prop} (hu : X.A.units + 70 < cLine) : CallR X (.builtin "sorted") (rSortD X.K F) := by
  intro pins s σ H vs us Q I r h
  obtain ⟨a, ws, ps, rfl, ha, rp, al, so, dp, q⟩ := h
  obtain ⟨its, rv, hl, hz⟩ := I.list (SqL.of (K := X.K) ha)
  rw [Vals.ref1 r]
  have hlen := rp.len
  have hm := zip_snd hlen
  obtain ⟨as, ra⟩ := Dp.readsAll I _ _ its (rp.dp (Z := ⟨X.K, fun _ => 0, fun _ => 0, [], fun _ => none⟩)) rv
  have er : PySem.W.EachIs (fun v (b : V × PyData) => ∃ as, Reads s.heap v b.2 as) its (ws.zip ps) := by
    have go : ∀ {ws : List V} {ps : List PyData} {us : List Value} {as : List Addr}, ws.length = ps.length → ReadsAll s.heap us ps as → PySem.W.EachIs (fun v (b : V × PyData) => ∃ as, Reads s.heap v b.2 as) us (ws.zip ps) := by
      intro ws
      induction ws with
      | nil =>
        intro ps us as hl ra
        cases ps with
        | nil => cases ra; exact .nil
        | cons _ _ => simp at hl
      | cons w ws ih =>
        intro ps us as hl ra
        cases ps with
        | nil => simp at hl
        | cons p ps =>
          cases ra with
          | cons r1 r2 => exact .cons ⟨_, r1⟩ (ih (by simpa using hl) r2)
    exact go hlen ra
  have hL : (ws.zip ps).length = ws.length := by rw [List.length_zip, hlen, Nat.min_self]
  refine sorted_b (enc := fun b : V × PyData => b.2) hl.isList (eachIs_mk rp rv) er ?_ ?_ (by rw [hL]; exact hz) (fun b hb => ?_) fun out ho eo => ?_
  · show PySem.W.AllAlike ((ws.zip ps).map (·.2))
    rw [hm]
    exact fun d hd d' hd' => al d hd d' hd'
  · rw [hm]
    exact so
  · have : b.2 ∈ ps := by rw [← hm]; exact List.mem_map.mpr ⟨b, hb, rfl⟩
    have := depth_mem this
    omega
  · obtain ⟨ep, he'⟩ := PyProof.Rows.sortedAll_at s.heap its out.toArray
    have hv : Vals (((ws.zip ps).mergeSort (PySem.W.dataLe false (·.2))).map (·.1)) out := by
      have go : ∀ {bs : List (V × PyData)} {us : List Value}, PySem.W.EachIs (fun u (b : V × PyData) => RelV b.1 u ∧ RepP F H b.1 b.2) us bs → Vals (bs.map (·.1)) us := by
        intro bs us h
        induction h with
        | nil => exact .nil
        | cons h _ ih => exact .cons h.1 ih
      exact go eo
    have hl2 : (((ws.zip ps).mergeSort (PySem.W.dataLe false (·.2))).map (·.1)).length = ws.length := by
      rw [List.length_map, List.length_mergeSort, hL]
    refine ⟨.ref _, upd H (s.heap.objs.size + 1) (.lst (((ws.zip ps).mergeSort (PySem.W.dataLe false (·.2))).map (·.1))), I.laid (t' := s.toks) (fun _ _ => PyProof.Rows.sortedAll_old) (Nat.le_succ _) ⟨by rw [hl2]; exact hz, out, ep, hv, he'⟩, rfl, q _ _ (I.hok.fresh (Nat.le_succ _)) ?_ hl2⟩
    have em : sortD ps = ((ws.zip ps).mergeSort (PySem.W.dataLe false (·.2))).map (·.2) := by rw [merge_map, hm]
    rw [em]
    refine repPs_zip fun b hb => ?_
    have hb' : b ∈ ws.zip ps := (List.mergeSort_perm _ _).mem_iff.mp hb
    have go : ∀ {ws : List V} {ps : List PyData}, RepPs F H ws ps → ∀ b ∈ ws.zip ps, RepP F H b.1 b.2 := by
      intro ws
      induction ws with
      | nil => intro ps _ b hb; simp at hb
      | cons w ws ih =>
        intro ps rp b hb
        cases rp with
        | cons r t =>
          simp only [List.zip_cons_cons, List.mem_cons] at hb
          rcases hb with e | hb
          · subst e
            exact r
          · exact ih t b hb
    exact go rp b hb'
end
end Ev

/-! Built-in functions: the table. -/
namespace Ev
open L2 PyProof.Rows PySem PySem.Spec
section
variable {X : Cx} {Z : Zt}
theorem biS_or {r r' : List V → Hp → VK → Prop} {g g' : Bo} (a : BiS Z r g) (b : BiS Z r' g') : BiS Z (fun xs H Q => r xs H Q ∨ r' xs H Q) (orB g g') := by
  intro F φ H vs xs z Q rx e k
  unfold orB at e
  split at e
  · rename_i z' e'
    cases e
    exact .inl (a F φ H vs xs z Q rx e' k)
  · exact .inr (b F φ H vs xs z Q rx e k)
def rReprD (K : PySem.W.Frag) : List V → Hp → VK → Prop := fun xs H Q => ∃ v p, xs = [v] ∧ Dp K H v p ∧ p.showable = true ∧ p.hasDict = false ∧ p.depth ≤ 60 ∧ p.shown.length ≤ sizeLine ∧ Q (.str p.shown) H
theorem cr_repr (hu : X.A.units + 70 < cLine) (hg : X.A.guards = some []) : CallR X (.builtin "repr") (rReprD X.K) := by
  intro pins s σ H xs us Q I r h
  obtain ⟨v, p, rfl, d, h1, h2, h3, h4, q⟩ := h
  obtain ⟨u, rfl, rx⟩ := vals1 r
  obtain ⟨as, rd⟩ := Dp.reads I p v u d rx
  cases rd with
  | none =>
    exact PySem.P.repr_of_none ⟨.str _, H, I.tok _, ⟨_, rfl⟩, q⟩
  | bool b =>
    exact PySem.P.repr_of_bool ⟨.str _, H, I.tok _, ⟨_, rfl⟩, q⟩
  | int i t =>
    exact PySem.P.repr_of_int (by simpa [PyData.showable] using h1) ⟨.str _, H, I.tok _, ⟨_, rfl⟩, q⟩
  | str x t =>
    exact PySem.P.repr_of_str ⟨.str _, H, I.tok _, ⟨_, rfl⟩, q⟩ h4
  | list a1 a2 a3 a4 =>
    exact PySem.repr_of_reads' (.list a1 a2 a3 a4) h1 (PyData.noDict_hsm h2) hg (by omega) (fun _ _ h => h) (fun h' u tk kp => ⟨.str _, H, I.kept (t' := tk) kp, ⟨u, rfl⟩, q⟩) h4
  | tuple a1 a2 a3 a4 =>
    exact PySem.repr_of_reads' (.tuple a1 a2 a3 a4) h1 (PyData.noDict_hsm h2) hg (by omega) (fun _ _ h => h) (fun h' u tk kp => ⟨.str _, H, I.kept (t' := tk) kp, ⟨u, rfl⟩, q⟩) h4
  | dict => simp [PyData.hasDict] at h2

theorem allI_eq : ∀ {ps : List PyData} {is : List Int}, allI ps = some is → ps = is.map .int
  | [], _, h => by cases h; rfl
  | p :: r, is, h => by
    unfold allI at h
    split at h
    · cases h; rename_i e; cases e
    · rename_i i r' e
      cases e
      split at h
      · rename_i js e
        cases h
        rw [allI_eq e]
        rfl
      · cases h
    · cases h
theorem allB_eq : ∀ {ps : List PyData} {is : List Bool}, allB ps = some is → ps = is.map .bool
  | [], _, h => by cases h; rfl
  | p :: r, is, h => by
    unfold allB at h
    split at h
    · cases h; rename_i e; cases e
    · rename_i i r' e
      cases e
      split at h
      · rename_i js e
        cases h
        rw [allB_eq e]
        rfl
      · cases h
    · cases h
theorem RepPs.ints {F : Addr → Prop} {H : Hp} : ∀ {vs : List V} {is : List Int}, RepPs F H vs (is.map .int) → vs = is.map V.int
  | _, [], h => by cases h; rfl
  | _, i :: is, h => by cases h with | cons a b => cases a; rw [RepPs.ints b]; rfl
theorem RepPs.bls {F : Addr → Prop} {H : Hp} : ∀ {vs : List V} {is : List Bool}, RepPs F H vs (is.map .bool) → vs = is.map V.bl
  | _, [], h => by cases h; rfl
  | _, i :: is, h => by cases h with | cons a b => cases a; rw [RepPs.bls b]; rfl
theorem pr0 {R : V → D → Prop} {vs : List V} (h : Paired R vs []) : vs = [] := by cases h; rfl
theorem alike_all {xs : List PyData} (h : alikeL xs = true) : (∀ x ∈ xs, ∀ y ∈ xs, PySem.W.alike x y = true) ∧ ∀ x ∈ xs, notNone x = true := by
  unfold alikeL at h
  simp only [List.all_eq_true, Bool.and_eq_true] at h
  exact ⟨fun x hx y hy => (h x hx).2 y hy, fun x hx => (h x hx).1⟩
theorem notNone_ne {p : PyData} (h : notNone p = true) : p ≠ .none := fun e => by
  rw [e] at h
  cases h
theorem s_len : BiS Z (fun xs H Q => (∃ x n, xs = [x] ∧ LenV Z.K x H n ∧ Q (.int n) H)) biLen := by
  intro F φ H vs xs z Q rx e k
  unfold biLen at e
  split at e
  · cases e
    obtain ⟨v, rfl, r⟩ := pr1 rx
    obtain ⟨a, ws, rfl, h, rs⟩ := r.tup
    exact ⟨_, ws.length, rfl, .inr ⟨ws, SqT.of h, rfl⟩, by rw [rs.len]; exact k _ _ (.same (rInt _))⟩
  · cases e
    obtain ⟨v, rfl, r⟩ := pr1 rx
    obtain ⟨a, ws, rfl, h, rs⟩ := r.lst
    exact ⟨_, ws.length, rfl, .inl ⟨ws, SqL.of h, rfl⟩, by rw [rs.len]; exact k _ _ (.same (rInt _))⟩
  · cases e
    obtain ⟨v, rfl, r⟩ := pr1 rx
    obtain ⟨a, ws, rfl, h, rs⟩ := r.mt
    exact ⟨_, ws.length, rfl, .inr ⟨ws, SqT.of h, rfl⟩, by rw [rs.len]; exact k _ _ (.same (rInt _))⟩
  · cases e
    obtain ⟨v, rfl, r⟩ := pr1 rx
    obtain ⟨a, ws, rfl, h, rs⟩ := r.ml
    exact ⟨_, ws.length, rfl, .inl ⟨ws, SqL.of h, rfl⟩, by rw [rs.len]; exact k _ _ (.same (rInt _))⟩
  · split at e
    · rename_i hz
      cases e
      obtain ⟨v, rfl, r⟩ := pr1 rx
      exact ⟨v, _, rfl, by rw [r.str]; exact ⟨hz, rfl⟩, k _ _ (.same (rInt _))⟩
    · cases e
  · rename_i ns
    cases e
    obtain ⟨v, rfl, r⟩ := pr1 rx
    obtain ⟨a, rfl, h⟩ := r.scr
    exact ⟨_, ns.length, rfl, .inl ⟨_, h, by simp⟩, k _ _ (.same (rInt _))⟩
  · cases e
theorem s_repr : BiS Z (rReprD Z.K) biRepr := by
  intro F φ H vs xs z Q rx e k
  unfold biRepr at e
  split at e
  · split at e
    · rename_i p hz
      cases e
      obtain ⟨v, rfl, r⟩ := pr1 rx
      simp only [Bool.and_eq_true, decide_eq_true_eq, Bool.not_eq_true'] at hz
      obtain ⟨⟨⟨h1, h2⟩, h3⟩, h4⟩ := hz
      exact ⟨v, p, rfl, r.dp, h1, h2, h3, h4, k _ _ (.same (rStr _))⟩
    · cases e
  · cases e
theorem s_strI : BiS Z (fun xs H Q => ∃ i, xs = [.int i] ∧ i.natAbs.log2 < 1920 ∧ Q (.str (toString i)) H) biStrI := by
  intro F φ H vs xs z Q rx e k
  unfold biStrI at e
  split at e
  · split at e
    · rename_i p hz
      cases e
      obtain ⟨v, rfl, r⟩ := pr1 rx
      exact ⟨_, by rw [r.int], hz, k _ _ (.same (rStr _))⟩
    · cases e
  · cases e
theorem s_strS : BiS Z (fun xs H Q => ∃ a, xs = [.str a] ∧ Q (.str a) H) biStrS := by
  intro F φ H vs xs z Q rx e k
  unfold biStrS at e
  split at e
  · cases e
    obtain ⟨v, rfl, r⟩ := pr1 rx
    exact ⟨_, by rw [r.str], k _ _ (.same (rStr _))⟩
  · cases e
theorem s_intB : BiS Z (fun xs H Q => (∃ i, xs = [.int i] ∧ Q (.int i) H) ∨ ∃ k, xs = [.bl k] ∧ Q (.int (if k then 1 else 0)) H) biInt := by
  intro F φ H vs xs z Q rx e k
  unfold biInt at e
  split at e
  · cases e
    obtain ⟨v, rfl, r⟩ := pr1 rx
    exact .inl ⟨_, by rw [r.int], k _ _ (.same (rInt _))⟩
  · cases e
    obtain ⟨v, rfl, r⟩ := pr1 rx
    exact .inr ⟨_, by rw [r.bl], k _ _ (.same (rInt _))⟩
  · cases e
theorem s_tuple : BiS Z (fun xs H Q => ∃ p ys, xs = [.ref p] ∧ ((SqL Z.K H p ys ∧ ∀ l, H l = none → Q (.ref l) (upd H l (.tup ys))) ∨ (SqT Z.K H p ys ∧ Q (.ref p) H))) biTuple := by
  intro F φ H vs xs z Q rx e k
  unfold biTuple at e
  split at e
  · cases e
    obtain ⟨v, rfl, r⟩ := pr1 rx
    obtain ⟨a, ws, rfl, h, rs⟩ := r.tup
    exact ⟨_, _, rfl, .inr ⟨SqT.of h, k _ _ (.same (.py (.tup h rs)))⟩⟩
  · cases e
    obtain ⟨v, rfl, r⟩ := pr1 rx
    obtain ⟨a, ws, rfl, h, rs⟩ := r.lst
    exact ⟨_, _, rfl, .inl ⟨SqL.of h, fun l hl => k _ _ (.tup hl (.py (.tup upd_same (rs.stay (stay_upd (φ := φ) hl)))))⟩⟩
  · cases e
    obtain ⟨v, rfl, r⟩ := pr1 rx
    obtain ⟨a, ws, rfl, h, rs⟩ := r.ml
    exact ⟨_, _, rfl, .inl ⟨SqL.of h, fun l hl => k _ _ (.tup hl (.mt upd_same (rs.stay (stay_upd hl))))⟩⟩
  · cases e
    obtain ⟨v, rfl, r⟩ := pr1 rx
    obtain ⟨a, ws, rfl, h, rs⟩ := r.mt
    exact ⟨_, _, rfl, .inr ⟨SqT.of h, k _ _ (.same (.mt h rs))⟩⟩
  · cases e
theorem s_list : BiS Z (fun xs H Q => ∃ p ys, xs = [.ref p] ∧ (SqL Z.K H p ys ∨ SqT Z.K H p ys) ∧ ∀ l, H l = none → Q (.ref l) (upd H l (.lst ys))) biList := by
  intro F φ H vs xs z Q rx e k
  unfold biList at e
  split at e
  · cases e
    obtain ⟨v, rfl, r⟩ := pr1 rx
    obtain ⟨a, ws, rfl, h, rs⟩ := r.tup
    exact ⟨_, _, rfl, .inr (SqT.of h), fun l hl => k _ _ (.lst hl ⟨_, upd_same, rs.stay (stay_upd (φ := φ) hl)⟩)⟩
  · cases e
    obtain ⟨v, rfl, r⟩ := pr1 rx
    obtain ⟨a, ws, rfl, h, rs⟩ := r.lst
    exact ⟨_, _, rfl, .inl (SqL.of h), fun l hl => k _ _ (.lst hl ⟨_, upd_same, rs.stay (stay_upd (φ := φ) hl)⟩)⟩
  · cases e
    obtain ⟨v, rfl, r⟩ := pr1 rx
    obtain ⟨a, ws, rfl, h, rs⟩ := r.mt
    exact ⟨_, _, rfl, .inr (SqT.of h), fun l hl => k _ _ (.lst hl ⟨_, upd_same, rs.stay (stay_upd hl)⟩)⟩
  · cases e
    obtain ⟨v, rfl, r⟩ := pr1 rx
    obtain ⟨a, ws, rfl, h, rs⟩ := r.ml
    exact ⟨_, _, rfl, .inl (SqL.of h), fun l hl => k _ _ (.lst hl ⟨_, upd_same, rs.stay (stay_upd hl)⟩)⟩
  · cases e
theorem s_bools {g : List Bool → Bool} : BiS Z (fun vs H Q => ∃ (a : Addr) (bs : List Bool), vs = [V.ref a] ∧ SqL Z.K H a (bs.map V.bl) ∧ Q (.bl (g bs)) H) (biBools g) := by
  intro F φ H vs xs z Q rx e k
  unfold biBools at e
  split at e
  · obtain ⟨bs, e1, e2⟩ := ob_some e
    cases e2
    obtain ⟨v, rfl, r⟩ := pr1 rx
    obtain ⟨a, ws, rfl, h, rs⟩ := r.lst
    rw [allB_eq e1] at rs
    rw [rs.bls] at h
    exact ⟨a, bs, rfl, SqL.of h, k _ _ (.same (rBl _))⟩
  · cases e
theorem s_sum : BiS Z (rSum Z.K) biSum := by
  intro F φ H vs xs z Q rx e k
  unfold biSum at e
  split at e
  · obtain ⟨bs, e1, e2⟩ := ob_some e
    cases e2
    obtain ⟨v, rfl, r⟩ := pr1 rx
    obtain ⟨a, ws, rfl, h, rs⟩ := r.lst
    rw [allI_eq e1] at rs
    rw [rs.ints] at h
    exact ⟨a, bs, rfl, SqL.of h, k _ _ (.same (rInt _))⟩
  · cases e
theorem s_two {g : Int → Int → Int} : BiS Z (fun xs H Q => ∃ i j, xs = [.int i, .int j] ∧ Q (.int (g i j)) H) (biTwo g) := by
  intro F φ H vs xs z Q rx e k
  unfold biTwo at e
  split at e
  · cases e
    obtain ⟨v, w, rfl, r1, r2⟩ := pr2 rx
    exact ⟨_, _, by rw [r1.int, r2.int], k _ _ (.same (rInt _))⟩
  · cases e
theorem s_mm {g : PyData → List PyData → PyData} (hg : ∀ x xs, g x xs ∈ x :: xs) : BiS Z (rMM Z.K g) (biMM g) := by
  intro F φ H vs xs z Q rx e k
  unfold biMM at e
  have al : ∀ {x : PyData} {xs : List PyData}, (alikeL (x :: xs) && okL (x :: xs)) = true → AlkL (x :: xs) := fun {x xs} h => by
    simp only [Bool.and_eq_true] at h
    exact ⟨⟨fun a ha b hb => (alike_all h.1).1 a ha b hb, fun a ha => notNone_ne ((alike_all h.1).2 a ha)⟩, of_decide_eq_true h.2⟩
  split at e
  · split at e
    · rename_i x xs hz
      cases e
      obtain ⟨v, rfl, r⟩ := pr1 rx
      obtain ⟨a, ws, rfl, h, rs⟩ := r.lst
      refine ⟨a, ws, x, xs, rfl, .inl (SqL.of h), rs.dp, al hz, fun i w h1 h2 => ?_⟩
      obtain ⟨w', h3, r'⟩ := rs.get h2
      rw [h1] at h3
      cases h3
      exact k _ _ (.same (.py r'))
    · cases e
  · split at e
    · rename_i x xs hz
      cases e
      obtain ⟨v, rfl, r⟩ := pr1 rx
      obtain ⟨a, ws, rfl, h, rs⟩ := r.tup
      refine ⟨a, ws, x, xs, rfl, .inr (SqT.of h), rs.dp, al hz, fun i w h1 h2 => ?_⟩
      obtain ⟨w', h3, r'⟩ := rs.get h2
      rw [h1] at h3
      cases h3
      exact k _ _ (.same (.py r'))
    · cases e
  · cases e
theorem s_sortedB (F : Addr → Prop) (φ : List Addr) (H : Hp) (vs : List V) (xs : List D) (z : D × Bool) (Q : VK)
    (rx : Paired (RepR Z F φ H) vs xs) (e : biSorted xs = some z) (k : ∀ u H', New Z F φ H z.1 z.2 u H' → Q u H') : rSortD Z.K F vs H Q := by
  unfold biSorted at e
  split at e
  · split at e
    · rename_i ps hz
      cases e
      obtain ⟨v, rfl, r⟩ := pr1 rx
      obtain ⟨a, ws, rfl, h, rs⟩ := r.lst
      simp only [Bool.and_eq_true, Bool.or_eq_true, List.all_eq_true] at hz
      obtain ⟨⟨h1, h2⟩, h3⟩ := hz
      obtain ⟨g1, g2⟩ := alike_all (by simpa [List.all_eq_true] using h1)
      refine ⟨a, ws, ps, rfl, h, rs, g1, ?_, of_decide_eq_true h3, fun ws' p hp r' hl => k _ _ (.lst hp ⟨_, upd_same, r'.stay (stay_upd (φ := φ) hp)⟩)⟩
      rcases h2 with h2 | h2
      · refine .inl fun d hd => ?_
        have w := h2 d hd
        unfold isTupP at w
        split at w
        · exact ⟨_, rfl⟩
        · cases w
      · refine .inr fun d hd => ?_
        have w := h2 d hd
        unfold noTupP at w
        split at w
        · cases w
        · cases w
        · rename_i n1 n2
          exact ⟨fun z => n2 z, fun xs z => n1 xs z⟩
    · cases e
  · cases e
theorem s_abs : BiS Z (fun xs H Q => ∃ i, xs = [.int i] ∧ Q (.int (if i < 0 then -i else i)) H) biAbs := by
  intro F φ H vs xs z Q rx e k
  unfold biAbs at e
  split at e
  · cases e
    obtain ⟨v, rfl, r⟩ := pr1 rx
    exact ⟨_, by rw [r.int], k _ _ (.same (rInt _))⟩
  · cases e

/-- the built-in's value -/
def biV : Bi → Value
  | .len => .builtin "len" | .repr => .builtin "repr" | .str => .type "str" | .int => .type "int" | .tuple => .type "tuple" | .list => .type "list"
  | .all => .builtin "all" | .any => .builtin "any" | .sum => .builtin "sum" | .min => .builtin "min" | .max => .builtin "max" | .sorted => .builtin "sorted" | .abs => .builtin "abs"
def biN : Bi → Str
  | .len => "len" | .repr => "repr" | .str => "str" | .int => "int" | .tuple => "tuple" | .list => "list"
  | .all => "all" | .any => "any" | .sum => "sum" | .min => "min" | .max => "max" | .sorted => "sorted" | .abs => "abs"
/-- for every standing of the frozen things there is a rule -/
def BiR (X : Cx) (Z : Zt) (f : Value) (g : Bo) : Prop := ∀ F : Addr → Prop, ∃ r, CallR X f r ∧ ∀ (φ : List Addr) (H : Hp) (vs : List V) (xs : List D) (z : D × Bool) (Q : VK),
  Paired (RepR Z F φ H) vs xs → g xs = some z → (∀ u H', New Z F φ H z.1 z.2 u H' → Q u H') → r vs H Q
theorem BiR.of {f : Value} {g : Bo} {r : List V → Hp → VK → Prop} (c : CallR X f r) (s : BiS Z r g) : BiR X Z f g := fun F => ⟨r, c, s F⟩
theorem minD_mem (x : PyData) (xs : List PyData) : PySem.W.minD x xs ∈ x :: xs := by
  unfold PySem.W.minD
  induction xs generalizing x with
  | nil => simp
  | cons y ys ih =>
    rw [List.foldl_cons]
    have w := ih (if PySem.W.dataLt y x then y else x)
    rcases List.mem_cons.mp w with e | h
    · rw [e]
      split
      · simp
      · simp
    · exact List.mem_cons_of_mem _ (List.mem_cons_of_mem _ h)
theorem maxD_mem (x : PyData) (xs : List PyData) : PySem.W.maxD x xs ∈ x :: xs := by
  unfold PySem.W.maxD
  induction xs generalizing x with
  | nil => simp
  | cons y ys ih =>
    rw [List.foldl_cons]
    have w := ih (if PySem.W.dataLt x y then y else x)
    rcases List.mem_cons.mp w with e | h
    · rw [e]
      split
      · simp
      · simp
    · exact List.mem_cons_of_mem _ (List.mem_cons_of_mem _ h)
theorem s_bi (X : Cx) (Z : Zt) (hK : X.K = Z.K) (hc : X.calm = true) (hh : X.A.handled = none) (hu : X.A.units + 70 < cLine) (hg : X.A.guards = some []) (b : Bi) : BiR X Z (biV b) (bi b) := by
  cases b with
  | len => exact .of call_len (by rw [hK]; exact s_len)
  | repr => exact .of (cr_repr hu hg) (by rw [hK]; exact s_repr)
  | str => exact .of (CallR.or call_str_int SkE.call_str_str) (biS_or s_strI s_strS)
  | int => exact .of call_int1 s_intB
  | tuple => exact .of call_tuple_of (by rw [hK]; exact s_tuple)
  | list => exact .of call_list_of (by rw [hK]; exact s_list)
  | all => exact .of (cr_all hc) (by unfold rAll; rw [hK]; exact s_bools)
  | any => exact .of (cr_any hc) (by unfold rAny; rw [hK]; exact s_bools)
  | sum => exact .of (cr_sum hc) (by rw [hK]; exact s_sum)
  | min => exact .of (CallR.or (call_min2 hc) (call_minD hc hh hu)) (biS_or s_two (by rw [hK]; exact s_mm minD_mem))
  | max => exact .of (CallR.or (call_max2 hc) (call_maxD hc hh hu)) (biS_or s_two (by rw [hK]; exact s_mm maxD_mem))
  | sorted => exact fun F => ⟨_, cr_sortD hu, by rw [hK]; exact s_sortedB F⟩
  | abs => exact .of call_abs s_abs
end
end Ev

/-! Lists that are given away. -/
namespace Ev
open L2 PyProof.Rows PySem PySem.Spec
section
variable {Z : Zt} {Eo : XK} {σ : Sx} {p q : Pt} {ρ ρ' : Nv} {M : Mem} {F F' : Addr → Prop} {φ : List Addr} {H H0 : Hp}
theorem stay_grow (m : ∀ b, F b → F' b) : Stay F φ H F' φ H := ⟨m, fun _ _ _ h _ => h, fun _ _ h => h, fun _ _ _ h => h, ⟨[], by simp⟩⟩
/-- the list at a is given away: slots that owned it no longer do -/
structure Gives (ρ ρ' : Nv) (σ : Sx) (a : Addr) : Prop where
  fz : Fz ρ ρ'
  tru : ∀ (i : Nat) (d : D), ρ'[i]? = some (some (d, true)) → ρ[i]? = some (some (d, true)) ∧ σ[i]? ≠ some (some (V.ref a))
  fls : ∀ (i : Nat) (d : D), ρ'[i]? = some (some (d, false)) → ρ[i]? = some (some (d, false)) ∨ ρ[i]? = some (some (d, true)) ∧ σ[i]? = some (some (V.ref a))
theorem Sim.give {a : Addr} {d : D} (s : Sim Z ρ M F φ σ H) (h : OwnR Z F φ H a d) (n : a ∉ φ) (g : Gives ρ ρ' σ a) : Sim Z ρ' M (fun b => F b ∨ b = a) φ σ H := by
  have st : Stay F φ H (fun b => F b ∨ b = a) φ H := stay_grow fun _ h => .inl h
  obtain ⟨vs, hv⟩ := h.lst
  refine ⟨s.g.next st rfl (fun _ _ => rfl) (fun b hb => ?_) s.g.tab, by rw [g.fz.1, s.l.len], fun i d h => ?_, fun i d h => ?_, s.l.ent, fun i j d e b h1 h2 h3 h4 => s.l.inj i j d e b (g.tru i d h1).1 (g.tru j e h2).1 h3 h4⟩
  · rcases hb with hb | hb
    · exact s.g.dom b hb
    · rw [hb, hv]
      exact ⟨fun z => (by cases z), n⟩
  · rcases g.fls i d h with h | ⟨h1, h2⟩
    · obtain ⟨v, e, r⟩ := s.l.sh i d h
      exact ⟨v, e, r.stay st⟩
    · obtain ⟨b, e, r, _, _, _⟩ := s.l.ow i d h1
      rw [h2] at e
      cases e
      exact ⟨_, h2, (r.stay st fun _ h => h).give (.inr rfl)⟩
  · obtain ⟨h1, h2⟩ := g.tru i d h
    obtain ⟨b, e, r, n1, n2, n3⟩ := s.l.ow i d h1
    refine ⟨b, e, r.stay st fun _ h => h, fun z => ?_, n2, n3⟩
    rcases z with z | z
    · exact n1 z
    · rw [z] at e
      exact h2 e
theorem gives_refl {a : Addr} (n : ¬ Own ρ σ a) : Gives ρ ρ σ a := ⟨Fz.refl _, fun i d h => ⟨h, fun z => n ⟨i, d, h, z⟩⟩, fun i d h => .inl h⟩
theorem fz_set {i : Nat} {d : D} (h : ρ[i]? = some (some (d, true))) : Fz ρ (ρ.set i (some (d, false))) := by
  have hi : i < ρ.length := (List.getElem?_eq_some_iff.mp h).1
  refine ⟨by simp, fun j => ⟨fun e => ?_, fun d' fl e => ?_⟩⟩
  · rw [List.getElem?_set]
    split
    · rename_i q
      subst q
      rw [h] at e; cases e
    · exact e
  · rw [List.getElem?_set]
    split
    · rename_i q
      subst q
      rw [h] at e
      cases e
      exact ⟨false, rfl, fun z => by cases z⟩
    · exact ⟨fl, e, fun z => z⟩
theorem gives_set {i : Nat} {d : D} {a : Addr} (l : LSim Z ρ F φ σ H) (h : ρ[i]? = some (some (d, true))) (e : σ[i]? = some (some (V.ref a))) : Gives ρ (ρ.set i (some (d, false))) σ a := by
  have hi : i < ρ.length := (List.getElem?_eq_some_iff.mp h).1
  refine ⟨fz_set h, fun j d' h' => ?_, fun j d' h' => ?_⟩
  · rw [List.getElem?_set] at h'
    split at h'
    · cases h'
    · rename_i q
      exact ⟨h', fun z => q (l.inj i j d d' a h h' e z)⟩
  · rw [List.getElem?_set] at h'
    split at h'
    · rename_i q
      subst q
      cases h'
      exact .inr ⟨h, e⟩
    · exact .inl h'
/-- one value given away -/
theorem give1 {m : Md} {v : V} {d : D} (x : Via σ p q) (sp : p.Sim Z σ) (sq : q.Sim Z σ) (h : RepT Z p.H q.ρ σ q.F q.φ q.H m v d) :
    ∃ F' : Addr → Prop, (∀ b, q.F b → F' b) ∧ (∀ b, F' b → q.F b ∨ (m = .fr ∧ v = .ref b) ∨ Own q.ρ σ b) ∧ Fz q.ρ (fz m q.ρ) ∧ Via σ p ⟨fz m q.ρ, q.M, F', q.φ, q.H⟩ ∧ Sim Z (fz m q.ρ) q.M F' q.φ σ q.H ∧ Rep Z F' q.φ q.H v d := by
  have via : ∀ {F' : Addr → Prop} {ρ' : Nv}, Fz q.ρ ρ' → (∀ b, q.F b → F' b) → (∀ b, F' b → q.F b ∨ p.H b = none ∨ Own p.ρ σ b) → Via σ p ⟨ρ', q.M, F', q.φ, q.H⟩ := fun {F' ρ'} f mo nw =>
    ⟨⟨x.post.ext, x.post.keep, fun b hb => mo b (x.post.mono b hb), fun b hb => by
      rcases nw b hb with z | z | z
      · exact x.post.new b z
      · exact .inr (.inl z)
      · exact .inr (.inr z), x.post.dom⟩, x.fz.trans f⟩
  cases m with
  | sh => exact ⟨q.F, fun _ h => h, fun _ h => .inl h, Fz.refl _, x, sq, h⟩
  | fr =>
    obtain ⟨a, rfl, r, n1, n2, n3, n4⟩ := h
    refine ⟨fun b => q.F b ∨ b = a, fun _ h => .inl h, fun b hb => hb.imp id fun e => .inl ⟨rfl, by rw [e]⟩, Fz.refl _, via (Fz.refl _) (fun _ h => .inl h) fun b hb => hb.imp id fun e => .inl (by rw [e]; exact n4), Sim.give sq r n2 (gives_refl n3), ?_⟩
    exact (r.stay (stay_grow fun _ h => .inl h) fun _ h => h).give (.inr rfl)
  | bo i =>
    obtain ⟨h1, fl, h2⟩ := h
    cases fl with
    | false =>
      have e : fz (.bo i) q.ρ = q.ρ := by
        show unown q.ρ i = _
        unfold unown
        rw [h2]
      rw [e]
      obtain ⟨v', e', r⟩ := sq.l.sh i d h2
      rw [h1] at e'
      cases e'
      exact ⟨q.F, fun _ h => h, fun _ h => .inl h, Fz.refl _, x, sq, r⟩
    | true =>
      have e : fz (.bo i) q.ρ = q.ρ.set i (some (d, false)) := by
        show unown q.ρ i = _
        unfold unown
        rw [h2]
      rw [e]
      obtain ⟨a, e', r, n1, n2, _⟩ := sq.l.ow i d h2
      rw [h1] at e'
      cases e'
      have ow : Own q.ρ σ a := ⟨i, d, h2, h1⟩
      refine ⟨fun b => q.F b ∨ b = a, fun _ h => .inl h, fun b hb => hb.imp id fun e => .inr (by rw [e]; exact ow), fz_set h2, via (fz_set h2) (fun _ h => .inl h) fun b hb => hb.imp id fun e => .inr (by rw [e]; exact x.fz.own sp.l.len ow), Sim.give sq r n2 (gives_set sq.l h2 h1), ?_⟩
      exact (r.stay (stay_grow fun _ h => .inl h) fun _ h => h).give (.inr rfl)
theorem RepT.grow {m : Md} {v : V} {d : D} {O : Addr → Prop} (h : RepT Z H0 ρ σ F φ H m v d) (f : Fz ρ ρ') (mo : ∀ b, F b → F' b) (nw : ∀ b, F' b → F b ∨ O b) (hl : ρ.length = σ.length) (no : ∀ a, m = .fr → v = .ref a → ¬ Own ρ σ a → ¬ O a) : RepT Z H0 ρ' σ F' φ H m v d := by
  cases m with
  | sh => exact Rep.stay (stay_grow mo) h
  | bo i =>
    obtain ⟨h1, fl, h2⟩ := h
    obtain ⟨fl', h3, _⟩ := (f.2 i).2 d fl h2
    exact ⟨h1, fl', h3⟩
  | fr =>
    obtain ⟨a, e, r, n1, n2, n3, n4⟩ := h
    exact ⟨a, e, r.stay (stay_grow mo) fun _ h => h, fun z => (nw a z).elim n1 (no a rfl e n3), n2, fun z => n3 (f.own hl z), n4⟩
theorem RepTs.grow {O : Addr → Prop} (f : Fz ρ ρ') (mo : ∀ b, F b → F' b) (nw : ∀ b, F' b → F b ∨ O b) (hl : ρ.length = σ.length) : ∀ {vs : List V} {ds : List (D × Md)}, RepTs Z H0 ρ σ F φ H vs ds →
    (∀ (j : Nat) (d : D × Md) (a : Addr), ds[j]? = some d → d.2 = .fr → vs[j]? = some (V.ref a) → ¬ Own ρ σ a → ¬ O a) → RepTs Z H0 ρ' σ F' φ H vs ds
  | [], [], _, _ => trivial
  | _ :: _, d :: _, h, k => ⟨h.1.grow f mo nw hl fun a e1 e2 => k 0 d a rfl e1 (by rw [e2]; rfl), h.2.1, RepTs.grow f mo nw hl h.2.2 fun j d' a e1 e2 e3 => k (j + 1) d' a (by simpa using e1) e2 (by simpa using e3)⟩
  | [], _ :: _, h, _ => h.elim
  | _ :: _, [], h, _ => h.elim
/-- all are given away -/
theorem gives {M : Mem} {φ : List Addr} {H : Hp} : ∀ {ds : List (D × Md)} {vs : List V} {ρ : Nv} {F : Addr → Prop}, Via σ p ⟨ρ, M, F, φ, H⟩ → p.Sim Z σ → Sim Z ρ M F φ σ H → RepTs Z p.H ρ σ F φ H vs ds →
    ∃ F' : Addr → Prop, (∀ b, F b → F' b) ∧ Via σ p ⟨fzs ds ρ, M, F', φ, H⟩ ∧ Sim Z (fzs ds ρ) M F' φ σ H ∧ Reps Z F' φ H vs (ds.map (·.1))
  | [], [], ρ, F, x, _, sq, _ => ⟨F, fun _ h => h, x, sq, .nil⟩
  | d :: ds, v :: vs, ρ, F, x, sp, sq, h => by
    obtain ⟨h1, h2, h3⟩ := h
    obtain ⟨F1, mo, nw, f, x1, s1, r⟩ := give1 (q := ⟨ρ, M, F, φ, H⟩) x sp sq h1
    have h4 : RepTs Z p.H (fz d.2 ρ) σ F1 φ H vs ds := RepTs.grow f mo nw sq.l.len h3 fun j d' a e1 e2 e3 n z => by
      rcases z with ⟨z1, z2⟩ | z
      · exact h2 a z1 z2 j d' e1 e2 e3
      · exact n z
    obtain ⟨F2, mo2, x2, s2, rs⟩ := gives x1 sp s1 h4
    exact ⟨F2, fun b hb => mo2 b (mo b hb), x2, s2, .cons (r.stay (stay_grow mo2)) rs⟩
  | [], _ :: _, _, _, _, _, _, h => h.elim
  | _ :: _, [], _, _, _, _, _, h => h.elim
end
end Ev

/-! enumerate of a tuple. -/
namespace Ev
open L2 PyProof.Rows PySem PySem.Spec
open AutoSeq1 (wpAny_loadPart')
theorem enum_newT (l : Addr) (us : Array Value) (n : Nat) (od : Option Addr) (sl : Array (Option Value)) :
    Meets (Builtin.«enumerate.__new__» ⟨[.type "enumerate", .ref l], []⟩) (fun _ R s => s.heap.get? l = some { cls := .type "tuple", dict := od, data := .seq us n, slots := sl } ∧
      R (.ok (.ret (.ref (s.heap.push { cls := .type "tuple_iterator", data := .fields #[.ref l, .int 0 0] }).objs.size)))
        { s with heap := (s.heap.push { cls := .type "tuple_iterator", data := .fields #[.ref l, .int 0 0] }).push { cls := .type "enumerate", data := .fields #[.none, .bool false, .ref s.heap.objs.size, rawInt 0, .none, .none] } }) :=
  .of_wp fun prog w A R s h => by
    obtain ⟨hp, gg, dr, tk, os⟩ := s
    obtain ⟨hl, h⟩ := h
    have sube := sub_enumerate
    have hT : Heap.IsTuple (Shared.heap ⟨hp, gg, dr, tk, os⟩) l us := ⟨_, hl, rfl, n, rfl⟩
    wp_walk using wpAny_loadPart' hl
    refine wpAny_stack_any fun st => wpAny_pure ?_
    split
    · rename_i c _ _ _ _ _
      cases (c == Value.type "enumerate")
      · wp_walk using wpAny_loadPart' hl, wpAny_pyIter_tuple hT
        exact ⟨_, rfl, h⟩
      · wp_walk using wpAny_loadPart' hl, wpAny_pyIter_tuple hT
        exact ⟨_, rfl, h⟩
    · wp_walk using wpAny_loadPart' hl, wpAny_pyIter_tuple hT
      exact ⟨_, rfl, h⟩
section
variable {P : Program} {W : World} {A : Around} {E : Value → Shared → Prop} {s : Shared}
theorem enum_tup {l : Addr} {us : Array Value} {Q : Value → Shared → Prop} (hT : s.heap.IsTuple l us)
    (q : ∀ h', IsEnum h' (s.heap.objs.size + 1) s.heap.objs.size 0 .none → h'.IsTupleIter s.heap.objs.size l 0 → (∀ b o, s.heap.get? b = some o → h'.get? b = some o) → Q (.ref (s.heap.objs.size + 1)) { s with heap := h' }) :
    wpAny (model P W) A (call (.type "enumerate") [.ref l]) Q E s := by
  obtain ⟨⟨c, od, dt, sl⟩, hl, hc, n, hd⟩ := hT
  replace hc : c = .type "tuple" := hc
  replace hd : dt = .seq us n := hd
  subst hc
  subst hd
  refine callType_new F.called_enumerate (by decide) (F.typeCall_enumerate_1 _) (F.newCall_enumerate_1 _) (fun ob => F.args_object_init_2 ob _) F.entry_enumerate_new (enum_newT l us n od sl) ⟨hl, ?_⟩
  have z : (s.heap.push { cls := .type "tuple_iterator", data := .fields #[.ref l, .int 0 0] }).objs.size = s.heap.objs.size + 1 := Heap.size_push ..
  show _ ∧ _
  rw [z]
  have e : IsEnum ((s.heap.push { cls := .type "tuple_iterator", data := .fields #[.ref l, .int 0 0] }).push
      { cls := .type "enumerate", data := .fields #[.none, .bool false, .ref s.heap.objs.size, rawInt 0, .none, .none] }) (s.heap.objs.size + 1) s.heap.objs.size 0 .none := by
    have w := Heap.get?_push_size (s.heap.push { cls := .type "tuple_iterator", data := .fields #[.ref l, .int 0 0] })
      (o := { cls := .type "enumerate", data := .fields #[.none, .bool false, .ref s.heap.objs.size, rawInt 0, .none, .none] }) rfl
    rw [z] at w
    exact w
  exact ⟨⟨_, e, rfl⟩, q _ e ⟨_, Heap.get?_push_of_some _ (Heap.get?_push_size _ rfl), rfl, rfl⟩ fun b o x => Heap.get?_push_of_some _ (Heap.get?_push_of_some _ x)⟩
end
/-- the tuple at a, each item in a new pair -/
def IteT (K : PySem.W.Frag) (a : Addr) : It where
  go := fun i H => ∃ (xs : List V) (x : V), SqT K H a xs ∧ xs[i]? = some x
  yld := fun i H v H' => ∃ T x, v = .ref T ∧ H T = none ∧ H' = upd H T (.tup [.int (i : Nat), x]) ∧ ∀ xs, SqT K H a xs → xs[i]? = some x
  stop := fun i H => ∃ xs : List V, SqT K H a xs ∧ xs.length = i

theorem turn_enT {P : Program} {W : World} {K : PySem.W.Frag} {elts : List Expr} {kk : Nat} {tp : Pos} (a e it : Addr) (hai : a ≠ it) :
    Turn P W K (.Tuple elts kk tp) (IteT K a) [e, it] e (fun i h => (∃ old, IsEnum h e it ((i : Nat) : Int) old) ∧ h.IsTupleIter it a i ∧ e ≠ it) where
  mem := by simp
  obj := fun i h st b hb => by
    obtain ⟨⟨old, he⟩, ⟨o, ho, hc, hd⟩, _⟩ := st
    rcases (show b = e ∨ b = it by simpa using hb) with z | z
    · rw [z]
      exact ⟨_, he, fun v q => nomatch q⟩
    · rw [z]
      exact ⟨o, ho, fun v q => by rw [hd] at q; cases q⟩
  keep := fun i h h' st k => by
    obtain ⟨⟨old, he⟩, hi, hne⟩ := st
    exact ⟨⟨old, k e (by simp) _ he⟩, hi.at fun o q => k it (by simp) o q, hne⟩
  item := by
    intro X hP hw hK hc i pins s σ H E I hf st hg
    subst hP
    subst hw
    subst hK
    obtain ⟨⟨old, he⟩, hit, hne⟩ := st
    obtain ⟨xs, x, hq, hx⟩ := hg
    obtain ⟨its, rv, p, hz⟩ := I.tuple hq
    obtain ⟨u, hu, ru⟩ := rv.get hx
    have hel : e < s.heap.objs.size := Heap.lt_size he
    have hil : it < s.heap.objs.size := by
      obtain ⟨_, q, _⟩ := hit
      exact Heap.lt_size q
    have hea : e ≠ a := fun z => by
      obtain ⟨o, q1, q2, _⟩ := p
      rw [← z, he] at q1
      rw [← Option.some.inj q1] at q2
      simp at q2
    have hlt : i < its.toArray.size := by
      have := (List.getElem?_eq_some_iff.mp hu).1
      simpa using this
    refine wpAny_pyNext_enum_itemD (Draws.tuple (A := X.A.in1) (I.ok.hd hc) it a hai its.toArray) he ⟨hit, p⟩ hlt hne (by simp [hne, hea]) fun y h' tk hy ho hit' hT hsz hk => ?_
    have ey : y = u := by
      have w : its.toArray[i]? = some u := by simpa using hu
      rw [w] at hy
      exact (Option.some.inj hy).symm
    subst ey
    refine ⟨_, rfl, wpAny_letOwnedTupleGo_enum (s := { s with heap := h', toks := tk + 1 }) ho fun h2 he2 sb => ?_⟩
    have hT2 : h2.get? s.heap.objs.size = some { cls := .type "tuple", data := .seq #[.int i tk, y] } := (sb.2 _ (Nat.ne_of_gt hel)).trans hT
    have nw : ObjOk X.prog X.w (upd H s.heap.objs.size (.tup [.int (i : Nat), x])) h2 s.heap.objs.size (.tup [.int (i : Nat), x]) :=
      ⟨by show 2 ≤ sizeLine; decide, [.int i tk, y], .cons ⟨_, rfl⟩ (.cons ru .nil), ⟨_, hT2, rfl, _, rfl⟩⟩
    have I1 : Inv X pins σ (upd H s.heap.objs.size (.tup [.int (i : Nat), x])) { s with heap := h2, toks := tk + 1 } :=
      I.turnedNew (ch := [it, e]) (fun b ob hb q => (sb.2 b (fun z => hb (by simp [z]))).trans (hk b ob (fun z => hb (by simp [z])) (fun z => hb (by simp [z])) q)) (fun b hb => hf b (by simpa [or_comm] using hb)) (Nat.le_refl _) nw
    refine ⟨.ref s.heap.objs.size, _, I1, rfl, ⟨_, x, rfl, I.hok.fresh (Nat.le_refl _), rfl, fun ys hy => by rw [I.tuple_inj hy hq]; exact hx⟩, ⟨⟨y, ?_⟩, hit'.1.at fun o q => (sb.2 it (Ne.symm hne)).trans q, hne⟩, fun b hb => ?_⟩
    · have e1 : ((i + 1 : Nat) : Int) = (i : Int) + 1 := by omega
      rw [e1]
      exact he2
    · have hb' : b < s.heap.objs.size := by
        rcases (show b = e ∨ b = it by simpa using hb) with z | z
        · rw [z]
          exact hel
        · rw [z]
          exact hil
      rw [upd_ne (Nat.ne_of_lt hb')]
      exact (hf b hb).1
  done := by
    intro X hP hw hK hc i pins s σ H E I hf st hg
    subst hP
    subst hw
    subst hK
    obtain ⟨⟨old, he⟩, hit, hne⟩ := st
    obtain ⟨xs, hq, hx⟩ := hg
    obtain ⟨its, rv, p, hz⟩ := I.tuple hq
    have hl : i = its.toArray.size := by
      have := rv.length
      simp only [List.size_toArray]
      omega
    subst hl
    refine wpAny_pyNext_enum_endD (Draws.tuple (A := X.A.in1) (I.ok.hd hc) it a hai its.toArray) he ⟨hit, p⟩ fun h' eb => ?_
    obtain ⟨f0, f1, f2, f3, f4, f5⟩ := hf it (by simp)
    exact ⟨rfl, I.turned (t' := s.toks) (fun b o hb q => eb b o hb q) f0 f1 f3 f4 f5⟩
  self := fun A i s Q E st h => by
    obtain ⟨⟨_, he⟩, _⟩ := st
    exact wpAny_pyIter_enum he h

def iEnT (K : PySem.W.Frag) (ta : TA) : TI := fun σ H R => ta σ H fun vs H1 => ∃ a xs, vs = [.ref a] ∧ ((SqL K H1 a xs ∧ R (Ite K a) H1) ∨ (SqT K H1 a xs ∧ R (IteT K a) H1))
theorem pi_enA {X : Cx} {e : Expr} {ta : TA} {p pos tp : Pos} {elts : List Expr} {kk : Nat} (hg : Gl X "enumerate") (hm : X.mg "enumerate" = none) (ha : PA X [e] ta) (hs : starEach [e] X.env = [(false, eval e X.env)]) :
    PI X (.Tuple elts kk tp) (.Call (.Name "enumerate" p) [e] [] pos) (iEnT X.K ta) := by
  refine ⟨fun pins s σ H R I h => ?_⟩
  refine Call_ (ld_blt I hg hm boot_enumerate (PyProof.Rows.callWith_type1 (thn (ha.run pos pins s σ H _ I h) fun us s1 ⟨vs, H1, I1, r1, q1⟩ => ?_) hs rfl))
  obtain ⟨a, xs, ex, q1⟩ := q1
  subst ex
  cases r1 with
  | cons r rr =>
    cases rr
    cases r
    have fp : ∀ b, b ∈ [s1.heap.objs.size + 1, s1.heap.objs.size] → FpOk X pins H1 b := fun b hb => by
      have hle : s1.heap.objs.size ≤ b := by
        rcases (show b = s1.heap.objs.size + 1 ∨ b = s1.heap.objs.size by simpa using hb) with z | z <;> omega
      exact I1.fpOk hle (I1.hok.fresh hle)
    rcases q1 with ⟨hq, q⟩ | ⟨hq, q⟩
    · obtain ⟨its, rv, pl, hz⟩ := I1.list hq
      refine call_enumerate_list pl.isList fun h' he hit hsz hk => wpAny_pyIter_enum he ?_
      exact ⟨s1.heap.objs.size + 1, [s1.heap.objs.size + 1, s1.heap.objs.size], _, _, H1, rfl, I1.kept (t' := s1.toks) hk, turn_enum a (s1.heap.objs.size + 1) s1.heap.objs.size, ⟨⟨.none, he⟩, hit, Nat.succ_ne_self _⟩, fp, q⟩
    · obtain ⟨its, rv, pl, hz⟩ := I1.tuple hq
      have hne : a ≠ s1.heap.objs.size := fun z => by
        obtain ⟨o, q1, _⟩ := id pl
        have w := Heap.lt_size q1
        rw [z] at w
        exact Nat.lt_irrefl _ w
      refine enum_tup pl fun h' he hit hk => wpAny_pyIter_enum he ?_
      exact ⟨s1.heap.objs.size + 1, [s1.heap.objs.size + 1, s1.heap.objs.size], _, _, H1, rfl, I1.kept (t' := s1.toks) hk, turn_enT a (s1.heap.objs.size + 1) s1.heap.objs.size hne, ⟨⟨.none, he⟩, hit, Nat.succ_ne_self _⟩, fp, q⟩
end Ev

/-! The text of the def that hears; a place in which lambdas are made. -/
namespace Ev
open L2 PyProof.Rows PySem PySem.Spec
abbrev heN : List Str := ["call", "caught", "back", "error"]
def heSc : Scope := { kind := .function, names := [("call", .local), ("caught", .local), ("back", .local), ("error", .local), ("WashError", .globalImplicit)], isGenerator := false, isCoroutine := false, more := [] }
def heBody (q : Nat → Pos) : List Stmt := [
  .Assign [.Tuple [.Name "caught" (q 0), .Name "back" (q 1)] 0 (q 2)] (.Tuple [.Constant .none 0 (q 3), .Constant .none 0 (q 4)] 0 (q 5)) (q 6),
  .Try [.Assign [.Name "back" (q 7)] (.Call (.Name "call" (q 8)) [] [] (q 9)) (q 10)] [.ExceptHandler (some (.Name "WashError" (q 11))) (some "error") [.Assign [.Name "caught" (q 12)] (.Name "error" (q 13)) (q 14)] (q 15)] [] [] (q 16),
  .Return (some (.Tuple [.Name "caught" (q 17), .Name "back" (q 18)] 0 (q 19))) (q 20)]
/-- what is known of it -/
structure HearD (K : PySem.W.Frag) (mg : Str → Option Value) (Z : Zt) : Prop where
  ex : ∃ (g CS : Addr) (fd : FuncData) (params : Arguments) (q : Nat → Pos), FunD K "_law_heard" "_law_heard" params (heBody q) heSc [] [] g fd ∧ Binds K fd ["call"] [] ∧ mg "_law_heard" = some (.ref g) ∧ mg "WashError" = some (.ref CS) ∧ (∀ c, PySem.W.exmOne K (.ref (Z.ca c)) (.ref CS) = some true) ∧ (q 1).line = (q 0).line
/-- what is known of the first n classes of errors -/
structure ErrD (K : PySem.W.Frag) (Z : Zt) (n : Nat) : Prop where
  ec : ∀ e, ExcC K (Z.ca e)
  xf : ∀ e, XfC K (Z.ca e)
  nv : ∀ e, PySem.W.findIn K (.ref (Z.ca e)) valK = some none
  kit : ∀ e c, c < n → PySem.W.kitOne K (.ref (Z.ca e)) (.ref (Z.ca c)) = some (e == c || c == 0)
  kv : ∀ e, PySem.W.kitOne K (.ref (Z.ca e)) (.type "ValueError") = some true
  kn : ∀ c, c < n → PySem.W.kitOne K (.type "NoneType") (.ref (Z.ca c)) = some false
/-- a place in which lambdas are made -/
structure LamOk (X : Cx) (Z : Zt) : Prop where
  hd : HearD X.K X.mg Z
  ex : ∃ c P : Addr, LamX.TabB X.base X.mg c P ∧ X.env.code = .ref c ∧ (P, X.env.qual ++ "<lambda>") ∈ Z.T ∧ ∀ p ∈ Z.T, p.1 = P → p.2 = X.env.qual ++ "<lambda>"
end Ev

/-! What a place of the text offers; single rules. -/
namespace Ev
open L2 PyProof.Rows PySem PySem.Spec
/-! ### defs -/
/-- a def's promise where no guard stands around -/
structure FnG (P : Program) (w : World) (K : PySem.W.Frag) (mg : Str → Option Value) (base : Heap) (k : Nat) (f : Addr) (fd : FuncData) (ps : List Str) (sp : Sp) : Prop where
  len : ∀ vs H Q E, sp vs H Q E → vs.length = ps.length
  run : ∀ (A : Around) (outer : List Env) (s : Shared) (H : Hp) (args : Args) (us : List Value) (vs : List V) (Q : VK) (E : XK), Room k A → A.guards = some [] → Env0 P w K mg base A outer s H → BindsTo s fd args (ps.zip us) → Vals vs us → sp vs H Q E →
    codeAny (model P w) A (.call (.ref f) args) (CR (L2.CX P w) outer P w H s Q E) s
/-- a value that comes back: one that stands, or a list that is new since H0 -/
def RepO (Z : Zt) (H0 : Hp) (F : Addr → Prop) (φ : List Addr) (H : Hp) (fr : Bool) (v : V) (d : D) : Prop :=
  if fr = true then ∃ a, v = .ref a ∧ OwnR Z F φ H a d ∧ ¬ F a ∧ a ∉ φ ∧ H0 a = none else Rep Z F φ H v d
def DoneF (Z : Zt) (F : Addr → Prop) (φ : List Addr) (H : Hp) (Q : VK) (E : XK) : Rz Ov → Prop
  | .ok o => ∀ (F' : Addr → Prop) φ' H' v, Post no1 no1 F φ H F' φ' H' → GSim Z o.M F' φ' H' → RepO Z H F' φ' H' o.fr v o.d → Q v H'
  | .er c p M => ∀ (q : Pt) da, Post no1 no1 F φ H q.F q.φ q.H → Err Z c p M q da → E (.ref (Z.ca c)) (some da) q.H
/-- a def's promise by its evaluation -/
def spF (Z : Zt) (f : Fn) : Sp := fun vs H Q E => ∃ (ds : List D) (M : Mem) (F : Addr → Prop) (φ : List Addr), GSim Z M F φ H ∧ Reps Z F φ H vs ds ∧ ∃ r, f noClo ds M = some r ∧ DoneF Z F φ H Q E r
structure FnX (P : Program) (w : World) (K : PySem.W.Frag) (mg : Str → Option Value) (base : Heap) (Z : Zt) (l k : Nat) (f : Fn) : Prop where
  ex : ∃ fd ps, FnG P w K mg base l (Z.fa k) fd ps (spF Z f) ∧ Binds K fd ps []
  kp : PySem.W.keepIn K (.ref (Z.fa k)) = true

/-! ### a place of the text -/
inductive Gv where
  | int (i : Int) | str (s : Str) | fn (k : Nat) | cls (c : Nat) | free
  deriving DecidableEq
structure Gam where
  N : List Str
  sc : Scope
  G : List (Str × Gv)
  lv : Nat
  lvl : List Nat
  lam : Bool
  nc : Nat
def visB (sc : Scope) (x : Str) : Bool := sc.names.lookup x == some .local || sc.names.lookup x == some .cell || sc.names.lookup x == some .free
def GOk (X : Cx) (Z : Zt) (x : Str) : Gv → Prop
  | .int i => ∃ t, X.mg x = some (.int i t)
  | .str s => ∃ t, X.mg x = some (.str s t)
  | .fn k => X.mg x = some (.ref (Z.fa k))
  | .cls c => X.mg x = some (.ref (Z.ca c))
  | .free => X.mg x = none
structure XOk (X : Cx) (Z : Zt) (Γ : Gam) (Fs : List Fn) (Eo : XK) : Prop where
  hK : X.K = Z.K
  calm : X.calm = true
  hh : X.A.handled = none
  hu : X.A.units + 70 < cLine
  hg : X.A.guards = some []
  hN : X.N = Γ.N
  nd : Γ.N.Nodup
  vis : ∀ x, visB Γ.sc x = true → Vis X.env.scope x
  loc : ∀ x, (Γ.sc.names.lookup x = some .local ∨ Γ.sc.names.lookup x = some .cell) → Loc X.env.scope x ∧ (X.fn x = true ∨ X.env.scope.names.lookup x = some .local)
  bk : X.env.blockKind = .function
  fr : ∀ x, (Γ.sc.names.lookup x = some .cell ∨ Γ.sc.names.lookup x = some .free) → (X.env.scope.names.lookup x = some .cell ∨ X.env.scope.names.lookup x = some .free)
  fl : Γ.lvl.length ≤ Fs.length
  ko : ∀ x k, Γ.sc.names.lookup x = some k → (k = .local ∨ k = .cell) → X.env.kindOf x = some k
  gl : ∀ x, Γ.sc.names.lookup x = some .globalImplicit → Gl X x
  gv : ∀ x g, Γ.G.lookup x = some g → GOk X Z x g
  room : Room Γ.lv X.A
  fns : ∀ k f l, Fs[k]? = some f → Γ.lvl[k]? = some l → FnX X.prog X.w X.K X.mg X.base Z l k f
  px : Passes (L2.CX X.prog X.w) X Eo
  lm : Γ.lam = true → LamOk X Z
  er : 0 < Γ.nc → ErrD X.K Z Γ.nc
/-- a def as a thing that is called -/
theorem FnX.callR {X : Cx} {Z : Zt} {l k : Nat} {f : Fn} {E : XK} (F : FnX X.prog X.w X.K X.mg X.base Z l k f) (hr : Room l X.A) (hg : X.A.guards = some []) (hx : Passes (L2.CX X.prog X.w) X E) : CallR X (.ref (Z.fa k)) fun vs H Q => spF Z f vs H Q E := by
  obtain ⟨⟨fd, ps, G, hb⟩, _⟩ := F
  intro pins s σ H vs us Q I r h
  have hl : (us ++ []).length = ps.length := by
    rw [List.append_nil, ← r.length]
    exact G.len _ _ _ _ h
  have hb2 := hb s us I.kIn hl
  rw [List.append_nil] at hb2
  refine wpAny_call (codeAny_mono (G.run X.A X.stack s H ⟨us, []⟩ us vs Q E hr hg I.env0 hb2 r h) fun z s2 hq => ?_)
  cases z with
  | error e => exact hx pins σ H s e s2 I hq
  | ok fl =>
    cases fl with
    | ret u => exact I.after hq
    | next => exact False.elim hq
    | brk => exact False.elim hq
    | cont => exact False.elim hq
section
variable {X : Cx} {r : List V → Hp → VK → Prop} {f : Addr} {x : Str} {p pos : Pos} {e : Expr} {es : List Expr} {t : TA}
theorem pe_callG (hc : CallR X (.ref f) r) (hg : Gl X x) (hm : X.mg x = some (.ref f)) (hk : PySem.W.keepIn X.K (.ref f) = true) (ha : PA X (e :: es) t) (hdb : (x == ("__debug__" : Str)) = false)
    (he : starEach (e :: es) X.env = (false, eval e X.env) :: starEach es X.env) (hpl : (backTo pos (starEach es X.env)).any (·.1) = false) : PE X (.Call (.Name x p) (e :: es) [] pos) (tCB r t) := by
  refine ⟨fun pins s σ H Q I h => ?_⟩
  refine wpAny_Call_Name_kw (ld_glob I hg hm ?_ hdb)
  exact PySem.W.callWith_K (h₀ := X.base) I.ok.mod.kin hk (thn (ha.run pos pins s σ H _ I h) fun us s1 ⟨vs, H1, I1, r1, q1⟩ => ⟨I1.kIn, hc pins s1 σ H1 vs us Q I1 r1 q1⟩) he hpl
/-- a call of what a slot holds -/
theorem pe_callS {i : Nat} (hN : X.N[i]? = some x) (hv : Vis X.env.scope x) (ha : PA X (e :: es) t) (rr : Addr → List V → Hp → VK → Prop) (hc : ∀ f, PySem.W.keepIn X.K (.ref f) = true → CallR X (.ref f) (rr f)) (hdb : (x == ("__debug__" : Str)) = false) (hcd : (x == ("__classdict__" : Str)) = false)
    (he : starEach (e :: es) X.env = (false, eval e X.env) :: starEach es X.env) (hpl : (backTo pos (starEach es X.env)).any (·.1) = false) :
    PE X (.Call (.Name x p) (e :: es) [] pos) (fun σ H Q => ∃ f, σ[i]? = some (some (.ref f)) ∧ PySem.W.keepIn X.K (.ref f) = true ∧ tCB (rr f) t σ H Q) := by
  refine ⟨fun pins s σ H Q I h => ?_⟩
  obtain ⟨f, hs, hk, ht⟩ := h
  refine wpAny_Call_Name_kw (thn ((pe_var (pos := p) hN hv hdb hcd).run pins s σ H (fun v H1 => v = .ref f ∧ H1 = H) I ⟨.ref f, hs, rfl, rfl⟩) fun u s1 ⟨v, H1, I1, r1, q1⟩ => ?_)
  obtain ⟨rfl, rfl⟩ := q1
  cases r1
  exact PySem.W.callWith_K (h₀ := X.base) I.ok.mod.kin hk (thn (ha.run pos pins s1 σ _ _ I1 ht) fun us s2 ⟨vs, H2, I2, r2, q2⟩ => ⟨I2.kIn, hc f hk pins s2 σ H2 vs us Q I2 r2 q2⟩) he hpl
end
/-! ### what the text's forms ask -/
def unst : Expr → Bool
  | .Starred _ _ => false
  | _ => true
theorem star_one {e : Expr} {es : List Expr} {env : Env} (h : unst e = true) : starEach (e :: es) env = (false, eval e env) :: starEach es env := by
  cases e <;> first | rfl | cases h
theorem star_all {env : Env} {pos : Pos} : ∀ {es : List Expr}, es.all unst = true → (backTo pos (starEach es env)).any (·.1) = false
  | [], _ => rfl
  | e :: es, h => by
    simp only [List.all_cons, Bool.and_eq_true] at h
    rw [star_one h.1]
    show (false || (backTo pos (starEach es env)).any (·.1)) = false
    rw [star_all h.2]
    rfl
theorem assign_one {e : Expr} {es : List Expr} {env : Env} (h : unst e = true) : assignEach (e :: es) env = (false, assign e env) :: assignEach es env := by
  cases e <;> first | rfl | cases h
end Ev

/-! One term, then whatever follows. -/
namespace Ev
open L2 PyProof.Rows PySem PySem.Spec
section
variable {Z : Zt} {Eo : XK} {σ : Sx} {p q r : Pt}
/-- what is wanted of an error behind p -/
def ErD (Z : Zt) (Eo : XK) (σ : Sx) (p : Pt) (c : Nat) (v : PyData) (M : Mem) : Prop := ∀ (q : Pt) da, Post (Own p.ρ σ) no1 p.F p.φ p.H q.F q.φ q.H → Err Z c v M q da → Eo (.ref (Z.ca c)) (some da) q.H
/-- a word about what comes: it holds at later places too -/
structure Gd (Z : Zt) (Eo : XK) (σ : Sx) {β : Type} (G : Pt → Rz β → Prop) : Prop where
  er : ∀ p c v M, p.Sim Z σ → G p (.er c v M) → ErD Z Eo σ p c v M
  bs : ∀ p q z, p.Sim Z σ → q.Sim Z σ → Via σ p q → G p z → G q z
theorem ErD.rebase {c : Nat} {v : PyData} {M : Mem} (sp : p.Sim Z σ) (x : Via σ p q) (d : ErD Z Eo σ p c v M) : ErD Z Eo σ q c v M := fun s da y e => d s da (x.posts sp y) e
theorem gdE {Q : VK} : Gd Z Eo σ fun p (z : Rz Vl) => Done Z Eo σ p Q z := ⟨fun _ _ _ _ _ h => h, fun _ _ _ sp _ x d => d.rebase sp x⟩
theorem gdT {Q : Bool → Hp → Prop} : Gd Z Eo σ fun p (z : Rz Vl) => DoneT Z Eo σ p Q z := ⟨fun _ _ _ _ _ h => h, fun _ _ _ sp _ x d => d.rebase sp x⟩
theorem gdL {Q : List V → Hp → Prop} : Gd Z Eo σ fun p (z : Rz Ls) => DoneL Z Eo σ p Q z := ⟨fun _ _ _ _ _ h => h, fun _ _ _ sp _ x d => d.rebase sp x⟩
theorem sqE {β : Type} {G : Pt → Rz β → Prop} (g : Gd Z Eo σ G) {f : Nv → Mem → RE} {k : Vl → Option (Rz β)} {z : Rz β} {Q1 : VK} (sp : p.Sim Z σ) (h : bz (f p.ρ p.M) k = some z) (d : G p z)
    (hk : ∀ (d : D) (m : Md) (q : Pt) (v : V), k ⟨d, m, q.ρ, q.M⟩ = some z → Via σ p q → q.Sim Z σ → RepT Z p.H q.ρ σ q.F q.φ q.H m v d → G q z → Q1 v q.H) : tE Z Eo f σ p.H Q1 := by
  cases e : f p.ρ p.M with
  | none => rw [e] at h; cases h
  | some y =>
    rw [e] at h
    refine ⟨p, rfl, sp, y, e, ?_⟩
    cases y with
    | ok x =>
      obtain ⟨x1, x2, x3, x4⟩ := x
      intro q v e1 e2 y sy rep
      cases e1
      cases e2
      exact hk _ _ q v h y sy rep (g.bs _ _ _ sp sy y d)
    | er c v M =>
      have hz : z = .er c v M := (Option.some.inj h).symm
      subst hz
      exact g.er _ _ _ _ sp d
theorem sqL {β : Type} {G : Pt → Rz β → Prop} (g : Gd Z Eo σ G) {f : Nv → Mem → RL} {k : Ls → Option (Rz β)} {z : Rz β} {Q1 : List V → Hp → Prop} (sp : p.Sim Z σ) (h : bz (f p.ρ p.M) k = some z) (d : G p z)
    (hk : ∀ (ds : List (D × Md)) (q : Pt) (vs : List V), k ⟨ds, q.ρ, q.M⟩ = some z → Via σ p q → q.Sim Z σ → RepTs Z p.H q.ρ σ q.F q.φ q.H vs ds → G q z → Q1 vs q.H) : tL Z Eo f σ p.H Q1 := by
  cases e : f p.ρ p.M with
  | none => rw [e] at h; cases h
  | some y =>
    rw [e] at h
    refine ⟨p, rfl, sp, y, e, ?_⟩
    cases y with
    | ok x =>
      obtain ⟨x1, x2, x3⟩ := x
      intro q v e1 e2 y sy rep
      cases e1
      cases e2
      exact hk _ q v h y sy rep (g.bs _ _ _ sp sy y d)
    | er c v M =>
      have hz : z = .er c v M := (Option.some.inj h).symm
      subst hz
      exact g.er _ _ _ _ sp d
/-- a test -/
theorem sqT {β : Type} {G : Pt → Rz β → Prop} (g : Gd Z Eo σ G) {f : Nv → Mem → RE} {k : Vl → Bool → Option (Rz β)} {z : Rz β} {Q1 : Bool → Hp → Prop} (sp : p.Sim Z σ) (h : bz (f p.ρ p.M) (fun x => ob (tru x.d) (k x)) = some z) (d : G p z)
    (hk : ∀ (d : D) (m : Md) (b : Bool) (q : Pt), tru d = some b → k ⟨d, m, q.ρ, q.M⟩ b = some z → Via σ p q → q.Sim Z σ → G q z → Q1 b q.H) : tT Z Eo f σ p.H Q1 := by
  cases e : f p.ρ p.M with
  | none => rw [e] at h; cases h
  | some y =>
    rw [e] at h
    refine ⟨p, rfl, sp, y, e, ?_⟩
    cases y with
    | ok x =>
      obtain ⟨x1, x2, x3, x4⟩ := x
      obtain ⟨b, e1, e2⟩ := ob_some h
      refine ⟨b, e1, fun q e3 e4 y sy => ?_⟩
      cases e3
      cases e4
      exact hk _ _ b q e1 e2 y sy (g.bs _ _ _ sp sy y d)
    | er c v M =>
      have hz : z = .er c v M := (Option.some.inj h).symm
      subst hz
      exact g.er _ _ _ _ sp d
/-- done right here -/
theorem Done.at {Q : VK} {d : D} {m : Md} {v : V} (h : Done Z Eo σ p Q (.ok ⟨d, m, p.ρ, p.M⟩)) (sp : p.Sim Z σ) (r : RepT Z p.H p.ρ σ p.F p.φ p.H m v d) : Q v p.H := h p v rfl rfl Via.refl sp r
theorem Done.sh {Q : VK} {d : D} {v : V} (h : Done Z Eo σ p Q (.ok ⟨d, .sh, p.ρ, p.M⟩)) (sp : p.Sim Z σ) (r : Rep Z p.F p.φ p.H v d) : Q v p.H := h p v rfl rfl Via.refl sp r
end
theorem vl_some {d : D} {m : Md} {ρ : Nv} {M : Mem} {r : Rz Vl} (h : vl d m ρ M = some r) : r = .ok ⟨d, m, ρ, M⟩ := (Option.some.inj h).symm
theorem gi_some {β : Type} {d : D} {k : Int → Option β} {z : β} (h : gi d k = some z) : ∃ i, d = .py (.int i) ∧ k i = some z := by
  unfold gi at h
  split at h
  · exact ⟨_, rfl, h⟩
  · cases h
theorem gb_some {β : Type} {d : D} {k : Bool → Option β} {z : β} (h : gb d k = some z) : ∃ i, d = .py (.bool i) ∧ k i = some z := by
  unfold gb at h
  split at h
  · exact ⟨_, rfl, h⟩
  · cases h
theorem if_some {α : Type} {c : Prop} [Decidable c] {x : Option α} {z : α} (h : (if c then x else none) = some z) : c ∧ x = some z := by
  split at h
  · exact ⟨‹_›, h⟩
  · cases h
end Ev

/-! Single terms. -/
namespace Ev
open L2 PyProof.Rows PySem PySem.Spec
section
variable {X : Cx} {Z : Zt} {Γ : Gam} {Fs : List Fn} {C : Nv → Clo} {Eo : XK}
/-- a value at hand -/
theorem s_here {e : Expr} {t : TE} {f : Nv → Mem → RE} (hp : PE X e t) (h : ∀ (σ : Sx) (p : Pt) (Q : VK), p.Sim Z σ → ∀ r, f p.ρ p.M = some r → Done Z Eo σ p Q r → t σ p.H Q) : PE X e (tE Z Eo f) :=
  PE.imp hp fun σ H Q q => by
    obtain ⟨p, rfl, sp, r, hr, d⟩ := q
    exact h σ p Q sp r hr d
def litOk : PyData → Expr → Bool
  | .int i, .Constant (.int j) _ _ => i == j
  | .str s, .Constant (.str t) _ _ => s == t
  | .bool b, .Constant (.bool c) _ _ => b == c
  | .none, .Constant .none _ _ => true
  | _, _ => false
theorem s_lit {l : PyData} {e : Expr} (h : litOk l e = true) : PE X e (tE Z Eo (evE Fs C (.lit l))) := by
  unfold litOk at h
  split at h
  · cases beq_iff_eq.mp h
    exact s_here pe_int fun σ p Q sp r hr d => by
      unfold evE at hr
      rw [vl_some hr] at d
      exact d.sh sp (rInt _)
  · cases beq_iff_eq.mp h
    exact s_here pe_str fun σ p Q sp r hr d => by
      unfold evE at hr
      rw [vl_some hr] at d
      exact d.sh sp (rStr _)
  · cases beq_iff_eq.mp h
    exact s_here pe_bl fun σ p Q sp r hr d => by
      unfold evE at hr
      rw [vl_some hr] at d
      exact d.sh sp (rBl _)
  · exact s_here pe_non fun σ p Q sp r hr d => by
      unfold evE at hr
      rw [vl_some hr] at d
      exact d.sh sp (.py .non)
  · cases h
def nmOk (x : Str) : Bool := !(x == ("__debug__" : Str)) && !(x == ("__classdict__" : Str)) && !(x == ("__name__" : Str))
theorem nm_all {x : Str} (h : nmOk x = true) : (x == ("__debug__" : Str)) = false ∧ (x == ("__classdict__" : Str)) = false ∧ x ≠ "__name__" := by
  unfold nmOk at h
  simp only [Bool.and_eq_true, Bool.not_eq_true'] at h
  exact ⟨h.1.1, h.1.2, fun e => by
    have := h.2
    rw [e] at this
    simp at this⟩
/-- the name of slot i -/
def varOk (Γ : Gam) (i : Nat) (x : Str) : Bool := decide (Γ.N[i]? = some x) && visB Γ.sc x && nmOk x
theorem varOk_ok {i : Nat} {x : Str} (ok : XOk X Z Γ Fs Eo) (h : varOk Γ i x = true) : X.N[i]? = some x ∧ Vis X.env.scope x ∧ nmOk x = true := by
  unfold varOk at h
  simp only [Bool.and_eq_true, decide_eq_true_eq] at h
  exact ⟨by rw [ok.hN]; exact h.1.1, ok.vis x h.1.2, h.2⟩
theorem s_var {i : Nat} {x : Str} {pos : Pos} (ok : XOk X Z Γ Fs Eo) (h : varOk Γ i x = true) : PE X (.Name x pos) (tE Z Eo (evE Fs C (.var i))) := by
  obtain ⟨h1, h2, h3⟩ := varOk_ok ok h
  refine s_here (pe_var (i := i) h1 h2 (nm_all h3).1 (nm_all h3).2.1) fun σ p Q sp r hr d => ?_
  unfold evE at hr
  split at hr
  · rename_i d0 e
    rw [vl_some hr] at d
    obtain ⟨a, e1, r1, _⟩ := sp.l.ow i d0 e
    exact ⟨_, e1, d.at sp ⟨e1, true, e⟩⟩
  · rename_i d0 e
    rw [vl_some hr] at d
    obtain ⟨v, e1, r1⟩ := sp.l.sh i d0 e
    exact ⟨_, e1, d.sh sp r1⟩
  · cases hr
/-- a global name -/
def glB (Γ : Gam) (x : Str) (g : Gv) : Bool := decide (Γ.sc.names.lookup x = some .globalImplicit) && nmOk x && decide (Γ.G.lookup x = some g)
theorem glB_ok {x : Str} {g : Gv} (ok : XOk X Z Γ Fs Eo) (h : glB Γ x g = true) : Gl X x ∧ nmOk x = true ∧ GOk X Z x g := by
  unfold glB at h
  simp only [Bool.and_eq_true, decide_eq_true_eq] at h
  exact ⟨ok.gl x h.1.1, h.1.2, ok.gv x g h.2⟩
theorem s_gli {i : Int} {x : Str} {pos : Pos} (ok : XOk X Z Γ Fs Eo) (h : glB Γ x (.int i) = true) : PE X (.Name x pos) (tE Z Eo (evE Fs C (.gli x i))) := by
  obtain ⟨h1, h2, t, h3⟩ := glB_ok ok h
  exact s_here (pe_glob (v := .int i) h1 h3 ⟨t, rfl⟩ (nm_all h2).1) fun σ p Q sp r hr d => by
    unfold evE at hr
    rw [vl_some hr] at d
    exact d.sh sp (rInt _)
theorem s_gls {z : Str} {x : Str} {pos : Pos} (ok : XOk X Z Γ Fs Eo) (h : glB Γ x (.str z) = true) : PE X (.Name x pos) (tE Z Eo (evE Fs C (.gls x z))) := by
  obtain ⟨h1, h2, t, h3⟩ := glB_ok ok h
  exact s_here (pe_glob (v := .str z) h1 h3 ⟨t, rfl⟩ (nm_all h2).1) fun σ p Q sp r hr d => by
    unfold evE at hr
    rw [vl_some hr] at d
    exact d.sh sp (rStr _)
theorem s_glf {k : Nat} {x : Str} {pos : Pos} (ok : XOk X Z Γ Fs Eo) (h : glB Γ x (.fn k) = true) : PE X (.Name x pos) (tE Z Eo (evE Fs C (.glf k))) := by
  obtain ⟨h1, h2, h3⟩ := glB_ok ok h
  exact s_here (pe_glob (v := .ref (Z.fa k)) h1 h3 rfl (nm_all h2).1) fun σ p Q sp r hr d => by
    unfold evE at hr
    rw [vl_some hr] at d
    exact d.sh sp (.fn k)
/-! ### rows of terms -/
theorem s_nil : PA X [] (tL Z Eo (evL Fs C .nil)) := PA.imp pa_nil fun σ H Q q => by
  obtain ⟨p, rfl, sp, r, hr, d⟩ := q
  unfold evL at hr
  cases hr
  exact d p [] rfl rfl Via.refl sp trivial
theorem RepT.nofr {H0 : Hp} {ρ : Nv} {σ : Sx} {F : Addr → Prop} {φ : List Addr} {H : Hp} {v : V} {d : D} {a : Addr} (h : RepT Z H0 ρ σ F φ H .fr v d) (e : v = .ref a) : H a ≠ none := by
  obtain ⟨b, rfl, r, _⟩ := h
  cases e
  obtain ⟨vs, hv⟩ := r.lst
  rw [hv]
  exact fun z => by cases z
theorem RepTs.at {H0 : Hp} {ρ : Nv} {σ : Sx} {F : Addr → Prop} {φ : List Addr} {H : Hp} : ∀ {vs : List V} {ds : List (D × Md)} {j : Nat} {d : D × Md} {v : V}, RepTs Z H0 ρ σ F φ H vs ds → ds[j]? = some d → vs[j]? = some v → RepT Z H0 ρ σ F φ H d.2 v d.1
  | _ :: _, _ :: _, 0, _, _, h, e1, e2 => by
    simp at e1 e2
    subst e1
    subst e2
    exact h.1
  | _ :: _, _ :: _, j + 1, _, _, h, e1, e2 => RepTs.at (j := j) h.2.2 (by simpa using e1) (by simpa using e2)
  | [], _ :: _, _, _, _, h, _, _ => h.elim
  | _ :: _, [], _, _, _, h, _, _ => h.elim
  | [], [], _, _, _, _, e, _ => by simp at e
theorem s_cons {e : Expr} {es : List Expr} {a : E} {as : Es} (hu : unst e = true) (ha : PE X e (tE Z Eo (evE Fs C a))) (hs : PA X es (tL Z Eo (evL Fs C as))) : PA X (e :: es) (tL Z Eo (evL Fs C (.cons false a as))) := by
  refine PA.imp (pa_cons ha hs (star_one hu)) fun σ H Q q => ?_
  obtain ⟨p, rfl, sp, z, hz, d⟩ := q
  unfold evL at hz
  refine sqE gdL sp hz d fun x m q v h1 via sq rx d1 => ?_
  refine sqL gdL sq h1 d1 fun ds t vs h2 via2 st ry d2 => ?_
  cases h2
  refine d t (v :: vs) rfl rfl (via.trans sp via2) st ⟨RepT.via sq rx via2, fun b e1 e2 j d' hj hf hv => ?_, RepTs.from via.post.dom ry⟩
  have w := ry.at hj hv
  rw [hf] at w
  obtain ⟨b', e3, _, _, _, _, n⟩ := w
  cases e3
  have e1 : m = .fr := e1
  subst e1
  exact RepT.nofr rx e2 n
/-- *e among them -/
theorem reps_ts {F : Addr → Prop} {φ : List Addr} {H : Hp} {H0 : Hp} {ρ : Nv} {σ : Sx} : ∀ {vs : List V} {ds : List D} {ws : List V} {es : List (D × Md)}, Reps Z F φ H vs ds → RepTs Z H0 ρ σ F φ H ws es → RepTs Z H0 ρ σ F φ H (vs ++ ws) (ds.map (fun x => (x, Md.sh)) ++ es)
  | _, _, _, _, .nil, h => h
  | _, _, _, _, .cons r t, h => by
    refine ⟨r, fun a e => ?_, reps_ts t h⟩
    cases e
theorem seq_of {F : Addr → Prop} {φ : List Addr} {H : Hp} {v : V} {d : D} {ds : List D} (r : RepR Z F φ H v d) (h : items d = some ds) : ∃ a vs, v = .ref a ∧ ((SqT Z.K H a vs ∧ isLst d = false) ∨ (SqL Z.K H a vs ∧ isLst d = true)) ∧ Reps Z F φ H vs ds := by
  unfold items at h
  split at h
  · cases h
    obtain ⟨a, vs, rfl, e, rs⟩ := r.tup
    exact ⟨a, vs, rfl, .inl ⟨SqT.of e, rfl⟩, rs.reps⟩
  · cases h
    obtain ⟨a, vs, rfl, e, rs⟩ := r.lst
    exact ⟨a, vs, rfl, .inr ⟨SqL.of e, rfl⟩, rs.reps⟩
  · cases h
    obtain ⟨a, vs, rfl, e, rs⟩ := r.mt
    exact ⟨a, vs, rfl, .inl ⟨SqT.of e, rfl⟩, rs⟩
  · cases h
    obtain ⟨a, vs, rfl, e, rs⟩ := r.ml
    exact ⟨a, vs, rfl, .inr ⟨SqL.of e, rfl⟩, rs⟩
  · cases h
theorem s_star (hK : X.K = Z.K) {e : Expr} {es : List Expr} {a : E} {as : Es} {pos : Pos} (ha : PE X e (tE Z Eo (evE Fs C a))) (hs : PA X es (tL Z Eo (evL Fs C as))) : PA X (.Starred e pos :: es) (tL Z Eo (evL Fs C (.cons true a as))) := by
  refine PA.imp (StX.pa_star ha hs) fun σ H Q q => ?_
  obtain ⟨p, rfl, sp, z, hz, d⟩ := q
  unfold evL at hz
  refine sqE gdL sp hz d fun x m q v h1 via sq rx d1 => ?_
  obtain ⟨xs, hx, h1⟩ := ob_some h1
  obtain ⟨b, vs, rfl, hq, rs⟩ := seq_of (rx.r sq.l) hx
  refine ⟨b, vs, rfl, by rw [hK]; exact hq.imp (·.1) (·.1), sqL gdL sq h1 d1 fun ds t ws h2 via2 st ry d2 => ?_⟩
  cases h2
  exact d t (vs ++ ws) rfl rfl (via.trans sp via2) st (reps_ts (rs.stay (via2.post.stayE sq.g)) (RepTs.from via.post.dom ry))
/-! ### new rows -/
theorem s_tup {es : List Expr} {as : Es} {k : Nat} {pos : Pos} (hs : PA X es (tL Z Eo (evL Fs C as))) : PE X (.Tuple es k pos) (tE Z Eo (evE Fs C (.tup as))) := by
  refine PE.imp (pe_tup hs) fun σ H Q q => ?_
  obtain ⟨p, rfl, sp, z, hz, d⟩ := q
  unfold evE at hz
  refine sqL gdE sp hz d fun ds q vs h1 via sq rs d1 => ?_
  obtain ⟨hl, h1⟩ := if_some h1
  obtain ⟨F', mo, x, s', r⟩ := gives (ρ := q.ρ) (F := q.F) via sp sq rs
  have el := r.len
  rw [List.length_map] at el
  have d2 := Done.rebase sp x d
  rw [vl_some h1] at d2
  exact ⟨by rw [el]; exact hl, fun b hb => New.done (p := ⟨fzs ds q.ρ, q.M, F', q.φ, q.H⟩) (fr := false) (.tup hb (Reps.mkT (r.stay (stay_upd hb)) upd_same)) s' d2⟩
theorem s_lst {es : List Expr} {as : Es} {pos : Pos} (hs : PA X es (tL Z Eo (evL Fs C as))) : PE X (.List es pos) (tE Z Eo (evE Fs C (.lst as))) := by
  refine PE.imp (pe_lst hs) fun σ H Q q => ?_
  obtain ⟨p, rfl, sp, z, hz, d⟩ := q
  unfold evE at hz
  refine sqL gdE sp hz d fun ds q vs h1 via sq rs d1 => ?_
  obtain ⟨hl, h1⟩ := if_some h1
  obtain ⟨F', mo, x, s', r⟩ := gives (ρ := q.ρ) (F := q.F) via sp sq rs
  have el := r.len
  rw [List.length_map] at el
  have d2 := Done.rebase sp x d
  rw [vl_some h1] at d2
  exact ⟨by rw [el]; exact hl, fun b hb => New.done (p := ⟨fzs ds q.ρ, q.M, F', q.φ, q.H⟩) (fr := true) (.lst hb (Reps.mkL (r.stay (stay_upd hb)) upd_same)) s' d2⟩
/-- a cell of the memory -/
theorem s_cell {es : List Expr} {as : Es} {pos : Pos} (hs : PA X es (tL Z Eo (evL Fs C as))) : PE X (.List es pos) (tE Z Eo (evE Fs C (.cell as))) := by
  refine PE.imp (pe_lst hs) fun σ H Q q => ?_
  obtain ⟨p, rfl, sp, z, hz, d⟩ := q
  unfold evE at hz
  refine sqL gdE sp hz d fun ds q vs h1 via sq rs d1 => ?_
  obtain ⟨ps, hp, h1⟩ := ob_some h1
  obtain ⟨hl, h1⟩ := if_some h1
  obtain ⟨F', mo, x, s', r⟩ := gives (ρ := q.ρ) (F := q.F) via sp sq rs
  have rp := r.all hp
  have d2 := Done.rebase sp x d
  rw [vl_some h1] at d2
  refine ⟨by rw [rp.len]; exact hl, fun b hb => ?_⟩
  obtain ⟨f1, f2⟩ := s'.g.free hb
  have st : Stay F' q.φ q.H F' (q.φ ++ [b]) (upd q.H b (.lst vs)) := ⟨fun _ h => h, fun c o _ h _ => by rw [upd_ne (ne_of_none h hb)]; exact h, fun c o h => by rw [upd_ne (ne_of_none h hb)]; exact h, fun c o u h => by rw [upd_ne (ne_of_none h hb)]; exact h, ⟨[b], rfl⟩⟩
  have po : Post no1 no1 F' q.φ q.H F' (q.φ ++ [b]) (upd q.H b (.lst vs)) := ⟨⟨[b], rfl, fun c hc => by rw [List.mem_singleton.mp hc]; exact hb⟩, fun c o h _ _ _ => by rw [upd_ne (ne_of_none h hb)]; exact h, fun _ h => h, fun _ h => .inl h, fun c e => by
    by_cases hc : c = b
    · rw [hc, upd_same] at e
      cases e
    · rw [upd_ne hc] at e
      exact e⟩
  refine d2 ⟨fzs ds q.ρ, q.M ++ [ps], F', q.φ ++ [b], upd q.H b (.lst vs)⟩ (.ref b) rfl rfl ⟨po.mono' (fun _ h => h.elim) (fun _ h => h), Fz.refl _⟩ ⟨⟨fun c hc => ?_, ?_, fun n qs hn => ?_, ?_, s'.g.tab.ext fun c o e => (upd_ne (ne_of_none e hb)).trans e⟩, s'.l.post po s'.g⟩ (.cel ?_)
  · obtain ⟨g1, g2⟩ := s'.g.dom c hc
    refine ⟨fun z => g1 (po.dom c z), fun z => ?_⟩
    rcases List.mem_append.mp z with z | z
    · exact g2 z
    · rw [List.mem_singleton.mp z] at hc
      exact f1 hc
  · rw [List.length_append, List.length_append, s'.g.len]
    rfl
  · by_cases hn2 : n < q.M.length
    · rw [List.getElem?_append_left hn2] at hn
      obtain ⟨a, us, e1, e2, e3⟩ := s'.g.cell n qs hn
      refine ⟨a, us, ?_, ?_, e3.stay st⟩
      · rw [List.getElem?_append_left (by rw [s'.g.len]; exact hn2)]
        exact e1
      · exact (upd_ne (ne_of_none e2 hb)).trans e2
    · have e : n = q.M.length := by
        have := (List.getElem?_eq_some_iff.mp hn).1
        rw [List.length_append] at this
        simp at this
        omega
      subst e
      have hn' : [ps][0]? = some qs := by simpa [List.getElem?_append_right] using hn
      cases hn'
      exact ⟨b, vs, by rw [← s'.g.len]; simp, upd_same, rp.stay st⟩
  · refine List.nodup_append.mpr ⟨s'.g.nd, by simp, fun c hc c' hc' => ?_⟩
    rw [List.mem_singleton.mp hc']
    exact fun z => f2 (z ▸ hc)
  · show (q.φ ++ [b])[q.M.length]? = some b
    rw [← s'.g.len]
    simp
/-! ### numbers, truth -/
theorem s_neg {a : E} {e : Expr} {pos : Pos} (ha : PE X e (tE Z Eo (evE Fs C a))) : PE X (.UnaryOp .USub e pos) (tE Z Eo (evE Fs C (.neg a))) := by
  refine PE.imp (pe_un un_neg ha) fun σ H Q q => ?_
  obtain ⟨p, rfl, sp, z, hz, d⟩ := q
  unfold evE at hz
  refine sqE gdE sp hz d fun x m q v h1 via sq rx d1 => ?_
  obtain ⟨i, rfl, h1⟩ := gi_some h1
  rw [vl_some h1] at d1
  exact ⟨i, (rx.r sq.l).int, d1.sh sq (rInt _)⟩
theorem s_not (hK : X.K = Z.K) {a : E} {e : Expr} {pos : Pos} (ha : PE X e (tE Z Eo (evE Fs C a))) : PE X (.UnaryOp .Not e pos) (tE Z Eo (evE Fs C (.not a))) := by
  refine PE.imp (pe_notT ha) fun σ H Q q => ?_
  obtain ⟨p, rfl, sp, z, hz, d⟩ := q
  unfold evE at hz
  refine sqE gdE sp hz d fun x m q v h1 via sq rx d1 => ?_
  obtain ⟨b, e1, h1⟩ := ob_some h1
  rw [vl_some h1] at d1
  exact ⟨b, by rw [hK]; exact tru_ok' (rx.r sq.l) e1, d1.sh sq (rBl _)⟩
/-- a test's value read as a value's truth -/
theorem tT_of {σ : Sx} {p : Pt} {Q : Bool → Hp → Prop} {f : Nv → Mem → RE} {z : Rz Vl} (sp : p.Sim Z σ) (hz : f p.ρ p.M = some z) (d : DoneT Z Eo σ p Q z) {Q1 : VK} (k : ∀ v (q : Pt) (x : D) (b : Bool), RepR Z q.F q.φ q.H v x → tru x = some b → Q b q.H → Q1 v q.H) : tE Z Eo f σ p.H Q1 := by
  refine ⟨p, rfl, sp, z, hz, ?_⟩
  cases z with
  | ok r =>
    obtain ⟨b, e, d⟩ := d
    exact fun q v e1 e2 y sy rep => k v q _ b (by
      have w := rep
      rw [← e1] at w
      exact w.r sy.l) e (d q e1 e2 y sy)
  | er c v M => exact d
theorem pt_of (hK : X.K = Z.K) {e : Expr} {f : Nv → Mem → RE} (he : PE X e (tE Z Eo f)) (hi : ∀ whole, isTrue e X.env whole = (do let v ← whole; standAt e.pos; holding [v] (truthy v))) : PT X e (tT Z Eo f) :=
  PT.imp (pt_truth he hi) fun σ H Q q => by
    obtain ⟨p, rfl, sp, z, hz, d⟩ := q
    exact tT_of sp hz d fun v q x b r e k => ⟨b, by rw [hK]; exact tru_ok' r e, k⟩
theorem s_ite {c a b : E} {e1 e2 e3 : Expr} {pos : Pos} (hc : PT X e1 (tT Z Eo (evE Fs C c))) (ha : PE X e2 (tE Z Eo (evE Fs C a))) (hb : PE X e3 (tE Z Eo (evE Fs C b))) : PE X (.IfExp e1 e2 e3 pos) (tE Z Eo (evE Fs C (.ite c a b))) := by
  refine PE.imp (pe_ifExp hc ha hb) fun σ H Q q => ?_
  obtain ⟨p, rfl, sp, z, hz, d⟩ := q
  unfold evE at hz
  refine sqT gdE sp hz d fun x m t q _ h1 via sq d1 => ?_
  cases t with
  | true => exact ⟨q, rfl, sq, z, h1, d1⟩
  | false => exact ⟨q, rfl, sq, z, h1, d1⟩
end
end Ev

/-! Comparisons, subscripts, calls. -/
namespace Ev
open L2 PyProof.Rows PySem PySem.Spec
section
variable {X : Cx} {Z : Zt} {Γ : Gam} {Fs : List Fn} {C : Nv → Clo} {Eo : XK}
/-- a row of comparisons, the first term not yet -/
def evCmp (Fs : List Fn) (C : Nv → Clo) (f : Nv → Mem → RE) (os : List Cm) (es : Es) : Nv → Mem → RE := fun ρ M => bz (f ρ M) fun x => evC Fs C os es x.d x.ρ x.M
def noSet : Expr → Bool
  | .Set _ _ _ => false
  | _ => true
theorem noSet_in {op : CmpOp} {e : Expr} (h : noSet e = true) : behindInMarks op e = false := by
  cases e <;> first | rfl | cases h
/-- a op b -/
theorem cmp_one {σ : Sx} {β : Type} {p : Pt} {G : Pt → Rz β → Prop} (g : Gd Z Eo σ G) {r : R2} {o : Cm} (hs : CmS Z r (cm o)) {f : Nv → Mem → RE} {b : E} {s : Bool} {z : Rz β} {Q1 : VK} (k : Vl → Option (Rz β)) (sp : p.Sim Z σ)
    (hz : bz (evCmp Fs C f [o] (.cons s b .nil) p.ρ p.M) k = some z) (d : G p z)
    (hk : ∀ (c : Bool) (q : Pt), k ⟨.py (.bool c), .sh, q.ρ, q.M⟩ = some z → Via σ p q → q.Sim Z σ → G q z → Q1 (.bl c) q.H) : tOp r (tE Z Eo f) (tE Z Eo (evE Fs C b)) σ p.H Q1 := by
  unfold evCmp at hz
  cases e : f p.ρ p.M with
  | none =>
    rw [e] at hz
    cases hz
  | some y =>
    rw [e] at hz
    have hz2 : bz (some y) (fun x => bz (evC Fs C [o] (.cons s b .nil) x.d x.ρ x.M) k) = some z := by
      cases y with
      | ok x => exact hz
      | er c v M => exact hz
    rw [← e] at hz2
    refine sqE g sp hz2 d fun x m q v h1 via sq rx d1 => ?_
    have h2 : bz (evE Fs C b q.ρ q.M) (fun y => bz (ob (cm o x y.d) fun c => vl (.py (.bool c)) .sh y.ρ y.M) k) = some z := by
      unfold evC at h1
      cases e2 : evE Fs C b q.ρ q.M with
      | none =>
        simp only [e2] at h1
        cases h1
      | some w =>
        simp only [e2] at h1
        cases w with
        | ok x => exact h1
        | er c v M => exact h1
    refine sqE g sq h2 d1 fun y m2 t w h3 via2 st ry d2 => ?_
    cases e3 : cm o x y with
    | none =>
      rw [e3] at h3
      cases h3
    | some c =>
      rw [e3] at h3
      exact hs t.F t.φ t.H v w x y c _ ((RepT.via sq rx via2).r st.l) (ry.r st.l) e3 (hk c t h3 (via.trans sp via2) st d2)
theorem bz_id {r : RE} : bz r (fun x => some (.ok x)) = r := by
  cases r with
  | none => rfl
  | some y => cases y <;> rfl
theorem s_cmp1 {r : R2} {o : Cm} (ho : OpR X (compareOp (cmE o)) r) (hs : CmS Z r (cm o)) {a b : E} {ea eb : Expr} {s : Bool} {pos : Pos} (hb' : noSet eb = true) (ha : PE X ea (tE Z Eo (evE Fs C a))) (hb : PE X eb (tE Z Eo (evE Fs C b))) :
    PE X (.Compare ea [cmE o] [eb] pos) (tE Z Eo (evE Fs C (.cmp a [o] (.cons s b .nil)))) := by
  refine PE.imp (pe_cmpR ho ha hb (noSet_in hb')) fun σ H Q q => ?_
  obtain ⟨p, rfl, sp, z, hz, d⟩ := q
  unfold evE at hz
  refine cmp_one gdE hs (s := s) (fun x => some (.ok x)) sp (by rw [bz_id]; exact hz) d fun c q e via sq d1 => ?_
  cases e
  exact d1.sh sq (rBl _)
theorem t_cmp1 {r : R2} {o : Cm} (ho : OpR X (compareOp (cmE o)) r) (hs : CmS Z r (cm o)) {a b : E} {ea eb : Expr} {s : Bool} {pos : Pos} (hb' : noSet eb = true) (ha : PE X ea (tE Z Eo (evE Fs C a))) (hb : PE X eb (tE Z Eo (evE Fs C b))) :
    PT X (.Compare ea [cmE o] [eb] pos) (tT Z Eo (evE Fs C (.cmp a [o] (.cons s b .nil)))) := by
  refine PT.imp (pt_cmpR ho ha hb (noSet_in hb')) fun σ H Q q => ?_
  obtain ⟨p, rfl, sp, z, hz, d⟩ := q
  unfold evE at hz
  refine cmp_one gdT hs (s := s) (fun x => some (.ok x)) sp (by rw [bz_id]; exact hz) d fun c q e via sq d1 => ⟨c, rfl, ?_⟩
  cases e
  obtain ⟨b, e, k⟩ := d1
  cases e
  exact k q rfl rfl Via.refl sq
/-- a op b op c -/
theorem cmp_two {σ : Sx} {β : Type} {p : Pt} {G : Pt → Rz β → Prop} (g : Gd Z Eo σ G) {r r' : R2} {o o' : Cm} (hs : CmS Z r (cm o)) (hs' : CmS Z r' (cm o')) {f : Nv → Mem → RE} {b c : E} {s s' : Bool} {z : Rz β} {Q1 : VK} (k : Vl → Option (Rz β)) (sp : p.Sim Z σ)
    (hz : bz (evCmp Fs C f [o, o'] (.cons s b (.cons s' c .nil)) p.ρ p.M) k = some z) (d : G p z)
    (hk : ∀ (c : Bool) (q : Pt), k ⟨.py (.bool c), .sh, q.ρ, q.M⟩ = some z → q.Sim Z σ → G q z → Q1 (.bl c) q.H) : tChain r r' (tE Z Eo f) (tE Z Eo (evE Fs C b)) (tE Z Eo (evE Fs C c)) σ p.H Q1 := by
  unfold evCmp at hz
  have hz2 : bz (f p.ρ p.M) (fun x => bz (evC Fs C [o, o'] (.cons s b (.cons s' c .nil)) x.d x.ρ x.M) k) = some z := by
    cases e : f p.ρ p.M with
    | none =>
      rw [e] at hz
      cases hz
    | some y =>
      rw [e] at hz
      cases y with
      | ok x => exact hz
      | er c v M => exact hz
  refine sqE g sp hz2 d fun x m q v h1 via sq rx d1 => ?_
  have h2 : bz (evE Fs C b q.ρ q.M) (fun y => bz (ob (cm o x y.d) fun t => if t = true then evC Fs C [o'] (.cons s' c .nil) y.d y.ρ y.M else vl (.py (.bool false)) .sh y.ρ y.M) k) = some z := by
    unfold evC at h1
    cases e2 : evE Fs C b q.ρ q.M with
    | none =>
      simp only [e2] at h1
      cases h1
    | some w =>
      simp only [e2] at h1
      cases w with
      | ok x => exact h1
      | er c v M => exact h1
  refine sqE g sq h2 d1 fun y m2 t w h3 via2 st ry d2 => ?_
  cases e3 : cm o x y with
  | none =>
    rw [e3] at h3
    cases h3
  | some t1 =>
    rw [e3] at h3
    refine hs t.F t.φ t.H v w x y t1 _ ((RepT.via sq rx via2).r st.l) (ry.r st.l) e3 ⟨t1, rfl, ?_⟩
    cases t1 with
    | false => exact hk false t h3 st d2
    | true =>
      have h4 : bz (evE Fs C c t.ρ t.M) (fun y' => bz (ob (cm o' y y'.d) fun c => vl (.py (.bool c)) .sh y'.ρ y'.M) k) = some z := by
        have h3 : bz (evC Fs C [o'] (.cons s' c .nil) y t.ρ t.M) k = some z := h3
        unfold evC at h3
        cases e2 : evE Fs C c t.ρ t.M with
        | none =>
          simp only [e2] at h3
          cases h3
        | some w =>
          simp only [e2] at h3
          cases w with
          | ok x => exact h3
          | er c v M => exact h3
      show tE Z Eo (evE Fs C c) σ t.H _
      refine sqE g st h4 d2 fun y' m3 u w' h5 via3 su ry' d3 => ?_
      cases e5 : cm o' y y' with
      | none =>
        rw [e5] at h5
        cases h5
      | some c2 =>
        rw [e5] at h5
        exact hs' u.F u.φ u.H w w' y y' c2 _ ((RepT.via st ry via3).r su.l) (ry'.r su.l) e5 (hk c2 u h5 su d3)
theorem lastM {op op' : CmpOp} {b c : Expr} (h : noSet c = true) : lastMarks [op, op'] [b, c] = false := noSet_in h
theorem s_cmp2 {r r' : R2} {o o' : Cm} (ho : OpR X (compareOp (cmE o)) r) (hs : CmS Z r (cm o)) (ho' : OpR X (compareOp (cmE o')) r') (hs' : CmS Z r' (cm o')) {a b c : E} {ea eb ec : Expr} {s s' : Bool} {pos : Pos} (hc' : noSet ec = true)
    (ha : PE X ea (tE Z Eo (evE Fs C a))) (hb : PE X eb (tE Z Eo (evE Fs C b))) (hc : PE X ec (tE Z Eo (evE Fs C c))) :
    PE X (.Compare ea [cmE o, cmE o'] [eb, ec] pos) (tE Z Eo (evE Fs C (.cmp a [o, o'] (.cons s b (.cons s' c .nil))))) := by
  refine PE.imp (pe_chain ho ho' ha hb hc (lastM hc')) fun σ H Q q => ?_
  obtain ⟨p, rfl, sp, z, hz, d⟩ := q
  unfold evE at hz
  refine cmp_two gdE hs hs' (s := s) (s' := s') (fun x => some (.ok x)) sp (by rw [bz_id]; exact hz) d fun c q e sq d1 => ?_
  cases e
  exact d1.sh sq (rBl _)
theorem t_cmp2 {r r' : R2} {o o' : Cm} (ho : OpR X (compareOp (cmE o)) r) (hs : CmS Z r (cm o)) (ho' : OpR X (compareOp (cmE o')) r') (hs' : CmS Z r' (cm o')) {a b c : E} {ea eb ec : Expr} {s s' : Bool} {pos : Pos} (hc' : noSet ec = true)
    (ha : PE X ea (tE Z Eo (evE Fs C a))) (hb : PE X eb (tE Z Eo (evE Fs C b))) (hc : PE X ec (tE Z Eo (evE Fs C c))) :
    PT X (.Compare ea [cmE o, cmE o'] [eb, ec] pos) (tT Z Eo (evE Fs C (.cmp a [o, o'] (.cons s b (.cons s' c .nil))))) := by
  refine PT.imp (pt_chain ho ho' ha hb hc (lastM hc')) fun σ H Q q => ?_
  obtain ⟨p, rfl, sp, z, hz, d⟩ := q
  unfold evE at hz
  refine cmp_two gdT hs hs' (s := s) (s' := s') (fun x => some (.ok x)) sp (by rw [bz_id]; exact hz) d fun c q e sq d1 => ⟨c, rfl, ?_⟩
  cases e
  obtain ⟨b, e, k⟩ := d1
  cases e
  exact k q rfl rfl Via.refl sq
/-! ### and, or -/
theorem s_bop1 (hK : X.K = Z.K) {k : Bool} {o : BoolOp} (hk : (k = true ∧ o = .And) ∨ (k = false ∧ o = .Or)) {a b : E} {ea eb : Expr} {s s' : Bool} {as : Es} {es : List Expr} {pos : Pos} (ha : PE X ea (tE Z Eo (evE Fs C a))) (hs : PE X (.BoolOp o (eb :: es) pos) (tE Z Eo (evB Fs C k (.cons s' b as)))) :
    PE X (.BoolOp o (ea :: eb :: es) pos) (tE Z Eo (evB Fs C k (.cons s a (.cons s' b as)))) := by
  have un : ∀ {σ : Sx} {p : Pt} {Q : VK} {z : Rz Vl}, p.Sim Z σ → evB Fs C k (.cons s a (.cons s' b as)) p.ρ p.M = some z → Done Z Eo σ p Q z → ∀ {Q1 : VK}, (∀ v q t, TruV Z.K v q t → (if t = k then tE Z Eo (evB Fs C k (.cons s' b as)) σ q Q else Q v q) → Q1 v q) → tE Z Eo (evE Fs C a) σ p.H Q1 := by
    intro σ p Q z sp hz d Q1 hk2
    unfold evB at hz
    refine sqE gdE sp hz d fun x m q v h1 via sq rx d1 => ?_
    obtain ⟨t, e1, h1⟩ := ob_some h1
    refine hk2 v q.H t (tru_ok' (rx.r sq.l) e1) ?_
    by_cases ht : t = k
    · have h1 : (if t = k then evB Fs C k (.cons s' b as) q.ρ q.M else vl x m q.ρ q.M) = some z := h1
      rw [if_pos ht] at h1 ⊢
      exact ⟨q, rfl, sq, z, h1, d1⟩
    · have h1 : (if t = k then evB Fs C k (.cons s' b as) q.ρ q.M else vl x m q.ρ q.M) = some z := h1
      rw [if_neg ht] at h1 ⊢
      rw [vl_some h1] at d
      exact d q v rfl rfl via sq rx
  rcases hk with ⟨rfl, rfl⟩ | ⟨rfl, rfl⟩
  · refine PE.imp (pe_andT ha hs) fun σ H Q q => ?_
    obtain ⟨p, rfl, sp, z, hz, d⟩ := q
    refine un sp hz d fun v q t h1 h2 => ⟨t, by rw [hK]; exact h1, ?_⟩
    cases t with
    | true => exact h2
    | false => exact h2
  · refine PE.imp (pe_orT ha hs) fun σ H Q q => ?_
    obtain ⟨p, rfl, sp, z, hz, d⟩ := q
    refine un sp hz d fun v q t h1 h2 => ⟨t, by rw [hK]; exact h1, ?_⟩
    cases t with
    | true => exact h2
    | false => exact h2
theorem t_bop1 {k : Bool} {o : BoolOp} (hk : (k = true ∧ o = .And) ∨ (k = false ∧ o = .Or)) {a b : E} {ea eb : Expr} {s s' : Bool} {as : Es} {es : List Expr} {pos : Pos} (ha : PT X ea (tT Z Eo (evE Fs C a))) (hs : PW X (.BoolOp o (eb :: es) pos) (tT Z Eo (evB Fs C k (.cons s' b as)))) :
    PW X (.BoolOp o (ea :: eb :: es) pos) (tT Z Eo (evB Fs C k (.cons s a (.cons s' b as)))) := by
  have un : ∀ {σ : Sx} {p : Pt} {Q : Bool → Hp → Prop} {z : Rz Vl}, p.Sim Z σ → evB Fs C k (.cons s a (.cons s' b as)) p.ρ p.M = some z → DoneT Z Eo σ p Q z → ∀ {Q1 : Bool → Hp → Prop}, (∀ q t, (if t = k then tT Z Eo (evB Fs C k (.cons s' b as)) σ q Q else Q t q) → Q1 t q) → tT Z Eo (evE Fs C a) σ p.H Q1 := by
    intro σ p Q z sp hz d Q1 hk2
    unfold evB at hz
    refine sqT (k := fun x b1 => if b1 = k then evB Fs C k (.cons s' b as) x.ρ x.M else vl x.d x.m x.ρ x.M) gdT sp hz d fun x m t q e1 h1 via sq d1 => ?_
    refine hk2 q.H t ?_
    by_cases ht : t = k
    · have h1 : (if t = k then evB Fs C k (.cons s' b as) q.ρ q.M else vl x m q.ρ q.M) = some z := h1
      rw [if_pos ht] at h1 ⊢
      exact ⟨q, rfl, sq, z, h1, d1⟩
    · have h1 : (if t = k then evB Fs C k (.cons s' b as) q.ρ q.M else vl x m q.ρ q.M) = some z := h1
      rw [if_neg ht] at h1 ⊢
      rw [vl_some h1] at d1
      obtain ⟨b, e, k2⟩ := d1
      have e : tru x = some b := e
      rw [e1] at e
      cases e
      exact k2 q rfl rfl Via.refl sq
  rcases hk with ⟨rfl, rfl⟩ | ⟨rfl, rfl⟩
  · refine PW.imp (pw_and ha hs) fun σ H Q q => ?_
    obtain ⟨p, rfl, sp, z, hz, d⟩ := q
    refine un sp hz d fun q t h2 => ?_
    cases t with
    | true => exact h2
    | false => exact h2
  · refine PW.imp (pw_or ha hs) fun σ H Q q => ?_
    obtain ⟨p, rfl, sp, z, hz, d⟩ := q
    refine un sp hz d fun q t h2 => ?_
    cases t with
    | true => exact h2
    | false => exact h2
theorem evB_one {k s : Bool} {a : E} : evB Fs C k (.cons s a .nil) = evE Fs C a := by
  funext ρ M
  unfold evB
  rfl
theorem s_bopN {k : Bool} {o : BoolOp} {a : E} {ea : Expr} {s : Bool} {pos : Pos} (ha : PE X ea (tE Z Eo (evE Fs C a))) : PE X (.BoolOp o [ea] pos) (tE Z Eo (evB Fs C k (.cons s a .nil))) := by
  rw [evB_one]
  exact pe_one ha
theorem t_bopN {k : Bool} {o : BoolOp} {a : E} {ea : Expr} {s : Bool} {pos : Pos} (ha : PT X ea (tT Z Eo (evE Fs C a))) : PW X (.BoolOp o [ea] pos) (tT Z Eo (evB Fs C k (.cons s a .nil))) := by
  rw [evB_one]
  cases o with
  | And => exact pw_and1 ha
  | Or => exact pw_or1 ha
theorem t_not {a : E} {e : Expr} {pos : Pos} (ha : PT X e (tT Z Eo (evE Fs C a))) : PT X (.UnaryOp .Not e pos) (tT Z Eo (evE Fs C (.not a))) := by
  refine PT.imp (pt_not ha) fun σ H Q q => ?_
  obtain ⟨p, rfl, sp, z, hz, d⟩ := q
  unfold evE at hz
  refine sqT (k := fun x b => vl (.py (.bool (!b))) .sh x.ρ x.M) gdT sp hz d fun x m t q e1 h1 via sq d1 => ?_
  rw [vl_some h1] at d1
  obtain ⟨b, e, k2⟩ := d1
  cases e
  exact k2 q rfl rfl Via.refl sq
/-! ### subscripts -/
def noSlice : Expr → Bool
  | .Slice _ _ _ _ => false
  | _ => true
theorem noSlice_ix {e : Expr} (h : noSlice e = true) : PlainIx e := by
  cases e <;> first | (intro o i; rfl) | cases h
theorem ixS : ∀ (M : Mem) (F : Addr → Prop) (φ : List Addr) (H : Hp) (v w : V) (x y d : D) (Q : VK), GSim Z M F φ H → RepR Z F φ H v x → RepR Z F φ H w y → ixD M x y = some d → (∀ u, Rep Z F φ H u d → Q u H) → rIx Z.K v w H Q := by
  intro M F φ H v w x y d Q g rx ry h k
  have at_map : ∀ {α β : Type} {xs : List α} {i : Int} {f : α → β} {d : β}, (atI xs i).map f = some d → ∃ a, atI xs i = some a ∧ f a = d := fun {α β xs i f d} h => Option.map_eq_some_iff.mp h
  have at_of : ∀ {α β : Type} {xs : List α} {ys : List β} {i : Int} {a : α}, xs.length = ys.length → atI xs i = some a → ∃ j : Nat, xs[j]? = some a ∧ ∀ b, ys[j]? = some b → atI ys i = some b := by
    intro α β xs ys i a hl h
    unfold atI at h
    obtain ⟨j, e1, e2⟩ := Option.bind_eq_some_iff.mp h
    exact ⟨j, e2, fun b hb => by
      unfold atI
      rw [← hl, e1]
      exact hb⟩
  unfold ixD at h
  split at h
  · rename_i xs i
    obtain ⟨p, e1, rfl⟩ := at_map h
    obtain ⟨a, vs, rfl, e, rs⟩ := rx.tup
    obtain ⟨j, e2, e3⟩ := at_of (ys := vs) rs.len.symm e1
    obtain ⟨u, e4, r⟩ := rs.get e2
    exact .inr (.inl ⟨a, vs, i, u, rfl, ry.int, SqT.of e, e3 u e4, k u (.py r)⟩)
  · rename_i xs i
    obtain ⟨p, e1, rfl⟩ := at_map h
    obtain ⟨a, vs, rfl, e, rs⟩ := rx.lst
    obtain ⟨j, e2, e3⟩ := at_of (ys := vs) rs.len.symm e1
    obtain ⟨u, e4, r⟩ := rs.get e2
    exact .inl ⟨a, vs, i, u, rfl, ry.int, SqL.of e, e3 u e4, k u (.py r)⟩
  · rename_i xs i
    obtain ⟨a, vs, rfl, e, rs⟩ := rx.mt
    obtain ⟨j, e2, e3⟩ := at_of (ys := vs) rs.len.symm h
    obtain ⟨u, e4, r⟩ := rs.get e2
    exact .inr (.inl ⟨a, vs, i, u, rfl, ry.int, SqT.of e, e3 u e4, k u r⟩)
  · rename_i xs i
    obtain ⟨a, vs, rfl, e, rs⟩ := rx.ml
    obtain ⟨j, e2, e3⟩ := at_of (ys := vs) rs.len.symm h
    obtain ⟨u, e4, r⟩ := rs.get e2
    exact .inl ⟨a, vs, i, u, rfl, ry.int, SqL.of e, e3 u e4, k u r⟩
  · rename_i z i
    obtain ⟨hz, h⟩ := if_some h
    obtain ⟨c, e1, rfl⟩ := at_map h
    exact .inr (.inr ⟨z, i, c, rx.str, ry.int, hz, e1, k _ (rStr _)⟩)
  · rename_i ns i
    obtain ⟨n, e1, rfl⟩ := at_map h
    obtain ⟨a, rfl, hs⟩ := rx.scr
    obtain ⟨j, e2, e3⟩ := at_of (ys := ns.map V.int) (by simp) e1
    exact .inl ⟨a, _, i, .int n, rfl, ry.int, hs, e3 _ (by simp [e2]), k _ (rInt _)⟩
  · rename_i n i
    split at h
    · rename_i xs hM
      obtain ⟨p, e1, rfl⟩ := at_map h
      obtain ⟨a, rfl, ha⟩ := rx.cel
      obtain ⟨a', vs, h1, h2, rs⟩ := g.cell n xs hM
      rw [ha] at h1
      cases h1
      obtain ⟨j, e2, e3⟩ := at_of (ys := vs) rs.len.symm e1
      obtain ⟨u, e4, r⟩ := rs.get e2
      exact .inl ⟨a, vs, i, u, rfl, ry.int, SqL.of h2, e3 u e4, k u (.py r)⟩
    · cases h
  · cases h
theorem s_ix (hK : X.K = Z.K) {a b : E} {ea eb : Expr} {pos : Pos} (hn : noSlice eb = true) (ha : PE X ea (tE Z Eo (evE Fs C a))) (hb : PE X eb (tE Z Eo (evE Fs C b))) : PE X (.Subscript ea eb pos) (tE Z Eo (evE Fs C (.ix a b))) := by
  refine PE.imp (pe_ix ix_seq ha hb (noSlice_ix hn)) fun σ H Q q => ?_
  obtain ⟨p, rfl, sp, z, hz, d⟩ := q
  unfold evE at hz
  refine sqE gdE sp hz d fun x m q v h1 via sq rx d1 => ?_
  refine sqE gdE sq h1 d1 fun y m2 t w h2 via2 st ry d2 => ?_
  obtain ⟨d', e, h2⟩ := ob_some h2
  rw [vl_some h2] at d2
  rw [hK]
  exact ixS t.M t.F t.φ t.H v w x y d' Q st.g ((RepT.via sq rx via2).r st.l) (ry.r st.l) e fun u r => d2.sh st r
/-! slices -/
theorem slS {F : Addr → Prop} {φ : List Addr} {H : Hp} {v : V} {x : D} {lo hi : Option Int} {z : D × Bool} {Q : VK} (rx : RepR Z F φ H v x) (h : slD x lo hi = some z) (k : ∀ u H', New Z F φ H z.1 z.2 u H' → Q u H') : rSlA Z.K v lo hi H Q ∨ rSlL Z.K v lo hi H Q := by
  have cutAll : ∀ {α : Type} (xs : List α), HT.sIx xs.length 0 lo = 0 ∧ HT.sIx xs.length xs.length hi = xs.length → cutL xs lo hi = xs := by
    intro α xs ⟨h1, h2⟩
    unfold cutL
    rw [h1, h2]
    simp
  unfold slD at h
  split at h
  · rename_i xs
    cases h
    obtain ⟨a, vs, rfl, e, rs⟩ := rx.tup
    refine .inl ⟨a, vs, rfl, SqT.of e, fun w => ?_, fun _ b hb => k _ _ (.tup hb (.py (.tup upd_same ?_)))⟩
    · rw [rs.len] at w
      refine k _ _ (.same (.py (.tup e ?_)))
      rw [cutAll xs w]
      exact rs
    · have w := ((rs.drop (HT.sIx vs.length 0 lo)).take (HT.sIx vs.length vs.length hi - HT.sIx vs.length 0 lo)).stay (stay_upd (φ := φ) (o := .tup (cutV vs lo hi)) hb)
      unfold cutL
      rw [← rs.len]
      exact w
  · rename_i xs
    cases h
    obtain ⟨a, vs, rfl, e, rs⟩ := rx.lst
    refine .inr ⟨a, vs, rfl, SqL.of e, fun b hb => k _ _ (.lst hb ⟨_, upd_same, ?_⟩)⟩
    have w := ((rs.drop (HT.sIx vs.length 0 lo)).take (HT.sIx vs.length vs.length hi - HT.sIx vs.length 0 lo)).stay (stay_upd (φ := φ) (o := .lst (cutV vs lo hi)) hb)
    unfold cutL
    rw [← rs.len]
    exact w
  · rename_i xs
    cases h
    obtain ⟨a, vs, rfl, e, rs⟩ := rx.mt
    refine .inl ⟨a, vs, rfl, SqT.of e, fun w => ?_, fun _ b hb => k _ _ (.tup hb (.mt upd_same ?_))⟩
    · rw [rs.len] at w
      refine k _ _ (.same (.mt e ?_))
      rw [cutAll xs w]
      exact rs
    · have w := ((rs.drop (HT.sIx vs.length 0 lo)).take (HT.sIx vs.length vs.length hi - HT.sIx vs.length 0 lo)).stay (stay_upd (φ := φ) (o := .tup (cutV vs lo hi)) hb)
      unfold cutL
      rw [← rs.len]
      exact w
  · rename_i xs
    cases h
    obtain ⟨a, vs, rfl, e, rs⟩ := rx.ml
    refine .inr ⟨a, vs, rfl, SqL.of e, fun b hb => k _ _ (.lst hb ⟨_, upd_same, ?_⟩)⟩
    have w := ((rs.drop (HT.sIx vs.length 0 lo)).take (HT.sIx vs.length vs.length hi - HT.sIx vs.length 0 lo)).stay (stay_upd (φ := φ) (o := .lst (cutV vs lo hi)) hb)
    unfold cutL
    rw [← rs.len]
    exact w
  · rename_i ns
    cases h
    obtain ⟨a, rfl, hs⟩ := rx.scr
    refine .inr ⟨a, _, rfl, hs, fun b hb => k _ _ (.lst hb ⟨_, upd_same, ?_⟩)⟩
    have e : cutV (ns.map V.int) lo hi = (cutL ns lo hi).map V.int := by
      unfold cutV cutL
      rw [List.length_map, List.map_take, List.map_drop]
    rw [e]
    have go : ∀ (l : List Int), RepPs F (upd H b (.lst ((cutL ns lo hi).map V.int))) (l.map V.int) (l.map .int) := fun l => by
      induction l with
      | nil => exact .nil
      | cons i l ih => exact .cons (.int i) ih
    exact go _
  · cases h
/-- one part of a slice -/
theorem s_part {o : Option Expr} {a : E} (hn : isNo a = o.isNone) (ha : ∀ e, o = some e → PE X e (tE Z Eo (evE Fs C a))) : ∃ t, PO X o t ∧ ∀ {σ : Sx} {β : Type} {G : Pt → Rz β → Prop} {p : Pt} {z : Rz β} {k : Vl → Option Int → Option (Rz β)} {Q : Option Int → Hp → Prop}, Gd Z Eo σ G → p.Sim Z σ →
    bz (prt (isNo a) (evE Fs C a p.ρ p.M) p.ρ p.M) (fun l => ob (part (isNo a) l.d) fun l' => k l l') = some z → G p z → (∀ (d : D) (m : Md) (i : Option Int) (q : Pt), k ⟨d, m, q.ρ, q.M⟩ i = some z → Via σ p q → q.Sim Z σ → G q z → Q i q.H) → t σ p.H Q := by
  cases o with
  | none =>
    refine ⟨_, po_none, fun {σ β G p z k Q} g sp h d hk => ?_⟩
    rw [hn] at h
    exact hk _ _ none p h Via.refl sp d
  | some e =>
    refine ⟨_, po_some (ha e rfl), fun {σ β G p z k Q} g sp h d hk => ?_⟩
    have hn : isNo a = false := hn
    rw [hn] at h
    refine sqE g sp h d fun x m q v h1 via sq rx d1 => ?_
    obtain ⟨i, e1, h1⟩ := ob_some h1
    unfold part at e1
    split at e1
    · simp at e1
    · rename_i i' ex
      cases ex
      cases e1
      exact ⟨i', (rx.r sq.l).int, hk _ _ (some i') q h1 via sq d1⟩
    · cases e1
end
end Ev

/-! Slices, calls. -/
namespace Ev
open L2 PyProof.Rows PySem PySem.Spec
section
variable {X : Cx} {Z : Zt} {Γ : Gam} {Fs : List Fn} {C : Nv → Clo} {Eo : XK}
theorem New.at {σ : Sx} {p : Pt} {Q : VK} {r : Option (D × Bool)} {z : Rz Vl} (h : liftO r p.ρ p.M = some z) (sp : p.Sim Z σ) (d : Done Z Eo σ p Q z) : ∃ n, r = some n ∧ ∀ u H', New Z p.F p.φ p.H n.1 n.2 u H' → Q u H' := by
  obtain ⟨n, hn, rfl⟩ := liftO_some h
  exact ⟨n, hn, fun u H' w => New.done w sp d⟩
theorem s_slc (hK : X.K = Z.K) {a lo hi : E} {ea : Expr} {ol oh : Option Expr} {p2 pos : Pos} (hl : isNo lo = ol.isNone) (hh : isNo hi = oh.isNone) (ha : PE X ea (tE Z Eo (evE Fs C a)))
    (h1 : ∀ e, ol = some e → PE X e (tE Z Eo (evE Fs C lo))) (h2 : ∀ e, oh = some e → PE X e (tE Z Eo (evE Fs C hi))) : PE X (.Subscript ea (.Slice ol oh none p2) pos) (tE Z Eo (evE Fs C (.slc a lo hi))) := by
  obtain ⟨t1, po1, k1⟩ := s_part (Z := Z) (Eo := Eo) (X := X) (Fs := Fs) (C := C) hl h1
  obtain ⟨t2, po2, k2⟩ := s_part (Z := Z) (Eo := Eo) (X := X) (Fs := Fs) (C := C) hh h2
  refine PE.imp (pe_slice (sl_tupA.or sl_list) ha po1 po2) fun σ H Q q => ?_
  obtain ⟨p, rfl, sp, z, hz, d⟩ := q
  unfold evE at hz
  refine sqE gdE sp hz d fun x m q v e1 via sq rx d1 => ?_
  refine k1 gdE sq e1 d1 fun dl ml l t e2 via2 st d2 => ?_
  refine k2 gdE st e2 d2 fun dh mh h u e3 via3 su d3 => ?_
  obtain ⟨n, e4, k⟩ := New.at e3 su d3
  rw [hK]
  exact slS ((RepT.via st (RepT.via sq rx via2) via3).r su.l) e4 k
theorem s_rev (hK : X.K = Z.K) {a : E} {ea : Expr} {k : Nat} {p1 p2 p3 pos : Pos} (ha : PE X ea (tE Z Eo (evE Fs C a))) : PE X (.Subscript ea (.Slice none none (some (.UnaryOp .USub (.Constant (.int 1) k p1) p2)) p3) pos) (tE Z Eo (evE Fs C (.rev a))) := by
  refine PE.imp (pe_revL ha) fun σ H Q q => ?_
  obtain ⟨p, rfl, sp, z, hz, d⟩ := q
  unfold evE at hz
  refine sqE gdE sp hz d fun x m q v e1 via sq rx d1 => ?_
  obtain ⟨n, e4, k⟩ := New.at e1 sq d1
  unfold revD at e4
  split at e4
  · rename_i xs hx
    have hx : x = .py (.list xs) := hx
    subst hx
    cases e4
    obtain ⟨b, vs, rfl, e, rs⟩ := (rx.r sq.l).lst
    exact ⟨b, vs, rfl, by rw [hK]; exact SqL.of e, fun c hc => k _ _ (.lst hc ⟨_, upd_same, rs.rev.stay (stay_upd (φ := q.φ) hc)⟩)⟩
  · cases e4
/-! ### calls -/
theorem RepO.t {p : Pt} {H : Hp} {σ : Sx} {F : Addr → Prop} {φ : List Addr} {fr : Bool} {v : V} {d : D} {ρ : Nv} (sp : LSim Z ρ p.F p.φ σ p.H) (h : RepO Z p.H F φ H fr v d) : RepT Z p.H ρ σ F φ H (mdOf fr) v d := by
  unfold RepO at h
  cases fr with
  | false => exact h
  | true =>
    obtain ⟨a, rfl, r, n1, n2, n3⟩ := h
    refine ⟨a, rfl, r, n1, n2, fun z => ?_, n3⟩
    obtain ⟨⟨vs, e⟩, _⟩ := sp.own_lst z
    rw [n3] at e
    cases e
/-- what a def gives, where its arguments are given away -/
theorem call_done {f : Fn} {σ : Sx} {p q : Pt} {Q : VK} {z : Rz Vl} {ds : List (D × Md)} {vs : List V} (sp : p.Sim Z σ) (via : Via σ p q) (sq : q.Sim Z σ) (rs : RepTs Z p.H q.ρ σ q.F q.φ q.H vs ds)
    (h : bz (f noClo (ds.map (·.1)) q.M) (fun o => vl o.d (mdOf o.fr) (fzs ds q.ρ) o.M) = some z) (d : Done Z Eo σ p Q z) : spF Z f vs q.H Q Eo := by
  obtain ⟨F', mo, x, s', r⟩ := gives (ρ := q.ρ) (F := q.F) via sp sq rs
  refine ⟨ds.map (·.1), q.M, F', q.φ, s'.g, r, ?_⟩
  have d2 := Done.rebase sp x d
  cases e : f noClo (ds.map (·.1)) q.M with
  | none =>
    rw [e] at h
    cases h
  | some y =>
    rw [e] at h
    refine ⟨y, rfl, ?_⟩
    cases y with
    | ok o =>
      have e2 := vl_some (show vl o.d (mdOf o.fr) (fzs ds q.ρ) o.M = some z from h)
      subst e2
      intro F2 φ2 H2 v po g2 ro
      have l2 : LSim Z (fzs ds q.ρ) F2 φ2 σ H2 := s'.l.post po s'.g
      exact d2 ⟨fzs ds q.ρ, o.M, F2, φ2, H2⟩ v rfl rfl ⟨po.mono' (fun _ h => h.elim) (fun _ h => h), Fz.refl _⟩ ⟨g2, l2⟩ (RepO.t (p := ⟨fzs ds q.ρ, q.M, F', q.φ, q.H⟩) s'.l ro |> fun w => by
        cases hfr : o.fr with
        | false =>
          rw [hfr] at w
          exact w
        | true =>
          rw [hfr] at w
          obtain ⟨a, rfl, r', n1, n2, n3, n4⟩ := w
          exact ⟨a, rfl, r', n1, n2, n3, n4⟩)
    | er c v M =>
      have e2 : z = .er c v M := (Option.some.inj h).symm
      subst e2
      exact fun q2 da po er => d2 q2 da (po.mono' (fun _ h => h.elim) fun _ h => h) er
theorem callV_some {k : Nat} {a : Ls} {z : Rz Vl} (h : callV Fs k a = some z) : ∃ f, Fs[k]? = some f ∧ bz (f noClo (a.ds.map (·.1)) a.M) (fun o => vl o.d (mdOf o.fr) (fzs a.ds a.ρ) o.M) = some z := ob_some h
/-- room for the def k -/
def lvB (Γ : Gam) (k : Nat) : Bool := match Γ.lvl[k]? with
  | some l => decide (l ≤ Γ.lv)
  | none => false
theorem XOk.def (ok : XOk X Z Γ Fs Eo) {k : Nat} {f : Fn} (h : lvB Γ k = true) (hf : Fs[k]? = some f) : PySem.W.keepIn X.K (.ref (Z.fa k)) = true ∧ CallR X (.ref (Z.fa k)) fun vs H Q => spF Z f vs H Q Eo := by
  unfold lvB at h
  split at h
  · rename_i l e
    have F := ok.fns k f l hf e
    exact ⟨F.kp, F.callR (ok.room.mono (of_decide_eq_true h)) ok.hg ok.px⟩
  · cases h
theorem s_call (ok : XOk X Z Γ Fs Eo) {k : Nat} {f : Fn} {x : Str} {e : Expr} {es : List Expr} {as : Es} {p pos : Pos} (hf : Fs[k]? = some f) (hl : lvB Γ k = true) (hg : glB Γ x (.fn k) = true) (hu : unst e = true) (hus : es.all unst = true) (hs : PA X (e :: es) (tL Z Eo (evL Fs C as))) :
    PE X (.Call (.Name x p) (e :: es) [] pos) (tE Z Eo (evE Fs C (.call k as))) := by
  obtain ⟨h1, h2, h3⟩ := glB_ok ok hg
  obtain ⟨hk, hc⟩ := ok.def hl hf
  refine PE.imp (pe_callG hc h1 h3 hk hs (nm_all h2).1 (star_one hu) (star_all hus)) fun σ H Q q => ?_
  obtain ⟨p, rfl, sp, z, hz, d⟩ := q
  unfold evE at hz
  refine sqL gdE sp hz d fun ds q vs e1 via sq rs d1 => ?_
  obtain ⟨f', e2, e3⟩ := callV_some e1
  rw [hf] at e2
  cases e2
  exact call_done sp via sq rs e3 d
/-- a call of what a slot holds -/
theorem s_cv (ok : XOk X Z Γ Fs Eo) {ks : List Nat} {i : Nat} {x : Str} {e : Expr} {es : List Expr} {as : Es} {p pos : Pos} (hl : ks.all (lvB Γ) = true) (hv : varOk Γ i x = true) (hu : unst e = true) (hus : es.all unst = true) (hs : PA X (e :: es) (tL Z Eo (evL Fs C as))) :
    PE X (.Call (.Name x p) (e :: es) [] pos) (tE Z Eo (evE Fs C (.cv ks (.var i) as))) := by
  obtain ⟨h1, h2, h3⟩ := varOk_ok ok hv
  refine PE.imp (pe_callS (X := X) (i := i) h1 h2 hs (fun a vs H Q => ∃ k f, a = Z.fa k ∧ Fs[k]? = some f ∧ lvB Γ k = true ∧ spF Z f vs H Q Eo) (fun a hk => ?_) (nm_all h3).1 (nm_all h3).2.1 (star_one hu) (star_all hus)) fun σ H Q q => ?_
  · intro pins s σ H vs us Q I r h
    obtain ⟨k, f, rfl, hf, hl, h⟩ := h
    exact (ok.def hl hf).2 pins s σ H vs us Q I r h
  · obtain ⟨p, rfl, sp, z, hz, d⟩ := q
    unfold evE at hz
    obtain ⟨x, e1, e2⟩ | ⟨c, v, M, e1, _⟩ := bz_some hz
    · have hx := e1
      unfold evE at hx
      have key : ∃ d0, x = ⟨d0, x.m, p.ρ, p.M⟩ ∧ ∃ fl : Bool, p.ρ[i]? = some (some (d0, fl)) := by
        split at hx
        · rename_i d0 e
          have := vl_some hx
          cases this
          exact ⟨d0, rfl, true, e⟩
        · rename_i d0 e
          have := vl_some hx
          cases this
          exact ⟨d0, rfl, false, e⟩
        · cases hx
      obtain ⟨d0, ex, fl, hρ⟩ := key
      rw [ex] at e2
      split at e2
      · rename_i k hd
        have hd : d0 = .fn k := hd
        subst hd
        obtain ⟨hk, e2⟩ := if_some e2
        obtain ⟨f, hf, e2⟩ := ob_some e2
        have hks : lvB Γ k = true := by
          rw [List.all_eq_true] at hl
          exact hl k (List.contains_iff_mem.mp hk)
        cases fl with
        | true =>
          obtain ⟨a, _, r, _⟩ := sp.l.ow i _ hρ
          exact r.elim
        | false =>
          obtain ⟨v, hv, r⟩ := sp.l.sh i _ hρ
          have ev := RepR.fn (Or.inl r)
          subst ev
          refine ⟨Z.fa k, hv, (ok.def hks hf).1, ?_⟩
          refine sqL gdE sp e2 d fun ds q vs e1 via sq rs d1 => ?_
          obtain ⟨f', e3, e4⟩ := callV_some e1
          rw [hf] at e3
          cases e3
          exact ⟨k, f, rfl, hf, hks, call_done sp via sq rs e4 d⟩
      · cases e2
    · unfold evE at e1
      split at e1 <;> cases e1
end
end Ev

/-! Built-in functions called; isinstance of data. -/
namespace Ev
open L2 PyProof.Rows PySem PySem.Spec
section
variable {X : Cx} {Z : Zt} {Γ : Gam} {Fs : List Fn} {C : Nv → Clo} {Eo : XK}
theorem biN_boot (b : Bi) : bootBuiltins (biN b) = some (biV b) := by
  cases b <;> kernel_rfl
theorem pe_callU {u : Value} {r : List V → Hp → VK → Prop} {x : Str} {p pos : Pos} {e : Expr} {es : List Expr} {t : TA} (hu : (∃ n, u = .builtin n) ∨ ∃ n, u = .type n) (hc : CallR X u r) (hg : Gl X x) (hm : X.mg x = none) (hv : bootBuiltins x = some u) (ha : PA X (e :: es) t) (hn : x ≠ "__name__") (hdb : (x == ("__debug__" : Str)) = false)
    (he : starEach (e :: es) X.env = (false, eval e X.env) :: starEach es X.env) (hpl : (backTo pos (starEach es X.env)).any (·.1) = false) : PE X (.Call (.Name x p) (e :: es) [] pos) (tCB r t) := by
  rcases hu with ⟨n, rfl⟩ | ⟨n, rfl⟩
  · exact pe_callB hc hg hm hv ha hn hdb he hpl
  · exact pe_callTy hc hg hm hv ha hn hdb he hpl
theorem biV_form (b : Bi) : (∃ n, biV b = .builtin n) ∨ ∃ n, biV b = .type n := by
  cases b <;> first | exact .inl ⟨_, rfl⟩ | exact .inr ⟨_, rfl⟩
theorem s_biC (ok : XOk X Z Γ Fs Eo) {b : Bi} {e : Expr} {es : List Expr} {as : Es} {p pos : Pos} (hg : glB Γ (biN b) .free = true) (hu : unst e = true) (hus : es.all unst = true) (hs : PA X (e :: es) (tL Z Eo (evL Fs C as))) :
    PE X (.Call (.Name (biN b) p) (e :: es) [] pos) (tE Z Eo (evE Fs C (.bi b as))) := by
  obtain ⟨h1, h2, h3⟩ := glB_ok ok hg
  have R := s_bi X Z ok.hK ok.calm ok.hh ok.hu ok.hg b
  have hc : CallR X (biV b) fun vs H Q => ∃ F : Addr → Prop, (R F).choose vs H Q := by
    intro pins s σ H vs us Q I r h
    obtain ⟨F, h⟩ := h
    exact (R F).choose_spec.1 pins s σ H vs us Q I r h
  refine PE.imp (pe_callU (biV_form b) hc h1 h3 (biN_boot b) hs (nm_all h2).2.2 (nm_all h2).1 (star_one hu) (star_all hus)) fun σ H Q q => ?_
  obtain ⟨p, rfl, sp, z, hz, d⟩ := q
  unfold evE at hz
  refine sqL gdE sp hz d fun ds q vs e1 via sq rs d1 => ?_
  obtain ⟨n, e2, k⟩ := New.at e1 sq d1
  exact ⟨q.F, (R q.F).choose_spec.2 q.φ q.H vs _ n Q (RepTs.rd sq rs) e2 k⟩
/-! isinstance -/
def tyN : D → Option String
  | .py .none => some "NoneType"
  | .py (.bool _) => some "bool"
  | .py (.int _) => some "int"
  | .py (.str _) => some "str"
  | .py (.tuple _) => some "tuple"
  | .py (.list _) => some "list"
  | .mt _ => some "tuple"
  | .ml _ => some "list"
  | _ => none
def tyS : Ty → Option String
  | .tup => some "tuple"
  | .int => some "int"
  | .bool => some "bool"
  | .str => some "str"
  | .lst => some "list"
  | _ => none
theorem ty_of {K : PySem.W.Frag} {F : Addr → Prop} {φ : List Addr} {H : Hp} {v : V} {d : D} {n : String} (r : RepR Z F φ H v d) (h : tyN d = some n) : L2.TyX K H v (.type n) := by
  unfold tyN at h
  split at h <;> cases h
  · rw [r.non]
    exact .base .non
  · rw [r.bl]
    exact .base (.bl _)
  · rw [r.int]
    exact .base (.int _)
  · rw [r.str]
    exact .base (.str _)
  · obtain ⟨a, vs, rfl, e, _⟩ := r.tup
    exact .base (.tup e)
  · obtain ⟨a, vs, rfl, e, _⟩ := r.lst
    exact .base (.lst e)
  · obtain ⟨a, vs, rfl, e, _⟩ := r.mt
    exact .base (.tup e)
  · obtain ⟨a, vs, rfl, e, _⟩ := r.ml
    exact .base (.lst e)
theorem RepR.nodict {F : Addr → Prop} {φ : List Addr} {H : Hp} {v : V} {kvs : List (PyData × PyData)} (h : RepR Z F φ H v (.py (.dict kvs))) : False := by
  rcases h with h | ⟨_, _, h⟩
  · cases h with | py h => cases h
  · exact h
theorem isi_kit {t : Ty} {d : D} {b : Bool} {s : String} (nd : ∀ kvs, d ≠ .py (.dict kvs)) (hs : tyS t = some s) (h : isi t d = some b) : ∃ n, tyN d = some n ∧ kitB n s = some b := by
  cases t with
  | exc c => cases hs
  | verr => cases hs
  | _ =>
    cases hs
    cases d with
    | py p =>
      cases p <;> first
        | exact absurd rfl (nd _)
        | (cases h; exact ⟨_, rfl, by kernel_rfl⟩)
        | cases h
    | mt xs => first
        | (cases h; exact ⟨_, rfl, by kernel_rfl⟩)
        | cases h
    | _ => cases h
def tyB (s : String) : Str := Str.ofString s
theorem boot_ty {t : Ty} {s : String} (h : tyS t = some s) : bootBuiltins (tyB s) = some (.type s) := by
  unfold tyS at h
  split at h <;> cases h <;> kernel_rfl
theorem s_isi (ok : XOk X Z Γ Fs Eo) {t : Ty} {s : String} {a : E} {e : Expr} {p p2 pos : Pos} (ht : tyS t = some s) (hg : glB Γ "isinstance" .free = true) (hg2 : glB Γ (tyB s) .free = true) (hu : unst e = true) (ha : PE X e (tE Z Eo (evE Fs C a))) :
    PE X (.Call (.Name "isinstance" p) [e, .Name (tyB s) p2] [] pos) (tE Z Eo (evE Fs C (.isi t a))) := by
  obtain ⟨h1, h2, h3⟩ := glB_ok ok hg
  obtain ⟨g1, g2, g3⟩ := glB_ok ok hg2
  have hT : PE X (.Name (tyB s) p2) (tC (.ty s)) := pe_bltn g1 g3 (boot_ty ht) rfl (nm_all g2).2.2 (nm_all g2).1
  refine PE.imp (pe_callB call_isi h1 h3 (by kernel_rfl) (pa_cons ha (pa_cons hT pa_nil) (star_one hu)) (nm_all h2).2.2 (nm_all h2).1 (star_one hu) (star_all rfl)) fun σ H Q q => ?_
  obtain ⟨p, rfl, sp, z, hz, d⟩ := q
  unfold evE at hz
  refine sqE gdE sp hz d fun x m q v h1 via sq rx d1 => ?_
  obtain ⟨b, e1, h1⟩ := ob_some h1
  rw [vl_some h1] at d1
  obtain ⟨n, e2, e3⟩ := isi_kit (fun kvs e => by have e : x = .py (.dict kvs) := e; rw [e] at rx; exact RepR.nodict (rx.r sq.l)) ht e1
  exact ⟨v, .ty s, .type n, .type s, b, rfl, .ty s, ty_of (rx.r sq.l) e2, kit_ty e3, d1.sh sq (rBl _)⟩
end
end Ev

/-! What is walked. -/
namespace Ev
open L2 PyProof.Rows PySem PySem.Spec
/-- a walk: a list or a tuple (numbered or not), numbers, two at once -/
inductive Wk where
  | l (a : Addr)
  | t (a : Addr)
  | el (a : Addr)
  | et (a : Addr)
  | r (lo : Int) (n : Nat)
  | rc (lo st : Int) (n : Nat)
  | zl (a b : Addr)
  | zt (a b : Addr)
def itOf (K : PySem.W.Frag) : Wk → It
  | .l a => Itl K a
  | .t a => Itt K a
  | .el a => Ite K a
  | .et a => IteT K a
  | .r lo n => Itr lo n
  | .rc lo st n => Itc lo st n
  | .zl a b => Itz K a b
  | .zt a b => RZ.ItzT K a b
/-- the lists among what is walked -/
def Wk.ls : Wk → List Addr
  | .l a => [a]
  | .el a => [a]
  | .zl a b => [a, b]
  | _ => []
def numsL (lo st : Int) (n : Nat) : List D := (List.range n).map fun (i : Nat) => .py (.int (lo + (i : Int) * st))
def WkAt (Z : Zt) (F : Addr → Prop) (φ : List Addr) (H : Hp) (xs : List D) : Wk → Prop
  | .l a => ∃ vs, SqL Z.K H a vs ∧ Reps Z F φ H vs xs
  | .t a => ∃ vs, SqT Z.K H a vs ∧ Reps Z F φ H vs xs
  | .el a => ∃ vs ds, SqL Z.K H a vs ∧ Reps Z F φ H vs ds ∧ xs = enuFrom 0 ds
  | .et a => ∃ vs ds, SqT Z.K H a vs ∧ Reps Z F φ H vs ds ∧ xs = enuFrom 0 ds
  | .r lo n => xs = numsL lo 1 n
  | .rc lo st n => xs = numsL lo st n
  | .zl a b => ∃ vs ws ds es, SqL Z.K H a vs ∧ SqL Z.K H b ws ∧ Reps Z F φ H vs ds ∧ Reps Z F φ H ws es ∧ xs = zipL ds es
  | .zt a b => ∃ vs ws ds es, SqT Z.K H a vs ∧ SqT Z.K H b ws ∧ Reps Z F φ H vs ds ∧ Reps Z F φ H ws es ∧ xs = zipL ds es
section
variable {Z : Zt} {F F' : Addr → Prop} {φ φ' : List Addr} {H H' : Hp} {xs : List D}
theorem SqL.kept {a : Addr} {vs : List V} (h : SqL Z.K H a vs) (s : Stay F φ H F' φ' H') (k : ∀ vs, H a = some (.lst vs) → H' a = some (.lst vs)) : SqL Z.K H' a vs := by
  rcases h with (h | ⟨o, h⟩) | h
  · exact .inl (.inl (k vs h))
  · exact .inl (.inr ⟨o, s.fro _ _ _ h⟩)
  · exact .inr h
theorem SqT.kept {a : Addr} {vs : List V} (h : SqT Z.K H a vs) (s : Stay F φ H F' φ' H') : SqT Z.K H' a vs := by
  rcases h with (h | ⟨o, h⟩) | h
  · exact .inl (.inl (s.tup _ _ h))
  · exact .inl (.inr ⟨o, s.fro _ _ _ h⟩)
  · exact .inr h
theorem WkAt.kept {w : Wk} (h : WkAt Z F φ H xs w) (s : Stay F φ H F' φ' H') (k : ∀ a ∈ w.ls, ∀ vs, H a = some (.lst vs) → H' a = some (.lst vs)) : WkAt Z F' φ' H' xs w := by
  cases w with
  | l a =>
    obtain ⟨vs, h1, h2⟩ := h
    exact ⟨vs, SqL.kept h1 s (k a (by simp [Wk.ls])), h2.stay s⟩
  | t a =>
    obtain ⟨vs, h1, h2⟩ := h
    exact ⟨vs, SqT.kept h1 s, h2.stay s⟩
  | el a =>
    obtain ⟨vs, ds, h1, h2, h3⟩ := h
    exact ⟨vs, ds, SqL.kept h1 s (k a (by simp [Wk.ls])), h2.stay s, h3⟩
  | et a =>
    obtain ⟨vs, ds, h1, h2, h3⟩ := h
    exact ⟨vs, ds, SqT.kept h1 s, h2.stay s, h3⟩
  | r lo n => exact h
  | rc lo st n => exact h
  | zl a b =>
    obtain ⟨vs, ws, ds, es, h1, h2, h3, h4, h5⟩ := h
    exact ⟨vs, ws, ds, es, SqL.kept h1 s (k a (by simp [Wk.ls])), SqL.kept h2 s (k b (by simp [Wk.ls])), h3.stay s, h4.stay s, h5⟩
  | zt a b =>
    obtain ⟨vs, ws, ds, es, h1, h2, h3, h4, h5⟩ := h
    exact ⟨vs, ws, ds, es, SqT.kept h1 s, SqT.kept h2 s, h3.stay s, h4.stay s, h5⟩
theorem enu_at : ∀ {ds : List D} {n i : Nat} {x : D}, (enuFrom n ds)[i]? = some x → ∃ d, ds[i]? = some d ∧ x = mkT [.py (.int ((n + i : Nat) : Int)), d]
  | [], n, i, x, h => by simp [enuFrom] at h
  | d :: ds, n, 0, x, h => by
    simp [enuFrom] at h
    exact ⟨d, rfl, h.symm⟩
  | d :: ds, n, i + 1, x, h => by
    obtain ⟨e, h1, h2⟩ := enu_at (ds := ds) (n := n + 1) (i := i) (by simpa [enuFrom] using h)
    exact ⟨e, by simpa using h1, by rw [h2, show n + 1 + i = n + (i + 1) by omega]⟩
theorem enu_len : ∀ (ds : List D) (n : Nat), (enuFrom n ds).length = ds.length
  | [], _ => rfl
  | d :: ds, n => congrArg (· + 1) (enu_len ds (n + 1))
theorem zip_at : ∀ {ds es : List D} {i : Nat} {x : D}, (zipL ds es)[i]? = some x → ∃ d e, ds[i]? = some d ∧ es[i]? = some e ∧ x = mkT [d, e]
  | [], es, i, x, h => by simp [zipL] at h
  | d :: ds, [], i, x, h => by simp [zipL] at h
  | d :: ds, e :: es, 0, x, h => by
    simp [zipL] at h
    exact ⟨d, e, rfl, rfl, h.symm⟩
  | d :: ds, e :: es, i + 1, x, h => by
    obtain ⟨d', e', h1, h2, h3⟩ := zip_at (ds := ds) (es := es) (i := i) (by simpa [zipL] using h)
    exact ⟨d', e', by simpa using h1, by simpa using h2, h3⟩
theorem zip_len : ∀ (ds es : List D), (zipL ds es).length = min ds.length es.length
  | [], es => by simp [zipL]
  | d :: ds, [] => by simp [zipL]
  | d :: ds, e :: es => by simp [zipL, zip_len ds es]
theorem Reps.lenEq {vs : List V} {ds : List D} (h : Reps Z F φ H vs ds) : vs.length = ds.length := h.len
/-- a pair that is made on the way -/
theorem pair_new {T : Addr} {v w : V} {d e : D} (hT : H T = none) (r1 : Rep Z F φ H v d) (r2 : Rep Z F φ H w e) : New Z F φ H (mkT [d, e]) false (.ref T) (upd H T (.tup [v, w])) :=
  .tup hT (Reps.mkT (.cons (r1.stay (stay_upd hT)) (.cons (r2.stay (stay_upd hT)) .nil)) upd_same)
theorem WkAt.item {w : Wk} {i : Nat} {d : D} (h : WkAt Z F φ H xs w) (hd : xs[i]? = some d) : (itOf Z.K w).go i H ∧ ∀ v H', (itOf Z.K w).yld i H v H' → New Z F φ H d false v H' := by
  cases w with
  | l a =>
    obtain ⟨vs, h1, h2⟩ := h
    obtain ⟨u, e, r⟩ := h2.get hd
    refine ⟨⟨vs, u, h1, e⟩, fun v H' ⟨e1, e2⟩ => ?_⟩
    have e3 := e2 vs h1
    rw [e] at e3
    cases e3
    rw [e1]
    exact .same r
  | t a =>
    obtain ⟨vs, h1, h2⟩ := h
    obtain ⟨u, e, r⟩ := h2.get hd
    refine ⟨⟨vs, u, h1, e⟩, fun v H' ⟨e1, e2⟩ => ?_⟩
    have e3 := e2 vs h1
    rw [e] at e3
    cases e3
    rw [e1]
    exact .same r
  | el a =>
    obtain ⟨vs, ds, h1, h2, rfl⟩ := h
    obtain ⟨d', e1, rfl⟩ := enu_at hd
    obtain ⟨u, e, r⟩ := h2.get e1
    refine ⟨⟨vs, u, h1, e⟩, fun v H' ⟨T, x, e2, e3, e4, e5⟩ => ?_⟩
    have e6 := e5 vs h1
    rw [e] at e6
    cases e6
    rw [e2, e4, show ((0 + i : Nat) : Int) = (i : Int) by omega]
    exact pair_new e3 (rInt _) r
  | et a =>
    obtain ⟨vs, ds, h1, h2, rfl⟩ := h
    obtain ⟨d', e1, rfl⟩ := enu_at hd
    obtain ⟨u, e, r⟩ := h2.get e1
    refine ⟨⟨vs, u, h1, e⟩, fun v H' ⟨T, x, e2, e3, e4, e5⟩ => ?_⟩
    have e6 := e5 vs h1
    rw [e] at e6
    cases e6
    rw [e2, e4, show ((0 + i : Nat) : Int) = (i : Int) by omega]
    exact pair_new e3 (rInt _) r
  | r lo n =>
    have h : xs = numsL lo 1 n := h
    subst h
    have hi : i < n := by
      have := (List.getElem?_eq_some_iff.mp hd).1
      simpa [numsL] using this
    have e : d = .py (.int (lo + i)) := by
      simp [numsL, hi] at hd
      exact hd.symm
    subst e
    exact ⟨hi, fun v H' ⟨e1, e2⟩ => by
      rw [e1, e2]
      exact .same (rInt _)⟩
  | rc lo st n =>
    have h : xs = numsL lo st n := h
    subst h
    have hi : i < n := by
      have := (List.getElem?_eq_some_iff.mp hd).1
      simpa [numsL] using this
    have e : d = .py (.int (lo + i * st)) := by
      simp [numsL, hi] at hd
      exact hd.symm
    subst e
    exact ⟨hi, fun v H' ⟨e1, e2⟩ => by
      rw [e1, e2]
      exact .same (rInt _)⟩
  | zl a b =>
    obtain ⟨vs, ws, ds, es, h1, h2, h3, h4, rfl⟩ := h
    obtain ⟨d', e', g1, g2, rfl⟩ := zip_at hd
    obtain ⟨u, e1, r1⟩ := h3.get g1
    obtain ⟨u2, e2, r2⟩ := h4.get g2
    refine ⟨⟨vs, ws, u, u2, h1, h2, e1, e2⟩, fun v H' ⟨T, x, y, e3, e4, e5, e6, e7⟩ => ?_⟩
    have e8 := e6 vs h1
    have e9 := e7 ws h2
    rw [e1] at e8
    rw [e2] at e9
    cases e8
    cases e9
    rw [e3, e5]
    exact pair_new e4 r1 r2
  | zt a b =>
    obtain ⟨vs, ws, ds, es, h1, h2, h3, h4, rfl⟩ := h
    obtain ⟨d', e', g1, g2, rfl⟩ := zip_at hd
    obtain ⟨u, e1, r1⟩ := h3.get g1
    obtain ⟨u2, e2, r2⟩ := h4.get g2
    refine ⟨⟨vs, ws, u, u2, h1, h2, e1, e2⟩, fun v H' ⟨T, x, y, e3, e4, e5, e6, e7⟩ => ?_⟩
    have e8 := e6 vs h1
    have e9 := e7 ws h2
    rw [e1] at e8
    rw [e2] at e9
    cases e8
    cases e9
    rw [e3, e5]
    exact pair_new e4 r1 r2
theorem WkAt.end {w : Wk} (h : WkAt Z F φ H xs w) : (itOf Z.K w).stop xs.length H := by
  cases w with
  | l a =>
    obtain ⟨vs, h1, h2⟩ := h
    exact ⟨vs, h1, Nat.le_of_eq h2.len⟩
  | t a =>
    obtain ⟨vs, h1, h2⟩ := h
    exact ⟨vs, h1, Nat.le_of_eq h2.len⟩
  | el a =>
    obtain ⟨vs, ds, h1, h2, rfl⟩ := h
    exact ⟨vs, h1, by rw [enu_len, h2.len]; exact Nat.le_refl _⟩
  | et a =>
    obtain ⟨vs, ds, h1, h2, rfl⟩ := h
    exact ⟨vs, h1, by rw [enu_len, h2.len]⟩
  | r lo n =>
    have h : xs = numsL lo 1 n := h
    subst h
    show n ≤ _
    simp [numsL]
  | rc lo st n =>
    have h : xs = numsL lo st n := h
    subst h
    show n ≤ _
    simp [numsL]
  | zl a b =>
    obtain ⟨vs, ws, ds, es, h1, h2, h3, h4, rfl⟩ := h
    refine ⟨vs, ws, h1, h2, ?_⟩
    rw [zip_len, h3.len, h4.len]
    omega
  | zt a b =>
    obtain ⟨vs, ws, ds, es, h1, h2, h3, h4, rfl⟩ := h
    refine ⟨vs, ws, h1, h2, ?_⟩
    rw [zip_len, h3.len, h4.len]
    omega
end
end Ev

/-! Sources of walks. -/
namespace Ev
open L2 PyProof.Rows PySem PySem.Spec
def DoneI (Z : Zt) (Eo : XK) (σ : Sx) (p : Pt) (R : It → Hp → Prop) : Rz Vl → Prop
  | .ok s => ∀ (q : Pt) (w : Wk) (xs : List D) (F' : Addr → Prop), q.ρ = s.ρ → q.M = s.M → Via σ p q → q.Sim Z σ → items s.d = some xs → WkAt Z q.F q.φ q.H xs w → (∀ a ∈ w.ls, a ∉ q.φ) → (∀ b, q.F b → F' b) →
    Via σ p ⟨fz s.m q.ρ, q.M, F', q.φ, q.H⟩ → Sim Z (fz s.m q.ρ) q.M F' q.φ σ q.H → (∀ a ∈ w.ls, ∀ vs, q.H a = some (.lst vs) → F' a) → R (itOf Z.K w) q.H
  | .er c v M => ErD Z Eo σ p c v M
def iS (Z : Zt) (Eo : XK) (f : Nv → Mem → RE) : TI := fun σ H R => ∃ p : Pt, p.H = H ∧ p.Sim Z σ ∧ ∃ r, f p.ρ p.M = some r ∧ DoneI Z Eo σ p R r
theorem PI.imp {X : Cx} {tg e : Expr} {t t' : TI} (h : PI X tg e t) (i : ∀ σ H R, t' σ H R → t σ H R) : PI X tg e t' := ⟨fun pins s σ H Q I q => h.run pins s σ H Q I (i _ _ _ q)⟩
section
variable {X : Cx} {Z : Zt} {Γ : Gam} {Fs : List Fn} {C : Nv → Clo} {Eo : XK}
theorem DoneI.rebase {σ : Sx} {p q : Pt} {R : It → Hp → Prop} {z : Rz Vl} (sp : p.Sim Z σ) (sq : q.Sim Z σ) (x : Via σ p q) (d : DoneI Z Eo σ p R z) : DoneI Z Eo σ q R z := by
  cases z with
  | ok r => exact fun s w xs F' e1 e2 y sy it wk h1 h2 v s2 h3 => d s w xs F' e1 e2 (x.trans sp y) sy it wk h1 h2 (x.trans sp v) s2 h3
  | er c v M => exact ErD.rebase sp x d
theorem gdI {σ : Sx} {R : It → Hp → Prop} : Gd Z Eo σ fun p (z : Rz Vl) => DoneI Z Eo σ p R z := ⟨fun _ _ _ _ _ h => h, fun _ _ _ sp sq x d => d.rebase sp sq x⟩
/-- what a frozen or owned list's place is not -/
theorem RepT.nocel {H0 : Hp} {ρ : Nv} {σ : Sx} {M : Mem} {F : Addr → Prop} {φ : List Addr} {H : Hp} {m : Md} {a : Addr} {d : D} {xs : List D} (g : GSim Z M F φ H) (l : LSim Z ρ F φ σ H) (h : RepT Z H0 ρ σ F φ H m (.ref a) d) (hd : items d = some xs) (hl : isLst d = true) : a ∉ φ := by
  have rep : Rep Z F φ H (.ref a) d → a ∉ φ := fun r => by
    cases r with
    | py r =>
      cases r with
      | lst hf _ _ => exact (g.dom a hf).2
      | tup _ _ => cases hl
    | mt _ _ => cases hl
    | ml hf _ _ => exact (g.dom a hf).2
    | fn k => cases hl
    | exc _ _ _ _ _ => cases hl
    | cel _ => cases hl
    | scr _ => cases hd
  cases m with
  | sh => exact rep h
  | fr =>
    obtain ⟨b, e, _, _, n, _⟩ := h
    cases e
    exact n
  | bo i =>
    obtain ⟨h1, fl, h2⟩ := h
    cases fl with
    | true =>
      obtain ⟨b, e, _, _, n, _⟩ := l.ow i d h2
      rw [h1] at e
      cases e
      exact n
    | false =>
      obtain ⟨v, e, r⟩ := l.sh i d h2
      rw [h1] at e
      cases e
      exact rep r
theorem Rep.lstF {F : Addr → Prop} {φ : List Addr} {H : Hp} {a : Addr} {d : D} {xs : List D} (h : Rep Z F φ H (.ref a) d) (hd : items d = some xs) (hl : isLst d = true) : F a := by
  cases h with
  | py r =>
    cases r with
    | lst hf _ _ => exact hf
    | tup _ _ => cases hl
  | mt _ _ => cases hl
  | ml hf _ _ => exact hf
  | fn k => cases hl
  | exc _ _ _ _ _ => cases hl
  | cel _ => cases hl
  | scr _ => cases hd
/-- a source at hand -/
theorem srcAt {σ : Sx} {p q : Pt} {x : D} {m : Md} {v : V} {xs : List D} (sp : p.Sim Z σ) (via : Via σ p q) (sq : q.Sim Z σ) (rx : RepT Z p.H q.ρ σ q.F q.φ q.H m v x) (hx : items x = some xs) :
    ∃ (F' : Addr → Prop) (b : Addr) (vs : List V), v = .ref b ∧ Reps Z q.F q.φ q.H vs xs ∧ (∀ b, q.F b → F' b) ∧ Via σ p ⟨fz m q.ρ, q.M, F', q.φ, q.H⟩ ∧ Sim Z (fz m q.ρ) q.M F' q.φ σ q.H ∧ (SqT Z.K q.H b vs ∧ isLst x = false ∨ SqL Z.K q.H b vs ∧ isLst x = true ∧ b ∉ q.φ ∧ F' b) := by
  obtain ⟨b, vs, rfl, hs, rs⟩ := seq_of (rx.r sq.l) hx
  obtain ⟨F', mo, nw, f, x1, s1, r1⟩ := give1 (q := q) via sp sq rx
  refine ⟨F', b, vs, rfl, rs, mo, x1, s1, ?_⟩
  rcases hs with ⟨h1, h2⟩ | ⟨h1, h2⟩
  · exact .inl ⟨h1, h2⟩
  · exact .inr ⟨h1, h2, RepT.nocel sq.g sq.l rx hx h2, r1.lstF hx h2⟩
theorem s_srcIt (hK : X.K = Z.K) {tg e : Expr} {a : E} (ha : PE X e (tE Z Eo (evE Fs C a))) : PI X tg e (iS Z Eo (evSrc Fs C (.it a))) := by
  refine ⟨fun pins s σ H R I h => ?_⟩
  obtain ⟨p, rfl, sp, z, hz, d⟩ := h
  unfold evSrc at hz
  have same : ∀ {x : D} {m : Md} {ρ : Nv} {M : Mem}, (ob (items x) fun _ => some (Rz.ok ⟨x, m, ρ, M⟩)) = some z → ∃ xs, items x = some xs ∧ z = .ok ⟨x, m, ρ, M⟩ := fun {x m ρ M} h => by
    obtain ⟨xs, h1, h2⟩ := ob_some h
    exact ⟨xs, h1, (Option.some.inj h2).symm⟩
  by_cases hl : ∃ r, z = .ok r ∧ isLst r.d = false
  · refine (pi_tup ha).run pins s σ p.H R I (sqE gdI sp hz d fun x m q v h1 via sq rx d1 => ?_)
    obtain ⟨xs, hx, rfl⟩ := same h1
    obtain ⟨r, e, hl⟩ := hl
    cases e
    obtain ⟨F', b, vs, rfl, rs, mo, x1, s1, hs⟩ := srcAt sp via sq rx hx
    rcases hs with ⟨h1, h2⟩ | ⟨_, h2, _⟩
    · rw [hK]
      exact ⟨b, rfl, ⟨vs, h1⟩, d q (.t b) xs F' rfl rfl via sq hx ⟨vs, h1, rs⟩ (fun c hc => by cases hc) mo x1 s1 fun c hc => by cases hc⟩
    · rw [hl] at h2
      cases h2
  · refine (pi_list ha).run pins s σ p.H R I (sqE gdI sp hz d fun x m q v h1 via sq rx d1 => ?_)
    obtain ⟨xs, hx, rfl⟩ := same h1
    obtain ⟨F', b, vs, rfl, rs, mo, x1, s1, hs⟩ := srcAt sp via sq rx hx
    rcases hs with ⟨h1, h2⟩ | ⟨h1, h2, h3, h4⟩
    · exact absurd ⟨_, rfl, h2⟩ hl
    · rw [hK]
      exact ⟨b, rfl, ⟨vs, h1⟩, d q (.l b) xs F' rfl rfl via sq hx ⟨vs, h1, rs⟩ (fun c hc => by
        rw [List.mem_singleton.mp hc]
        exact h3) mo x1 s1 fun c hc ws hw => by
        rw [List.mem_singleton.mp hc]
        exact h4⟩
/-- enumerate(e) -/
theorem s_srcEn (ok : XOk X Z Γ Fs Eo) {elts : List Expr} {kk : Nat} {e : Expr} {a : E} {p tp pos : Pos} (hg : glB Γ "enumerate" .free = true) (hu : unst e = true) (ha : PE X e (tE Z Eo (evE Fs C a))) :
    PI X (.Tuple elts kk tp) (.Call (.Name "enumerate" p) [e] [] pos) (iS Z Eo (evSrc Fs C (.enu a))) := by
  obtain ⟨h1, h2, h3⟩ := glB_ok ok hg
  refine PI.imp (pi_enA h1 h3 (pa_cons ha pa_nil (star_one hu)) (star_one hu)) fun σ H R q => ?_
  obtain ⟨p, rfl, sp, z, hz, d⟩ := q
  unfold evSrc at hz
  refine sqE gdI sp hz d fun x m q v e1 via sq rx d1 => ?_
  obtain ⟨xs, hx, e1⟩ := ob_some e1
  have e2 := vl_some e1
  subst e2
  obtain ⟨F', b, vs, rfl, rs, mo, x1, s1, hs⟩ := srcAt sp via sq rx hx
  rw [ok.hK]
  refine ⟨b, vs, rfl, ?_⟩
  rcases hs with ⟨g1, g2⟩ | ⟨g1, g2, g3, g4⟩
  · exact .inr ⟨g1, d q (.et b) (enuFrom 0 xs) F' rfl rfl via sq rfl ⟨vs, xs, g1, rs, rfl⟩ (fun c hc => by cases hc) mo x1 s1 fun c hc => by cases hc⟩
  · exact .inl ⟨g1, d q (.el b) (enuFrom 0 xs) F' rfl rfl via sq rfl ⟨vs, xs, g1, rs, rfl⟩ (fun c hc => by
      rw [List.mem_singleton.mp hc]
      exact g3) mo x1 s1 fun c hc ws hw => by
      rw [List.mem_singleton.mp hc]
      exact g4⟩
/-- range(..) -/
theorem rngL_some {lo hi st : Int} {xs : List D} (h : rngL lo hi st = some xs) : -(2 ^ 40) ≤ lo ∧ lo < 2 ^ 40 ∧ -(2 ^ 40) ≤ hi ∧ hi < 2 ^ 40 ∧ st ≠ 0 ∧ st.natAbs < 2 ^ 20 ∧ xs = numsL lo st (rngN lo hi st) := by
  unfold rngL at h
  obtain ⟨h1, h2⟩ := if_some h
  simp only [Bool.and_eq_true, decide_eq_true_eq] at h1
  obtain ⟨⟨⟨⟨⟨⟨a, b⟩, c⟩, d⟩, e⟩, f⟩, g⟩ := h1
  exact ⟨a, b, c, d, e, f, (Option.some.inj h2).symm⟩
theorem rngN1 (lo hi : Int) : rngN lo hi 1 = (hi - lo).toNat := by
  unfold rngN
  rw [if_pos (by decide), Int.ediv_one]
  congr 1
  omega
theorem rng_size {lo hi st : Int} (h : st ≠ 0) : Builtin.Range.rangeSize lo hi st = rngN lo hi st := by
  unfold Builtin.Range.rangeSize rngN
  by_cases hp : st > 0
  · rw [if_pos hp, if_pos hp]
    have e : hi - lo + st - 1 = (hi - lo - 1) + 1 * st := by omega
    rw [e, Int.add_mul_ediv_right _ _ (by omega)]
    by_cases hl : lo < hi
    · rw [if_pos hl]
      have := Int.ediv_nonneg (a := hi - lo - 1) (b := st) (by omega) (by omega)
      omega
    · rw [if_neg hl]
      have : (hi - lo - 1) / st < 0 := Int.ediv_neg_of_neg_of_pos (by omega) hp
      omega
  · rw [if_neg hp, if_neg hp]
    have hm : 0 < -st := by omega
    have e : lo - hi + -st - 1 = (lo - hi - 1) + 1 * -st := by omega
    rw [e, Int.add_mul_ediv_right _ _ (by omega)]
    by_cases hl : lo > hi
    · rw [if_pos hl]
      have := Int.ediv_nonneg (a := lo - hi - 1) (b := -st) (by omega) (by omega)
      omega
    · rw [if_neg hl]
      have : (lo - hi - 1) / -st < 0 := Int.ediv_neg_of_neg_of_pos (by omega) hm
      omega
theorem fits_long {x : Int} (h1 : -(2 ^ 62) ≤ x) (h2 : x < 2 ^ 62) : Builtin.Range.rangeFitsLong x = true := by
  unfold Builtin.Range.rangeFitsLong
  simp
  omega
theorem rng_small {lo hi st : Int} (h : st ≠ 0) (h1 : -(2 ^ 40) ≤ lo) (h2 : lo < 2 ^ 40) (h3 : -(2 ^ 40) ≤ hi) (h4 : hi < 2 ^ 40) (h5 : st.natAbs < 2 ^ 20) : Builtin.Range.small lo hi st = true := by
  have hs : 0 ≤ Builtin.Range.rangeSize lo hi st ∧ Builtin.Range.rangeSize lo hi st ≤ 2 ^ 41 := by
    unfold Builtin.Range.rangeSize
    split
    · split
      · have a := Int.ediv_nonneg (a := hi - lo - 1) (b := st) (by omega) (by omega)
        have b := Int.ediv_le_self (a := hi - lo - 1) st (by omega)
        omega
      · omega
    · split
      · have a := Int.ediv_nonneg (a := lo - hi - 1) (b := -st) (by omega) (by omega)
        have b := Int.ediv_le_self (a := lo - hi - 1) (-st) (by omega)
        omega
      · omega
  unfold Builtin.Range.small
  rw [fits_long (by omega) (by omega), fits_long (by omega) (by omega), fits_long (by omega) (by omega), fits_long (by omega) (by omega)]
  simp only [Bool.and_self, Bool.true_and, Bool.or_eq_true]
  right
  split
  · exact fits_long (by omega) (by omega)
  · exact fits_long (by omega) (by omega)
theorem rng_go {σ : Sx} {p q : Pt} {R : It → Hp → Prop} {z : Rz Vl} {w : Wk} {xs : List D} (via : Via σ p q) (sq : q.Sim Z σ) (d : DoneI Z Eo σ p R z) (h : vl (.ml xs) .sh q.ρ q.M = some z) (hw : WkAt Z q.F q.φ q.H xs w) (hl : w.ls = []) : R (itOf Z.K w) q.H := by
  rw [vl_some h] at d
  exact d q w xs q.F rfl rfl via sq rfl hw (by rw [hl]; exact fun a h => by cases h) (fun _ h => h) via sq (by rw [hl]; exact fun a h => by cases h)
theorem s_rng1 (ok : XOk X Z Γ Fs Eo) {tg eb : Expr} {b : E} {p pos : Pos} (hg : glB Γ "range" .free = true) (hu : unst eb = true) (hb : PE X eb (tE Z Eo (evE Fs C b))) : PI X tg (.Call (.Name "range" p) [eb] [] pos) (iS Z Eo (evSrc Fs C (.rng1 b))) := by
  obtain ⟨h1, h2, h3⟩ := glB_ok ok hg
  refine PI.imp (pi_range1 h1 h3 (pa_cons hb pa_nil (star_one hu)) (star_one hu)) fun σ H R q => ?_
  obtain ⟨p, rfl, sp, z, hz, d⟩ := q
  unfold evSrc at hz
  refine sqE gdI sp hz d fun x m q v e1 via sq rx d1 => ?_
  obtain ⟨j, rfl, e1⟩ := gi_some e1
  obtain ⟨xs, e2, e1⟩ := ob_some e1
  obtain ⟨_, _, g3, g4, _, _, rfl⟩ := rngL_some e2
  rw [rngN1] at e1
  refine ⟨j, by rw [(rx.r sq.l).int], by omega, by omega, ?_⟩
  have w := rng_go (w := .r 0 (j - 0).toNat) via sq d e1 rfl rfl
  rw [Int.sub_zero] at w
  exact w
theorem s_rng2 (ok : XOk X Z Γ Fs Eo) {tg ea eb : Expr} {a b : E} {p pos : Pos} (hg : glB Γ "range" .free = true) (hua : unst ea = true) (hu : unst eb = true) (ha : PE X ea (tE Z Eo (evE Fs C a))) (hb : PE X eb (tE Z Eo (evE Fs C b))) :
    PI X tg (.Call (.Name "range" p) [ea, eb] [] pos) (iS Z Eo (evSrc Fs C (.rng2 a b))) := by
  obtain ⟨h1, h2, h3⟩ := glB_ok ok hg
  refine PI.imp (pi_range2 h1 h3 (pa_cons ha (pa_cons hb pa_nil (star_one hu)) (star_one hua)) (by rw [star_one hua, star_one hu]; rfl) (star_one hu)) fun σ H R q => ?_
  obtain ⟨p, rfl, sp, z, hz, d⟩ := q
  unfold evSrc at hz
  refine sqE gdI sp hz d fun x m q v e1 via sq rx d1 => ?_
  obtain ⟨i, rfl, e1⟩ := gi_some e1
  refine sqE gdI sq e1 d1 fun y m2 t w e1 via2 st ry d2 => ?_
  obtain ⟨j, rfl, e1⟩ := gi_some e1
  obtain ⟨xs, e2, e1⟩ := ob_some e1
  obtain ⟨g1, g2, g3, g4, _, _, rfl⟩ := rngL_some e2
  rw [rngN1] at e1
  refine ⟨i, j, by rw [(rx.r sq.l).int, (ry.r st.l).int], ⟨by omega, by omega, by omega, by omega⟩, ?_⟩
  exact rng_go (w := .r i (j - i).toNat) (via.trans sp via2) st d e1 rfl rfl
theorem s_rng3 (ok : XOk X Z Γ Fs Eo) {tg ea eb ec : Expr} {a b c : E} {p pos : Pos} (hg : glB Γ "range" .free = true) (hua : unst ea = true) (hu : unst eb = true) (huc : unst ec = true) (ha : PE X ea (tE Z Eo (evE Fs C a))) (hb : PE X eb (tE Z Eo (evE Fs C b))) (hc : PE X ec (tE Z Eo (evE Fs C c))) :
    PI X tg (.Call (.Name "range" p) [ea, eb, ec] [] pos) (iS Z Eo (evSrc Fs C (.rng3 a b c))) := by
  obtain ⟨h1, h2, h3⟩ := glB_ok ok hg
  refine PI.imp (pi_range3 h1 h3 (pa_cons ha (pa_cons hb (pa_cons hc pa_nil (star_one huc)) (star_one hu)) (star_one hua)) (star_one hua) (star_all (by simp [hu, huc]))) fun σ H R q => ?_
  obtain ⟨p, rfl, sp, z, hz, d⟩ := q
  unfold evSrc at hz
  refine sqE gdI sp hz d fun x m q v e1 via sq rx d1 => ?_
  obtain ⟨i, rfl, e1⟩ := gi_some e1
  refine sqE gdI sq e1 d1 fun y m2 t w e1 via2 st ry d2 => ?_
  obtain ⟨j, rfl, e1⟩ := gi_some e1
  refine sqE gdI st e1 d2 fun y' m3 u w' e1 via3 su rz d3 => ?_
  obtain ⟨k, rfl, e1⟩ := gi_some e1
  obtain ⟨xs, e2, e1⟩ := ob_some e1
  obtain ⟨g1, g2, g3, g4, g5, g6, rfl⟩ := rngL_some e2
  refine ⟨i, j, k, rngN i j k, by rw [(rx.r sq.l).int, (ry.r st.l).int, (rz.r su.l).int], ⟨g5, by omega, rng_small g5 g1 g2 g3 g4 g6, rng_size g5⟩, ?_⟩
  exact rng_go (w := .rc i k (rngN i j k)) ((via.trans sp via2).trans sp via3) su d e1 rfl rfl
/-- zip(a, b), both of one kind -/
theorem s_srcZp (ok : XOk X Z Γ Fs Eo) {elts : List Expr} {kk : Nat} {ea eb : Expr} {a b : E} {p tp pos : Pos} (hg : glB Γ "zip" .free = true) (hua : unst ea = true) (hu : unst eb = true) (ha : PE X ea (tE Z Eo (evE Fs C a))) (hb : PE X eb (tE Z Eo (evE Fs C b))) :
    PI X (.Tuple elts kk tp) (.Call (.Name "zip" p) [ea, eb] [] pos) (iS Z Eo (evSrc Fs C (.zip a b))) := by
  obtain ⟨h1, h2, h3⟩ := glB_ok ok hg
  refine PI.imp (RZ.pi_zipA h1 h3 (pa_cons ha (pa_cons hb pa_nil (star_one hu)) (star_one hua)) (star_one hua) (star_all (by simp [hu]))) fun σ H R q => ?_
  obtain ⟨p, rfl, sp, z, hz, d⟩ := q
  unfold evSrc at hz
  refine sqE gdI sp hz d fun x m q v e1 via sq rx d1 => ?_
  refine sqE gdI sq e1 d1 fun y m2 t w e1 via2 st ry d2 => ?_
  obtain ⟨xs, hx, e1⟩ := ob_some e1
  obtain ⟨ys, hy, e1⟩ := ob_some e1
  have rx2 := RepT.via sq rx via2
  have ry2 : RepT Z p.H t.ρ σ t.F t.φ t.H m2 w y := ry.from via.post.dom
  have hne : (if (isLst x != isLst y) = true then (none : RE) else vl (.ml (zipL xs ys)) .sh (fz m2 (fz m t.ρ)) t.M) = some z := e1
  split at hne
  · cases hne
  rename_i hk
  have e2 := vl_some hne
  subst e2
  have rep : RepTs Z p.H t.ρ σ t.F t.φ t.H [v, w] [(x, m), (y, m2)] := by
    refine ⟨rx2, fun c q1 q2 j d' hj hf hv => ?_, ry2, fun c _ _ j d' hj => by simp at hj, trivial⟩
    cases j with
    | succ j => simp at hj
    | zero =>
      simp at hj hv
      subst hj
      have hf : m2 = .fr := hf
      subst hf
      obtain ⟨c', e3, _, _, _, _, n⟩ := ry
      have q1 : m = .fr := q1
      subst q1
      rw [hv] at e3
      cases e3
      exact RepT.nofr rx q2 n
  obtain ⟨F', mo, x1, s1, rs⟩ := gives (ρ := t.ρ) (F := t.F) (via.trans sp via2) sp st rep
  cases rs with
  | cons r1 rs =>
    cases rs with
    | cons r2 rs =>
      have sq1 : ∀ {d : D} {ds : List D} {v : V}, Rep Z F' t.φ t.H v d → items d = some ds → ∃ b vs, v = .ref b ∧ Reps Z F' t.φ t.H vs ds ∧ (SqT Z.K t.H b vs ∧ isLst d = false ∨ SqL Z.K t.H b vs ∧ isLst d = true ∧ F' b) := fun {d ds v} r hd => by
        obtain ⟨b, vs, rfl, hs, rs⟩ := seq_of (.inl r) hd
        exact ⟨b, vs, rfl, rs, hs.imp id fun h => ⟨h.1, h.2, r.lstF hd h.2⟩⟩
      obtain ⟨b1, vs1, rfl, rs1, k1⟩ := sq1 r1 hx
      obtain ⟨b2, vs2, rfl, rs2, k2⟩ := sq1 r2 hy
      rw [ok.hK]
      refine ⟨b1, b2, vs1, vs2, rfl, ?_⟩
      have go : ∀ w, WkAt Z F' t.φ t.H (zipL xs ys) w → (∀ a ∈ w.ls, F' a) → R (itOf Z.K w) t.H := fun w hw hl => by
        refine d ⟨fzs [(x, m), (y, m2)] t.ρ, t.M, F', t.φ, t.H⟩ w (zipL xs ys) F' rfl rfl x1 s1 rfl hw (fun a ha => (s1.g.dom a (hl a ha)).2) (fun _ h => h) x1 s1 fun a ha _ _ => hl a ha
      rcases k1 with ⟨g1, g2⟩ | ⟨g1, g2, g3⟩
      · rcases k2 with ⟨f1, f2⟩ | ⟨f1, f2, f3⟩
        · exact .inr ⟨g1, f1, go (.zt b1 b2) ⟨vs1, vs2, xs, ys, g1, f1, rs1, rs2, rfl⟩ fun a ha => by cases ha⟩
        · rw [g2, f2] at hk
          exact absurd rfl hk
      · rcases k2 with ⟨f1, f2⟩ | ⟨f1, f2, f3⟩
        · rw [g2, f2] at hk
          exact absurd rfl hk
        · exact .inl ⟨g1, f1, go (.zl b1 b2) ⟨vs1, vs2, xs, ys, g1, f1, rs1, rs2, rfl⟩ fun a ha => by
            rcases (show a = b1 ∨ a = b2 by simpa [Wk.ls] using ha) with e | e
            · rw [e]
              exact g3
            · rw [e]
              exact f3⟩
end
end Ev

/-! list(range(..)) -/
namespace Ev
open L2 PyProof.Rows PySem PySem.Spec
section
variable {X : Cx} {Z : Zt} {Γ : Gam} {Fs : List Fn} {C : Nv → Clo} {Eo : XK}
theorem bz_bz {α β γ : Type} {r : Option (Rz α)} {f : α → Option (Rz β)} {g : β → Option (Rz γ)} : bz (bz r f) g = bz r fun x => bz (f x) g := by
  cases r with
  | none => rfl
  | some y => cases y <;> rfl
theorem gi_bz {β γ : Type} {d : D} {k : Int → Option (Rz β)} {g : β → Option (Rz γ)} : bz (gi d k) g = gi d fun i => bz (k i) g := by
  unfold gi
  split <;> rfl
theorem ob_bz {α β γ : Type} {r : Option α} {k : α → Option (Rz β)} {g : β → Option (Rz γ)} : bz (ob r k) g = ob r fun i => bz (k i) g := by
  cases r <;> rfl
theorem rgs_rep {F : Addr → Prop} {H : Hp} (lo hi : Int) : RepPs F H (rgV lo hi) ((List.range (hi - lo).toNat).map fun (i : Nat) => .int (lo + (i : Int) * 1)) := by
  unfold rgV
  generalize List.range (hi - lo).toNat = l
  induction l with
  | nil => exact .nil
  | cons i l ih =>
    refine .cons ?_ ih
    show RepP F H (.int (lo + (i : Int))) (.int (lo + (i : Int) * 1))
    rw [Int.mul_one]
    exact .int _
theorem mkL_nums (lo hi : Int) : mkL (numsL lo 1 (hi - lo).toNat) = .py (.list ((List.range (hi - lo).toNat).map fun (i : Nat) => .int (lo + (i : Int) * 1))) := by
  unfold mkL numsL
  have e : ∀ l : List Nat, allPy (l.map fun (i : Nat) => D.py (.int (lo + (i : Int) * 1))) = some (l.map fun (i : Nat) => .int (lo + (i : Int) * 1)) := fun l => by
    induction l with
    | nil => rfl
    | cons i l ih =>
      rw [List.map_cons, List.map_cons]
      unfold allPy
      rw [ih]
  rw [e]
theorem lsr_end {σ : Sx} {q : Pt} {Q : VK} {z : Rz Vl} {lo hi : Int} {xs : List D} (sq : q.Sim Z σ) (d : Done Z Eo σ q Q z) (e2 : rngL lo hi 1 = some xs) (e : bz (vl (.ml xs) .sh q.ρ q.M) (fun s => ob (items s.d) fun xs => vl (mkL xs) .fr s.ρ s.M) = some z) :
    RgOk lo hi ∧ ∀ a, q.H a = none → Q (.ref a) (upd q.H a (.lst (rgV lo hi))) := by
  obtain ⟨g1, g2, g3, g4, _, _, rfl⟩ := rngL_some e2
  have hs : rngN lo hi 1 ≤ sizeLine := by
    unfold rngL at e2
    obtain ⟨h1, _⟩ := if_some e2
    simp only [Bool.and_eq_true, decide_eq_true_eq] at h1
    exact h1.2
  rw [rngN1] at e hs
  have hz : z = .ok ⟨mkL (numsL lo 1 (hi - lo).toNat), .fr, q.ρ, q.M⟩ := (Option.some.inj e).symm
  subst hz
  rw [mkL_nums] at d
  have hz : sizeLine ≤ 2 ^ 24 := by decide
  refine ⟨⟨by omega, by omega, by omega, by omega, Nat.le_trans hs hz⟩, fun a ha => ?_⟩
  exact New.done (fr := true) (d := .py (.list _)) (.lst ha ⟨_, upd_same, rgs_rep lo hi⟩) sq d
theorem s_lsr1 (ok : XOk X Z Γ Fs Eo) {eb : Expr} {b : E} {p p2 pos pos2 : Pos} (hl : glB Γ "list" .free = true) (hg : glB Γ "range" .free = true) (hu : unst eb = true) (hb : PE X eb (tE Z Eo (evE Fs C b))) :
    PE X (.Call (.Name "list" p2) [.Call (.Name "range" p) [eb] [] pos] [] pos2) (tE Z Eo (evE Fs C (.lsrc (.rng1 b)))) := by
  obtain ⟨l1, l2, l3⟩ := glB_ok ok hl
  obtain ⟨h1, h2, h3⟩ := glB_ok ok hg
  refine PE.imp (pe_listRg ok.calm l1 l3 (prg_1 h1 h3 hb (star_one hu))) fun σ H Q q => ?_
  obtain ⟨p, rfl, sp, z, hz, d⟩ := q
  unfold evE at hz
  unfold evSrc at hz
  rw [bz_bz] at hz
  refine sqE gdE sp hz d fun x m q v e1 via sq rx d1 => ?_
  rw [gi_bz] at e1
  obtain ⟨j, rfl, e1⟩ := gi_some e1
  rw [ob_bz] at e1
  obtain ⟨xs, e2, e1⟩ := ob_some e1
  exact ⟨j, (rx.r sq.l).int, lsr_end sq d1 e2 e1⟩
theorem s_lsr2 (ok : XOk X Z Γ Fs Eo) {ea eb : Expr} {a b : E} {p p2 pos pos2 : Pos} (hl : glB Γ "list" .free = true) (hg : glB Γ "range" .free = true) (hua : unst ea = true) (hu : unst eb = true) (ha : PE X ea (tE Z Eo (evE Fs C a))) (hb : PE X eb (tE Z Eo (evE Fs C b))) :
    PE X (.Call (.Name "list" p2) [.Call (.Name "range" p) [ea, eb] [] pos] [] pos2) (tE Z Eo (evE Fs C (.lsrc (.rng2 a b)))) := by
  obtain ⟨l1, l2, l3⟩ := glB_ok ok hl
  obtain ⟨h1, h2, h3⟩ := glB_ok ok hg
  refine PE.imp (pe_listRg ok.calm l1 l3 (prg_2 h1 h3 ha hb (star_one hua) (star_one hu) (star_all (by simp [hu])))) fun σ H Q q => ?_
  obtain ⟨p, rfl, sp, z, hz, d⟩ := q
  unfold evE at hz
  unfold evSrc at hz
  rw [bz_bz] at hz
  refine sqE gdE sp hz d fun x m q v e1 via sq rx d1 => ?_
  rw [gi_bz] at e1
  obtain ⟨i, rfl, e1⟩ := gi_some e1
  rw [bz_bz] at e1
  refine sqE gdE sq e1 d1 fun y m2 t w e1 via2 st ry d2 => ?_
  rw [gi_bz] at e1
  obtain ⟨j, rfl, e1⟩ := gi_some e1
  rw [ob_bz] at e1
  obtain ⟨xs, e2, e1⟩ := ob_some e1
  exact ⟨i, j, (rx.r sq.l).int, (ry.r st.l).int, lsr_end st d2 e2 e1⟩
end
end Ev

/-! Slots that are set, forgotten, set back; targets. -/
namespace Ev
open L2 PyProof.Rows PySem PySem.Spec
theorem wipeN_at (j : Nat) : ∀ (vs : List Nat) (ρ : Nv), (wipeN ρ vs)[j]? = if j ∈ vs then (if j < ρ.length then some none else none) else ρ[j]? := by
  intro vs
  have len : ∀ (vs : List Nat) (ρ : Nv), (wipeN ρ vs).length = ρ.length := fun vs ρ => by
    induction vs with
    | nil => rfl
    | cons v vs ih => show ((wipeN ρ vs).set v none).length = _; rw [List.length_set, ih]
  induction vs with
  | nil => intro ρ; simp [wipeN]
  | cons v vs ih =>
    intro ρ
    show ((wipeN ρ vs).set v none)[j]? = _
    rw [List.getElem?_set]
    by_cases h : v = j
    · subst h
      simp [len]
    · rw [if_neg h, ih]
      by_cases h2 : j ∈ vs
      · simp [h2]
      · simp [h2, Ne.symm h]
theorem wipeN_len : ∀ (vs : List Nat) (ρ : Nv), (wipeN ρ vs).length = ρ.length
  | [], _ => rfl
  | v :: vs, ρ => by
    show ((wipeN ρ vs).set v none).length = _
    rw [List.length_set, wipeN_len vs ρ]
theorem wipe_at (j : Nat) : ∀ (vs : List Nat) (σ : Sx), (L2.wipe σ vs)[j]? = if j ∈ vs then (if j < σ.length then some none else none) else σ[j]? := by
  intro vs
  induction vs with
  | nil => intro ρ; simp [L2.wipe]
  | cons v vs ih =>
    intro ρ
    show ((L2.wipe ρ vs).set v none)[j]? = _
    rw [List.getElem?_set]
    by_cases h : v = j
    · subst h
      simp [L2.wipe_length]
    · rw [if_neg h, ih]
      by_cases h2 : j ∈ vs
      · simp [h2]
      · simp [h2, Ne.symm h]
theorem backN_len (ρ0 : Nv) : ∀ (vs : List Nat) (ρ : Nv), (backN ρ0 ρ vs).length = ρ.length
  | [], _ => rfl
  | v :: vs, ρ => by
    show ((backN ρ0 ρ vs).set v _).length = _
    rw [List.length_set, backN_len ρ0 vs ρ]
theorem backN_at (ρ0 : Nv) (j : Nat) : ∀ (vs : List Nat) (ρ : Nv), (backN ρ0 ρ vs)[j]? = if j ∈ vs then (if j < ρ.length then some (ρ0.getD j none) else none) else ρ[j]? := by
  intro vs
  induction vs with
  | nil => intro ρ; simp [backN]
  | cons v vs ih =>
    intro ρ
    show ((backN ρ0 ρ vs).set v (ρ0.getD v none))[j]? = _
    rw [List.getElem?_set]
    by_cases h : v = j
    · subst h
      simp [backN_len]
    · rw [if_neg h, ih]
      by_cases h2 : j ∈ vs
      · simp [h2]
      · simp [h2, Ne.symm h]
theorem back_in {ρ0 ρ : Nv} {vs : List Nat} {j : Nat} {s : Slot} (hl : ρ0.length = ρ.length) (hj : j ∈ vs) (h : (backN ρ0 ρ vs)[j]? = some s) : ρ0[j]? = some s := by
  rw [backN_at, if_pos hj] at h
  split at h
  · rename_i hlt
    rw [← hl] at hlt
    rw [List.getElem?_eq_getElem hlt]
    simpa [List.getD, hlt] using h
  · cases h
theorem back_out {ρ0 ρ : Nv} {vs : List Nat} {j : Nat} (hj : j ∉ vs) : (backN ρ0 ρ vs)[j]? = ρ[j]? := by
  rw [backN_at, if_neg hj]
theorem wipe_eq {σ σ' : Sx} {vs : List Nat} (hl : σ'.length = σ.length) (h : ∀ j, j ∉ vs → σ'[j]? = σ[j]?) : L2.wipe σ' vs = L2.wipe σ vs := by
  apply List.ext_getElem?
  intro j
  rw [wipe_at, wipe_at]
  by_cases hj : j ∈ vs
  · simp [hj, hl]
  · simp [hj, h j hj]
section
variable {Z : Zt} {σ σ' : Sx} {ρ ρ' : Nv} {M : Mem} {F F' : Addr → Prop} {φ φ' : List Addr} {H H' : Hp}
theorem LSim.wiped (l : LSim Z ρ F φ σ H) (vs : List Nat) : LSim Z (wipeN ρ vs) F φ (L2.wipe σ vs) H := by
  have out : ∀ {j : Nat} {s : D × Bool}, (wipeN ρ vs)[j]? = some (some s) → ρ[j]? = some (some s) ∧ j ∉ vs := fun {j s} h => by
    rw [wipeN_at] at h
    split at h
    · split at h <;> cases h
    · exact ⟨h, ‹_›⟩
  have inn : ∀ {j : Nat}, j ∉ vs → (L2.wipe σ vs)[j]? = σ[j]? := fun {j} h => by rw [wipe_at, if_neg h]
  refine ⟨by rw [wipeN_len, L2.wipe_length, l.len], fun i d h => ?_, fun i d h => ?_, l.ent, fun i j d e a h1 h2 h3 h4 => ?_⟩
  · obtain ⟨h1, h2⟩ := out h
    rw [inn h2]
    exact l.sh i d h1
  · obtain ⟨h1, h2⟩ := out h
    rw [inn h2]
    exact l.ow i d h1
  · obtain ⟨g1, g2⟩ := out h1
    obtain ⟨g3, g4⟩ := out h2
    rw [inn g2] at h3
    rw [inn g4] at h4
    exact l.inj i j d e a g1 g3 h3 h4
theorem own_wiped {vs : List Nat} {b : Addr} (h : Own (wipeN ρ vs) (L2.wipe σ vs) b) : ∃ (i : Nat) (d : D), i ∉ vs ∧ ρ[i]? = some (some (d, true)) ∧ σ[i]? = some (some (.ref b)) := by
  obtain ⟨i, d, h1, h2⟩ := h
  rw [wipeN_at] at h1
  split at h1
  · split at h1 <;> cases h1
  · rename_i hj
    rw [wipe_at, if_neg hj] at h2
    exact ⟨i, d, hj, h1, h2⟩
/-- behind a block its names stand as they stood -/
theorem LSim.back {vs : List Nat} (l : LSim Z ρ F φ σ H) (g : GSim Z M F φ H) (x : Post (Own (wipeN ρ vs) (L2.wipe σ vs)) no1 F φ H F' φ' H') (l' : LSim Z ρ' F' φ' (L2.wipe σ vs) H') (f : Fz (wipeN ρ vs) ρ') : LSim Z (backN ρ ρ' vs) F' φ' σ H' := by
  have st := x.stayE g
  have hl : ρ.length = ρ'.length := by rw [f.1, wipeN_len]
  have inn : ∀ {j : Nat}, j ∉ vs → (L2.wipe σ vs)[j]? = σ[j]? := fun {j} h => by rw [wipe_at, if_neg h]
  refine ⟨by rw [backN_len, ← hl, l.len], fun i d h => ?_, fun i d h => ?_, fun b h => l.ent b (x.dom b h), fun i j d e a h1 h2 h3 h4 => ?_⟩
  · by_cases hj : i ∈ vs
    · obtain ⟨v, e, r⟩ := l.sh i d (back_in hl hj h)
      exact ⟨v, e, r.stay st⟩
    · rw [back_out hj] at h
      have w := l'.sh i d h
      rw [inn hj] at w
      exact w
  · by_cases hj : i ∈ vs
    · have h0 := back_in hl hj h
      obtain ⟨a, e, r, n1, n2, n3⟩ := l.ow i d h0
      obtain ⟨us, hv⟩ := r.lst
      refine ⟨a, e, r.stay st fun us h => x.keep a _ h n2 (fun z => z) (fun _ z => nomatch z), fun z => ?_, fun z => ?_, n3⟩
      · rcases x.new a z with q | q | q
        · exact n1 q
        · rw [q] at hv
          cases hv
        · obtain ⟨i', d', g1, g2, g3⟩ := own_wiped q
          have e2 := l.inj i i' d d' a h0 g2 e g3
          exact g1 (e2 ▸ hj)
      · obtain ⟨ψ, e2, hψ⟩ := x.ext
        rw [e2] at z
        rcases List.mem_append.mp z with z | z
        · exact n2 z
        · rw [hψ a z] at hv
          cases hv
    · rw [back_out hj] at h
      have w := l'.ow i d h
      rw [inn hj] at w
      exact w
  · have was : ∀ {i : Nat} {d : D}, (backN ρ ρ' vs)[i]? = some (some (d, true)) → ∃ d', ρ[i]? = some (some (d', true)) := fun {i d} h => by
      by_cases hj : i ∈ vs
      · exact ⟨d, back_in hl hj h⟩
      · rw [back_out hj] at h
        have hi : i < (wipeN ρ vs).length := by
          rw [← f.1]
          exact (List.getElem?_eq_some_iff.mp h).1
        cases e : (wipeN ρ vs)[i]? with
        | none => rw [List.getElem?_eq_none_iff] at e; omega
        | some s =>
          cases s with
          | none =>
            rw [(f.2 i).1 e] at h
            cases h
          | some q =>
            obtain ⟨d', fl⟩ := q
            obtain ⟨fl', h3, gg⟩ := (f.2 i).2 d' fl e
            rw [h3] at h
            cases h
            have z := gg rfl
            subst z
            rw [wipeN_at, if_neg hj] at e
            exact ⟨_, e⟩
    obtain ⟨d1, g1⟩ := was h1
    obtain ⟨d2, g2⟩ := was h2
    exact l.inj i j d1 d2 a g1 g2 h3 h4
/-- a slot is set to a value that stands -/
theorem LSim.set (l : LSim Z ρ F φ σ H) {i : Nat} {v : V} {d : D} (r : Rep Z F φ H v d) : LSim Z (ρ.set i (some (d, false))) F φ (σ.set i (some v)) H := by
  refine ⟨by rw [List.length_set, List.length_set, l.len], fun j e h => ?_, fun j e h => ?_, l.ent, fun j k d1 d2 a h1 h2 h3 h4 => ?_⟩
  · rw [List.getElem?_set] at h ⊢
    split at h
    · rename_i q
      split at h
      · cases h
        rename_i q2
        rw [l.len] at q2
        rw [if_pos q, if_pos q2]
        exact ⟨v, rfl, r⟩
      · cases h
    · rename_i q
      rw [if_neg q]
      exact l.sh j e h
  · rw [List.getElem?_set] at h ⊢
    split at h
    · split at h <;> cases h
    · rename_i q
      rw [if_neg q]
      exact l.ow j e h
  · rw [List.getElem?_set] at h1 h2 h3 h4
    split at h1
    · split at h1 <;> cases h1
    · split at h2
      · split at h2 <;> cases h2
      · rename_i q1 q2
        rw [if_neg q1] at h3
        rw [if_neg q2] at h4
        exact l.inj j k d1 d2 a h1 h2 h3 h4
/-- a slot is set to a list that stands alone -/
theorem LSim.setO (l : LSim Z ρ F φ σ H) {i : Nat} {a : Addr} {d : D} (r : OwnR Z F φ H a d) (n1 : ¬ F a) (n2 : a ∉ φ) (n3 : Z.H0 a = none) (n4 : ∀ (j : Nat) (e : D), j ≠ i → ρ[j]? = some (some (e, true)) → σ[j]? ≠ some (some (V.ref a))) :
    LSim Z (ρ.set i (some (d, true))) F φ (σ.set i (some (.ref a))) H := by
  refine ⟨by rw [List.length_set, List.length_set, l.len], fun j e h => ?_, fun j e h => ?_, l.ent, fun j k d1 d2 b h1 h2 h3 h4 => ?_⟩
  · rw [List.getElem?_set] at h ⊢
    split at h
    · split at h <;> cases h
    · rename_i q
      rw [if_neg q]
      exact l.sh j e h
  · rw [List.getElem?_set] at h ⊢
    split at h
    · rename_i q
      split at h
      · cases h
        rename_i q2
        rw [l.len] at q2
        rw [if_pos q, if_pos q2]
        exact ⟨a, rfl, r, n1, n2, n3⟩
      · cases h
    · rename_i q
      rw [if_neg q]
      exact l.ow j e h
  · rw [List.getElem?_set] at h1 h2 h3 h4
    by_cases q1 : i = j
    · by_cases q2 : i = k
      · exact q1.symm.trans q2
      · rw [if_neg q2] at h2 h4
        rw [if_pos q1] at h3
        split at h3
        · cases h3
          exact absurd h4 (n4 k d2 (Ne.symm q2) h2)
        · cases h3
    · rw [if_neg q1] at h1 h3
      by_cases q2 : i = k
      · rw [if_pos q2] at h4
        split at h4
        · cases h4
          exact absurd h3 (n4 j d1 (Ne.symm q1) h1)
        · cases h4
      · rw [if_neg q2] at h2 h4
        exact l.inj j k d1 d2 b h1 h2 h3 h4
end
/-! ### targets -/
mutual
def slotsT : T → List Nat
  | .nm i => [i]
  | .tp ts => slotsTs ts
def slotsTs : List T → List Nat
  | [] => []
  | t :: ts => slotsT t ++ slotsTs ts
end
def locB (Γ : Gam) (i : Nat) (x : Str) : Bool := decide (Γ.N[i]? = some x) && (decide (Γ.sc.names.lookup x = some .local) || decide (Γ.sc.names.lookup x = some .cell))
mutual
def ckT (Γ : Gam) : T → Expr → Bool
  | .nm i, .Name x _ => locB Γ i x
  | .tp ts, .Tuple es _ _ => es.all unst && ckTs Γ ts es
  | _, _ => false
def ckTs (Γ : Gam) : List T → List Expr → Bool
  | [], [] => true
  | t :: ts, e :: es => ckT Γ t e && ckTs Γ ts es
  | _, _ => false
end
def gT (Z : Zt) (t : T) : TG := fun v σ H Q => ∃ (p : Pt) (d : D) (ρ' : Nv), p.H = H ∧ p.Sim Z σ ∧ Rep Z p.F p.φ p.H v d ∧ bindT t d p.ρ = some ρ' ∧ ∀ σ', σ'.length = σ.length → (∀ j, j ∉ slotsT t → σ'[j]? = σ[j]?) → LSim Z ρ' p.F p.φ σ' p.H → Q σ' H
def gTs (Z : Zt) (ts : List T) : TGs := fun vs σ H Q => ∃ (p : Pt) (ds : List D) (ρ' : Nv), p.H = H ∧ p.Sim Z σ ∧ Reps Z p.F p.φ p.H vs ds ∧ bindTs ts ds p.ρ = some ρ' ∧ ∀ σ', σ'.length = σ.length → (∀ j, j ∉ slotsTs ts → σ'[j]? = σ[j]?) → LSim Z ρ' p.F p.φ σ' p.H → Q σ' H
theorem PG.imp {X : Cx} {tg : Expr} {t t' : TG} (h : PG X tg t) (i : ∀ v σ H Q, t' v σ H Q → t v σ H Q) : PG X tg t' := ⟨fun pins s σ H v u Q I r q => h.run pins s σ H v u Q I r (i _ _ _ _ q)⟩
theorem PGs.imp {X : Cx} {tg : List Expr} {t t' : TGs} (h : PGs X tg t) (i : ∀ v σ H Q, t' v σ H Q → t v σ H Q) : PGs X tg t' := ⟨fun pins s σ H v u Q I r q => h.run pins s σ H v u Q I r (i _ _ _ _ q)⟩
end Ev

/-! Targets; comprehensions. -/
namespace Ev
open L2 PyProof.Rows PySem PySem.Spec
section
variable {X : Cx} {Z : Zt} {Γ : Gam} {Fs : List Fn} {C : Nv → Clo} {Eo : XK}
theorem locB_ok {i : Nat} {x : Str} (ok : XOk X Z Γ Fs Eo) (h : locB Γ i x = true) : X.N[i]? = some x ∧ Loc X.env.scope x ∧ (X.fn x = true ∨ X.env.scope.names.lookup x = some .local) := by
  unfold locB at h
  simp only [Bool.and_eq_true, Bool.or_eq_true, decide_eq_true_eq] at h
  obtain ⟨h1, h2⟩ := ok.loc x h.2
  exact ⟨by rw [ok.hN]; exact h.1, h1, h2⟩
theorem Reps.itT {F : Addr → Prop} {φ : List Addr} {H : Hp} {v : V} {d : D} {ds : List D} (r : Rep Z F φ H v d) (h : itemsT d = some ds) : ∃ a vs, v = .ref a ∧ SqT Z.K H a vs ∧ Reps Z F φ H vs ds := by
  unfold itemsT at h
  split at h
  · cases h
    obtain ⟨a, vs, rfl, e, rs⟩ := RepR.tup (.inl r)
    exact ⟨a, vs, rfl, SqT.of e, rs.reps⟩
  · cases h
    obtain ⟨a, vs, rfl, e, rs⟩ := RepR.mt (.inl r)
    exact ⟨a, vs, rfl, SqT.of e, rs⟩
  · cases h
theorem bindTs_len : ∀ {ts : List T} {ds : List D} {ρ ρ' : Nv}, bindTs ts ds ρ = some ρ' → ts.length = ds.length
  | [], [], _, _, _ => rfl
  | t :: ts, d :: ds, ρ, ρ', h => by
    unfold bindTs at h
    obtain ⟨ρ1, _, h2⟩ := ob_some h
    exact congrArg (· + 1) (bindTs_len h2)
  | [], _ :: _, _, _, h => by cases h
  | _ :: _, [], _, _, h => by cases h
theorem ckTs_len : ∀ {ts : List T} {es : List Expr}, ckTs Γ ts es = true → ts.length = es.length
  | [], [], _ => rfl
  | t :: ts, e :: es, h => by
    unfold ckTs at h
    rw [Bool.and_eq_true] at h
    exact congrArg (· + 1) (ckTs_len h.2)
  | [], _ :: _, h => by cases h
  | _ :: _, [], h => by cases h
theorem assign_len {env : Env} : ∀ (es : List Expr), (assignEach es env).length = es.length
  | [] => rfl
  | e :: es => by
    have := assign_len (env := env) es
    cases e <;> exact congrArg (· + 1) this
theorem assign_nost {env : Env} : ∀ {es : List Expr}, es.all unst = true → (assignEach es env).findIdx? (·.1) = none
  | [], _ => rfl
  | e :: es, h => by
    simp only [List.all_cons, Bool.and_eq_true] at h
    rw [assign_one h.1, List.findIdx?_cons]
    simp [assign_nost h.2]
mutual
theorem s_tgt (ok : XOk X Z Γ Fs Eo) : ∀ (t : T) (e : Expr), ckT Γ t e = true → PG X e (gT Z t)
  | .nm i, e, h => by
    cases e with
    | Name x pos =>
      have h : locB Γ i x = true := h
      obtain ⟨h1, h2, h3⟩ := locB_ok ok h
      refine PG.imp (pg_name (by rw [ok.hN]; exact ok.nd) h1 h2 h3) fun v σ H Q q => ?_
      obtain ⟨p, d, ρ', rfl, sp, r, hb, k⟩ := q
      have hb : some (p.ρ.set i (some (d, false))) = some ρ' := hb
      cases hb
      exact k _ (by rw [List.length_set]) (fun j hj => by
        rw [List.getElem?_set_ne]
        exact fun z => hj (by simp [slotsT, z])) (sp.l.set r)
    | _ => cases h
  | .tp ts, e, h => by
    cases e with
    | Tuple es k pos =>
      have h : (es.all unst && ckTs Γ ts es) = true := h
      rw [Bool.and_eq_true] at h
      have hl := ckTs_len h.2
      refine PG.imp (pg_tup (n := es.length) ok.calm (s_tgts ok ts es h.2 h.1) (assign_len es) (assign_nost h.1)) fun v σ H Q q => ?_
      obtain ⟨p, d, ρ', rfl, sp, r, hb, k⟩ := q
      have hb : ob (itemsT d) (fun ds => bindTs ts ds p.ρ) = some ρ' := hb
      obtain ⟨ds, h1, h2⟩ := ob_some hb
      obtain ⟨a, vs, rfl, hs, rs⟩ := Reps.itT r h1
      exact ⟨a, vs, rfl, by rw [ok.hK]; exact hs, by rw [rs.len, ← bindTs_len h2, hl], p, ds, ρ', rfl, sp, rs, h2, k⟩
    | _ => cases h
theorem s_tgts (ok : XOk X Z Γ Fs Eo) : ∀ (ts : List T) (es : List Expr), ckTs Γ ts es = true → es.all unst = true → PGs X es (gTs Z ts)
  | [], [], _, _ => PGs.imp pgs_nil fun vs σ H Q q => by
    obtain ⟨p, ds, ρ', rfl, sp, r, hb, k⟩ := q
    cases ds with
    | nil =>
      cases r
      have hb : some p.ρ = some ρ' := hb
      cases hb
      exact ⟨rfl, k σ rfl (fun _ _ => rfl) sp.l⟩
    | cons d ds => cases hb
  | t :: ts, e :: es, h, hu => by
    have h : (ckT Γ t e && ckTs Γ ts es) = true := h
    rw [Bool.and_eq_true] at h
    simp only [List.all_cons, Bool.and_eq_true] at hu
    refine PGs.imp (pgs_cons (s_tgt ok t e h.1) (s_tgts ok ts es h.2 hu.2) (by rw [assign_one hu.1]; rfl)) fun vs σ H Q q => ?_
    obtain ⟨p, ds, ρ', rfl, sp, r, hb, k⟩ := q
    cases r with
    | nil => cases hb
    | @cons v vs d ds r1 r2 =>
      have hb : ob (bindT t d p.ρ) (fun ρ1 => bindTs ts ds ρ1) = some ρ' := hb
      obtain ⟨ρ1, h1, h2⟩ := ob_some hb
      refine ⟨v, vs, rfl, p, d, ρ1, rfl, sp, r1, h1, fun σ1 l1 k1 sl => ?_⟩
      refine ⟨⟨ρ1, p.M, p.F, p.φ, p.H⟩, ds, ρ', rfl, ⟨sp.g, sl⟩, r2, h2, fun σ2 l2 k2 sl2 => k σ2 (l2.trans l1) (fun j hj => ?_) sl2⟩
      have hj : j ∉ slotsT t ++ slotsTs ts := hj
      rw [List.mem_append, not_or] at hj
      rw [k2 j hj.2, k1 j hj.1]
  | [], _ :: _, h, _ => by cases h
  | _ :: _, [], h, _ => by cases h
end
end
end Ev

/-! Comprehensions. -/
namespace Ev
open L2 PyProof.Rows PySem PySem.Spec
abbrev noX : XK := fun _ _ _ => False
section
variable {X : Cx} {Z : Zt} {Γ : Gam} {Fs : List Fn} {C : Nv → Clo} {Eo : XK}
theorem sqI {σ : Sx} {p : Pt} {β : Type} {G : Pt → Rz β → Prop} (g : Gd Z Eo σ G) {f : Nv → Mem → RE} {k : Vl → Option (Rz β)} {z : Rz β} {R : It → Hp → Prop} (sp : p.Sim Z σ) (h : bz (f p.ρ p.M) k = some z) (d : G p z)
    (hk : ∀ (d : D) (m : Md) (q : Pt) (w : Wk) (xs : List D) (F' : Addr → Prop), k ⟨d, m, q.ρ, q.M⟩ = some z → Via σ p q → q.Sim Z σ → items d = some xs → WkAt Z q.F q.φ q.H xs w → (∀ a ∈ w.ls, a ∉ q.φ) → (∀ b, q.F b → F' b) →
      Via σ p ⟨fz m q.ρ, q.M, F', q.φ, q.H⟩ → Sim Z (fz m q.ρ) q.M F' q.φ σ q.H → (∀ a ∈ w.ls, ∀ vs, q.H a = some (.lst vs) → F' a) → R (itOf Z.K w) q.H) : iS Z Eo f σ p.H R := by
  cases e : f p.ρ p.M with
  | none => rw [e] at h; cases h
  | some y =>
    rw [e] at h
    refine ⟨p, rfl, sp, y, e, ?_⟩
    cases y with
    | ok x =>
      obtain ⟨x1, x2, x3, x4⟩ := x
      intro q w xs F' e1 e2 y sy it wk h1 h2 v s2 h3
      cases e1
      cases e2
      exact hk _ _ q w xs F' h y sy it wk h1 h2 v s2 h3
    | er c v M =>
      have hz : z = .er c v M := (Option.some.inj h).symm
      subst hz
      exact g.er _ _ _ _ sp d
mutual
theorem bind_out : ∀ {t : T} {d : D} {ρ ρ' : Nv}, bindT t d ρ = some ρ' → ρ'.length = ρ.length ∧ (∀ j, j ∉ slotsT t → ρ'[j]? = ρ[j]?) ∧ ∀ (j : Nat) (e : D), ρ'[j]? = some (some (e, true)) → ρ[j]? = some (some (e, true)) ∧ j ∉ slotsT t
  | .nm i, d, ρ, ρ', h => by
    have h : some (ρ.set i (some (d, false))) = some ρ' := h
    cases h
    refine ⟨by rw [List.length_set], fun j hj => ?_, fun j e he => ?_⟩
    · rw [List.getElem?_set_ne]
      exact fun z => hj (by simp [slotsT, z])
    · rw [List.getElem?_set] at he
      split at he
      · split at he <;> cases he
      · rename_i q
        exact ⟨he, by simp [slotsT, Ne.symm q]⟩
  | .tp ts, d, ρ, ρ', h => by
    have h : ob (itemsT d) (fun ds => bindTs ts ds ρ) = some ρ' := h
    obtain ⟨ds, _, h⟩ := ob_some h
    exact binds_out h
theorem binds_out : ∀ {ts : List T} {ds : List D} {ρ ρ' : Nv}, bindTs ts ds ρ = some ρ' → ρ'.length = ρ.length ∧ (∀ j, j ∉ slotsTs ts → ρ'[j]? = ρ[j]?) ∧ ∀ (j : Nat) (e : D), ρ'[j]? = some (some (e, true)) → ρ[j]? = some (some (e, true)) ∧ j ∉ slotsTs ts
  | [], [], ρ, ρ', h => by
    have h : some ρ = some ρ' := h
    cases h
    exact ⟨rfl, fun _ _ => rfl, fun j e he => ⟨he, by simp [slotsTs]⟩⟩
  | t :: ts, d :: ds, ρ, ρ', h => by
    have h : ob (bindT t d ρ) (fun ρ1 => bindTs ts ds ρ1) = some ρ' := h
    obtain ⟨ρ1, h1, h2⟩ := ob_some h
    obtain ⟨a1, a2, a3⟩ := bind_out h1
    obtain ⟨b1, b2, b3⟩ := binds_out h2
    refine ⟨b1.trans a1, fun j hj => ?_, fun j e he => ?_⟩
    · have hj : j ∉ slotsT t ++ slotsTs ts := hj
      rw [List.mem_append, not_or] at hj
      rw [b2 j hj.2, a2 j hj.1]
    · obtain ⟨c1, c2⟩ := b3 j e he
      obtain ⟨c3, c4⟩ := a3 j e c1
      refine ⟨c3, ?_⟩
      show j ∉ slotsT t ++ slotsTs ts
      rw [List.mem_append, not_or]
      exact ⟨c4, c2⟩
  | [], _ :: _, _, _, h => by cases h
  | _ :: _, [], _, _, h => by cases h
end
theorem wipe_wipe {σ : Sx} {vs : List Nat} : L2.wipe (L2.wipe σ vs) vs = L2.wipe σ vs := wipe_eq (L2.wipe_length _ _) fun j hj => by rw [wipe_at, if_neg hj]
/-- a list that no one else knows is changed -/
theorem Sim.priv {ρ : Nv} {M : Mem} {F : Addr → Prop} {φ : List Addr} {σ : Sx} {H : Hp} {D : Addr} {xs ys : List V} (s : Sim Z ρ M F φ σ H) (e : H D = some (.lst xs)) (n1 : ¬ F D) (n2 : D ∉ φ) (n3 : ¬ Own ρ σ D) :
    Stay F φ H F φ (upd H D (.lst ys)) ∧ Sim Z ρ M F φ σ (upd H D (.lst ys)) := by
  have st : Stay F φ H F φ (upd H D (.lst ys)) := by
    refine ⟨fun _ h => h, fun b o hf h _ => ?_, fun b us h => ?_, fun b o u h => ?_, ⟨[], by simp⟩⟩
    · rw [upd_ne (fun (z : b = D) => n1 (z ▸ hf))]
      exact h
    · rw [upd_ne (fun z => by rw [z, e] at h; cases h)]
      exact h
    · rw [upd_ne (fun z => by rw [z, e] at h; cases h)]
      exact h
  have dm : ∀ b, upd H D (.lst ys) b = none → H b = none := fun b h => by
    by_cases hb : b = D
    · rw [hb, upd_same] at h
      cases h
    · rw [upd_ne hb] at h
      exact h
  refine ⟨st, s.g.next st rfl (fun b hb => upd_ne fun z => n2 (z ▸ hb)) (fun b hb => ?_) ?_, s.l.len, fun i d h => ?_, fun i d h => ?_, fun b h => s.l.ent b (dm b h), s.l.inj⟩
  · obtain ⟨h1, h2⟩ := s.g.dom b hb
    exact ⟨fun z => h1 (dm b z), h2⟩
  · refine fun q hq => ?_
    obtain ⟨ps, h1, h2, h3⟩ := s.g.tab q hq
    refine ⟨ps, by rw [upd_ne (fun z => by rw [z, e] at h1; cases h1)]; exact h1, h2, fun pos cv hc => ?_⟩
    obtain ⟨c, e1, e2⟩ := h3 pos cv hc
    exact ⟨c, e1, by rw [upd_ne (fun z => by rw [z, e] at e2; unfold LamX.CodeO at e2; cases e2)]; exact e2⟩
  · obtain ⟨v, e1, r⟩ := s.l.sh i d h
    exact ⟨v, e1, r.stay st⟩
  · obtain ⟨a, e1, r, g1, g2, g3⟩ := s.l.ow i d h
    refine ⟨a, e1, r.stay st fun us hu => ?_, g1, g2, g3⟩
    rw [upd_ne (fun z => n3 ⟨i, d, h, by rw [← z]; exact e1⟩)]
    exact hu
theorem New.pt {σ : Sx} {p : Pt} {d : D} {v : V} {H' : Hp} (n : New Z p.F p.φ p.H d false v H') (sp : p.Sim Z σ) : Rep Z p.F p.φ H' v d ∧ Sim Z p.ρ p.M p.F p.φ σ H' ∧ Post no1 no1 p.F p.φ p.H p.F p.φ H' := by
  cases n with
  | same r => exact ⟨r, sp, Post.refl⟩
  | tup e r => exact ⟨r, Sim.new sp e, post_new _ e⟩

theorem Stay.trans {F F1 F2 : Addr → Prop} {φ φ1 φ2 : List Addr} {H H1 H2 : Hp} (a : Stay F φ H F1 φ1 H1) (b : Stay F1 φ1 H1 F2 φ2 H2) : Stay F φ H F2 φ2 H2 where
  mono := fun x h => b.mono x (a.mono x h)
  frz := fun x o h e n => b.frz x o (a.mono x h) (a.frz x o h e n) n
  tup := fun x vs h => b.tup x vs (a.tup x vs h)
  fro := fun x o u h => b.fro x o u (a.fro x o u h)
  cel := by
    obtain ⟨ψ, e⟩ := a.cel
    obtain ⟨ψ', e'⟩ := b.cel
    exact ⟨ψ ++ ψ', by rw [e', e, List.append_assoc]⟩
/-- a list that is being filled, known to no one else -/
structure Prv (ρ : Nv) (σ : Sx) (F : Addr → Prop) (φ : List Addr) (H : Hp) (D : Addr) (acc : List V) : Prop where
  hD : H D = some (.lst acc)
  nF : ¬ F D
  nφ : D ∉ φ
  nO : ¬ Own ρ σ D
theorem Prv.post {ρ ρ' : Nv} {σ : Sx} {F F' : Addr → Prop} {φ φ' : List Addr} {H H' : Hp} {D : Addr} {acc : List V} {O : Addr → Prop} (P : Prv ρ σ F φ H D acc) (x : Post O no1 F φ H F' φ' H') (ho : ¬ O D) (hw : ¬ Own ρ' σ D) : Prv ρ' σ F' φ' H' D acc := by
  refine ⟨x.keep D _ P.hD P.nφ (fun z => z) (fun _ z => nomatch z), fun z => ?_, fun z => ?_, hw⟩
  · rcases x.new D z with q | q | q
    · exact P.nF q
    · rw [P.hD] at q
      cases q
    · exact ho q
  · obtain ⟨ψ, e, h⟩ := x.ext
    rw [e] at z
    rcases List.mem_append.mp z with z | z
    · exact P.nφ z
    · have := h D z
      rw [P.hD] at this
      cases this
theorem Prv.via {σ : Sx} {p q : Pt} {D : Addr} {acc : List V} (P : Prv p.ρ σ p.F p.φ p.H D acc) (x : Via σ p q) (hl : p.ρ.length = σ.length) : Prv q.ρ σ q.F q.φ q.H D acc :=
  P.post x.post P.nO fun z => P.nO (x.fz.own hl z)
theorem fz_wipe {ρ ρa ρ1 ρ3 : Nv} {vs : List Nat} (f : Fz (wipeN ρ vs) ρa) (hl : ρ1.length = ρa.length) (e : ∀ j, j ∉ vs → ρ1[j]? = ρa[j]?) (g : Fz ρ1 ρ3) : Fz (wipeN ρ vs) (wipeN ρ3 vs) := by
  have hlen : ρ3.length = ρ.length := by rw [g.1, hl, f.1, wipeN_len]
  refine ⟨by rw [wipeN_len, wipeN_len, hlen], fun j => ?_⟩
  by_cases hj : j ∈ vs
  · rw [wipeN_at, wipeN_at, if_pos hj, if_pos hj, hlen]
    refine ⟨fun h => h, fun d fl h => ?_⟩
    split at h <;> cases h
  · have a := f.2 j
    have b := g.2 j
    rw [e j hj] at b
    rw [wipeN_at (vs := vs) (ρ := ρ3), if_neg hj]
    refine ⟨fun h => b.1 (a.1 h), fun d fl h => ?_⟩
    obtain ⟨f1, h1, g1⟩ := a.2 d fl h
    obtain ⟨f2, h2, g2⟩ := b.2 d f1 h1
    exact ⟨f2, h2, fun z => g1 (g2 z)⟩
/-- one turn of a comprehension's walk -/
structure CSt (Z : Zt) (σ : Sx) (q : Pt) (vs : List Nat) (D : Addr) (f : List Ev.D → Nv → Mem → Option Cv) (xs : List Ev.D) (z : Ev.D → Nv → Mem → Prop) (i : Nat) (H : Hp) (pt : Pt) (acc : List V) (ds : List Ev.D) : Prop where
  hH : pt.H = H
  le : i ≤ xs.length
  s : Sim Z pt.ρ pt.M pt.F pt.φ (L2.wipe σ vs) pt.H
  po : Post (Own (wipeN q.ρ vs) (L2.wipe σ vs)) no1 q.F q.φ q.H pt.F pt.φ pt.H
  fz : Fz (wipeN q.ρ vs) pt.ρ
  wp : ∀ j ∈ vs, pt.ρ[j]? = (wipeN q.ρ vs)[j]?
  hD : pt.H D = some (.lst acc)
  r : Reps Z pt.F pt.φ pt.H acc ds
  nF : ¬ pt.F D
  nφ : D ∉ pt.φ
  nO : ¬ Own pt.ρ (L2.wipe σ vs) D
  sz : ds.length ≤ i
  run : ∃ r, f (xs.drop i) pt.ρ pt.M = some r ∧ z (mkL (ds ++ r.xs)) (backN q.ρ r.ρ vs) r.M
theorem comp_go {own : List (Str × Nat)} {t : T} {src : Src} {cond elt : E} (hsl : ∀ j ∈ slotsT t, j ∈ own.map (·.2)) : ∀ (σ : Sx) (H : Hp) (Q : VK), tE Z Eo (evE Fs C (.comp own t src cond elt)) σ H Q →
    tLc (iS Z Eo (evSrc Fs C src)) (gT Z t) (tT Z noX (evE Fs C cond)) (tE Z noX (evE Fs C elt)) (own.map (·.2)) σ H Q := by
  intro σ H Q h
  obtain ⟨p, rfl, sp, z, hz, d⟩ := h
  unfold evE at hz
  generalize hvs : own.map (·.2) = vs at hz hsl ⊢
  refine sqI gdE sp hz d fun dd m q w xs F' h1 via sq hit hw hls mo via' s' hlF D hD => ?_
  have hit' : items dd = some xs := hit
  have h1 : (ob (items dd) fun xs => if xs.length ≤ sizeLine then ob (compL (bindT t) (fun ρ M => evE Fs C cond ρ M) (fun ρ M => evE Fs C elt ρ M) vs xs (wipeN q.ρ vs) q.M) fun r => vl (mkL r.xs) .fr (backN q.ρ r.ρ vs) r.M else none) = some z := h1
  rw [hit'] at h1
  have h1 : (if xs.length ≤ sizeLine then ob (compL (bindT t) (fun ρ M => evE Fs C cond ρ M) (fun ρ M => evE Fs C elt ρ M) vs xs (wipeN q.ρ vs) q.M) fun r => vl (mkL r.xs) .fr (backN q.ρ r.ρ vs) r.M else none) = some z := h1
  obtain ⟨hsz, h1⟩ := if_some h1
  obtain ⟨r0, hr0, hz0⟩ := ob_some h1
  have ez := vl_some hz0
  have fD := sq.g.free hD
  have nOw : ∀ {σ'}, LSim Z q.ρ q.F q.φ σ' q.H → ¬ Own q.ρ σ' D := fun {σ'} l => l.free hD
  let f := compL (bindT t) (fun ρ M => evE Fs C cond ρ M) (fun ρ M => evE Fs C elt ρ M) vs
  let zz : Ev.D → Nv → Mem → Prop := fun d' ρ' M' => z = .ok ⟨d', .fr, ρ', M'⟩
  refine ⟨fun i m H => ∃ pt acc ds, CSt Z σ q vs D f xs zz i H pt acc ds ∧ m = xs.length - i, ⟨xs.length, ?_⟩, fun i m H hW => ?_⟩
  · -- the first turn
    have s0 : Sim Z (wipeN q.ρ vs) q.M q.F q.φ (L2.wipe σ vs) q.H := ⟨sq.g, sq.l.wiped vs⟩
    refine ⟨⟨wipeN q.ρ vs, q.M, q.F, q.φ, upd q.H D (.lst [])⟩, [], [], ⟨rfl, Nat.zero_le _, Sim.new s0 hD, post_new _ hD, Fz.refl _, fun _ _ => rfl, upd_same, .nil, fD.1, fD.2, s0.l.free hD, Nat.le_refl _, r0, hr0, ?_⟩, by omega⟩
    show z = _
    rw [ez]
    rfl
  · obtain ⟨pt, acc, ds, S, rfl⟩ := hW
    obtain rfl := S.hH
    have st : Stay q.F q.φ q.H pt.F pt.φ pt.H := S.po.stayE sq.g
    have hw2 : WkAt Z pt.F pt.φ pt.H xs w := hw.kept st fun a ha vs' hv => S.po.keep a _ hv (hls a ha) (fun z => z) fun _ z => nomatch z
    obtain ⟨r, hr, hz2⟩ := S.run
    by_cases hlt : i < xs.length
    · -- a turn
      right
      have hx : xs[i]? = some xs[i] := List.getElem?_eq_getElem hlt
      rw [List.drop_eq_getElem_cons hlt] at hr
      generalize xs[i] = x at hr hx
      obtain ⟨hgo, hyl⟩ := hw2.item hx
      refine ⟨hgo, fun H' => ∃ pt acc ds, CSt Z σ q vs D f xs zz (i + 1) H' pt acc ds, fun H' ⟨pt', acc', ds', S'⟩ => ⟨xs.length - (i + 1), by omega, pt', acc', ds', S', rfl⟩, fun v H1 hy => ?_⟩
      obtain ⟨rv, s1, po1⟩ := (hyl v H1 hy).pt S.s
      have hr : (ob (bindT t x pt.ρ) fun ρ1 => (match evE Fs C cond ρ1 pt.M with
        | some (.ok c) => ob (tru c.d) fun b => if b = true then (match evE Fs C elt c.ρ c.M with
            | some (.ok y) => ob (f (xs.drop (i + 1)) (wipeN (fz y.m y.ρ) vs) y.M) fun r => some ⟨y.d :: r.xs, r.ρ, r.M⟩
            | _ => none)
          else f (xs.drop (i + 1)) (wipeN c.ρ vs) c.M
        | _ => none)) = some r := hr
      obtain ⟨ρ1, hb, hr⟩ := ob_some hr
      obtain ⟨b1, b2, b3⟩ := bind_out hb
      refine ⟨⟨pt.ρ, pt.M, pt.F, pt.φ, H1⟩, x, ρ1, rfl, s1, rv, hb, fun σ2 l2 k2 sl2 => ⟨?_, ?_⟩⟩
      · exact (wipe_eq l2 fun j hj => k2 j fun z => hj (hsl j z)).trans wipe_wipe
      -- the test
      have ow2 : ∀ b, Own ρ1 σ2 b → Own (wipeN q.ρ vs) (L2.wipe σ vs) b := fun b hb => by
        obtain ⟨j, e, g1, g2⟩ := hb
        obtain ⟨g3, g4⟩ := b3 j e g1
        refine S.fz.own (by rw [wipeN_len, L2.wipe_length, sq.l.len]) ⟨j, e, g3, ?_⟩
        rw [← k2 j g4]
        exact g2
      have s2 : Sim Z ρ1 pt.M pt.F pt.φ σ2 H1 := ⟨s1.g, sl2⟩
      have P0 : Prv ρ1 σ2 pt.F pt.φ H1 D acc := by
        refine (Prv.mk (ρ := ρ1) (σ := σ2) S.hD S.nF S.nφ fun z => ?_).post po1 (fun z => z) fun z => ?_
        all_goals
          obtain ⟨j, e, g1, g2⟩ := z
          obtain ⟨g3, g4⟩ := b3 j e g1
          exact S.nO ⟨j, e, g3, by rw [← k2 j g4]; exact g2⟩
      have hl2 : ρ1.length = σ2.length := sl2.len
      have hw2' : L2.wipe σ2 vs = L2.wipe σ vs := (wipe_eq l2 fun j hj => k2 j fun z => hj (hsl j z)).trans wipe_wipe
      have sm : ∀ j, j ∉ vs → ρ1[j]? = pt.ρ[j]? := fun j hj => b2 j fun z => hj (hsl j z)
      have wp3 : ∀ {ρ3 : Nv}, Fz ρ1 ρ3 → ∀ j ∈ vs, (wipeN ρ3 vs)[j]? = (wipeN q.ρ vs)[j]? := fun {ρ3} g j hj => by
        have hlen : ρ3.length = q.ρ.length := by rw [g.1, b1, S.fz.1, wipeN_len]
        rw [wipeN_at, wipeN_at, if_pos hj, if_pos hj, hlen]
      cases e : evE Fs C cond ρ1 pt.M with
      | none =>
        rw [e] at hr
        cases hr
      | some y =>
        rw [e] at hr
        cases y with
        | er c v M => cases hr
        | ok c =>
          obtain ⟨b, hb2, hr⟩ := ob_some hr
          refine ⟨⟨ρ1, pt.M, pt.F, pt.φ, H1⟩, rfl, s2, .ok c, e, b, hb2, fun q3 e3 e4 via3 s3 => ?_⟩
          have po3 : Post (Own (wipeN q.ρ vs) (L2.wipe σ vs)) no1 q.F q.φ q.H q3.F q3.φ q3.H := (S.po.trans po1 (fun _ h => h.elim) (fun _ h => h.elim)).trans via3.post (fun b h => .inl (ow2 b h)) (fun _ h => h.elim)
          have P3 : Prv q3.ρ σ2 q3.F q3.φ q3.H D acc := Prv.via (p := ⟨ρ1, pt.M, pt.F, pt.φ, H1⟩) P0 via3 hl2
          have st3 : Stay pt.F pt.φ pt.H q3.F q3.φ q3.H := (po1.stayE S.s.g).trans (via3.post.stayE s2.g)
          cases b with
          | false =>
            rw [if_neg (by simp), ← e3, ← e4] at hr
            show ∃ pt acc ds, CSt Z σ q vs D f xs zz (i + 1) q3.H pt acc ds
            refine ⟨⟨wipeN q3.ρ vs, q3.M, q3.F, q3.φ, q3.H⟩, acc, ds, ⟨rfl, hlt, ⟨s3.g, by rw [← hw2']; exact s3.l.wiped vs⟩, po3, fz_wipe S.fz b1 sm via3.fz, wp3 via3.fz, P3.hD, S.r.stay st3, P3.nF, P3.nφ, fun z => ?_, Nat.le_succ_of_le S.sz, r, hr, hz2⟩⟩
            rw [← hw2'] at z
            obtain ⟨j, e, _, g2, g3⟩ := own_wiped z
            exact P3.nO ⟨j, e, g2, g3⟩
          | true =>
            rw [if_pos rfl] at hr
            show tE Z noX (evE Fs C elt) σ2 q3.H _
            cases e' : evE Fs C elt c.ρ c.M with
            | none =>
              rw [e'] at hr
              cases hr
            | some y =>
              rw [e'] at hr
              cases y with
              | er c v M => cases hr
              | ok y =>
                obtain ⟨r2, hr2, hr3⟩ := ob_some hr
                refine ⟨q3, rfl, s3, .ok y, by rw [e3, e4]; exact e', fun q4 u e5 e6 via4 s4 rep => ?_⟩
                rw [← e5] at rep
                obtain ⟨F4, mo4, nw4, f4, x4, s4', r4⟩ := give1 via4 s3 s4 rep
                have P4 : Prv (fz y.m q4.ρ) σ2 F4 q4.φ q4.H D acc := Prv.via (q := ⟨fz y.m q4.ρ, q4.M, F4, q4.φ, q4.H⟩) P3 x4 s3.l.len
                have fzx : Fz ρ1 (fz y.m q4.ρ) := via3.fz.trans x4.fz
                have sw : Sim Z (wipeN (fz y.m q4.ρ) vs) q4.M F4 q4.φ (L2.wipe σ vs) q4.H := ⟨s4'.g, by rw [← hw2']; exact s4'.l.wiped vs⟩
                have nOw4 : ¬ Own (wipeN (fz y.m q4.ρ) vs) (L2.wipe σ vs) D := fun z => by
                  rw [← hw2'] at z
                  obtain ⟨j, e, _, g2, g3⟩ := own_wiped z
                  exact P4.nO ⟨j, e, g2, g3⟩
                obtain ⟨st5, s5⟩ := Sim.priv (ys := acc ++ [u]) sw P4.hD P4.nF P4.nφ nOw4
                have po4 : Post (Own (wipeN q.ρ vs) (L2.wipe σ vs)) no1 q.F q.φ q.H F4 q4.φ q4.H := po3.trans x4.post (fun b h => .inl (ow2 b (via3.fz.own hl2 h))) (fun _ h => h.elim)
                have po5 : Post (Own (wipeN q.ρ vs) (L2.wipe σ vs)) no1 q.F q.φ q.H F4 q4.φ (upd q4.H D (.lst (acc ++ [u]))) := by
                  refine ⟨po4.ext, fun b o h h1 h2 h3 => ?_, po4.mono, po4.new, fun b h => ?_⟩
                  · rw [upd_ne (ne_of_none h hD)]
                    exact po4.keep b o h h1 h2 h3
                  · by_cases hb : b = D
                    · rw [hb, upd_same] at h
                      cases h
                    · rw [upd_ne hb] at h
                      exact po4.dom b h
                have racc : Reps Z F4 q4.φ q4.H acc ds := (S.r.stay st3).stay (x4.post.stayE s3.g)
                have hlen : acc.length < sizeLine := by
                  have h1 := racc.len
                  have h2 := S.sz
                  omega
                refine ⟨acc, s4.g.tab |> fun _ => P4.hD, hlen, ⟨wipeN (fz y.m q4.ρ) vs, q4.M, F4, q4.φ, upd q4.H D (.lst (acc ++ [u]))⟩, acc ++ [u], ds ++ [y.d], ⟨rfl, hlt, s5, po5, fz_wipe S.fz b1 sm fzx, wp3 fzx, upd_same, (racc.app (.cons r4 .nil)).stay st5, P4.nF, P4.nφ, nOw4, by rw [List.length_append]; exact Nat.succ_le_succ S.sz, r2, ?_, ?_⟩⟩
                · rw [e5, e6]
                  exact hr2
                · cases hr3
                  have w := hz2
                  rw [List.append_assoc]
                  exact w
    · -- the end
      left
      have hn : i = xs.length := by have := S.le; omega
      subst hn
      refine ⟨hw2.end, ?_⟩
      rw [List.drop_length] at hr
      have hr : some (⟨[], pt.ρ, pt.M⟩ : Cv) = some r := hr
      cases hr
      have hz2 : z = .ok ⟨mkL (ds ++ []), .fr, backN q.ρ pt.ρ vs, pt.M⟩ := hz2
      rw [List.append_nil] at hz2
      rw [hz2] at d
      have owq : ∀ b, Own (wipeN q.ρ vs) (L2.wipe σ vs) b → Own q.ρ σ b := fun b hb => by
        obtain ⟨j, e, _, g2, g3⟩ := own_wiped hb
        exact ⟨j, e, g2, g3⟩
      have fzb : Fz q.ρ (backN q.ρ pt.ρ vs) := by
        have hl : q.ρ.length = pt.ρ.length := by rw [S.fz.1, wipeN_len]
        refine ⟨by rw [backN_len, hl], fun j => ?_⟩
        by_cases hj : j ∈ vs
        · have e : ∀ s, q.ρ[j]? = some s → (backN q.ρ pt.ρ vs)[j]? = some s := fun s hs => by
            have hlt : j < q.ρ.length := (List.getElem?_eq_some_iff.mp hs).1
            rw [backN_at, if_pos hj, if_pos (by rw [← hl]; exact hlt)]
            rw [List.getElem?_eq_getElem hlt] at hs
            simp [List.getD, hlt, Option.some.inj hs]
          exact ⟨fun h => e _ h, fun d fl h => ⟨fl, e _ h, fun h => h⟩⟩
        · rw [back_out hj]
          have w := S.fz.2 j
          rw [wipeN_at, if_neg hj] at w
          exact w
      refine d ⟨backN q.ρ pt.ρ vs, pt.M, pt.F, pt.φ, pt.H⟩ (.ref D) rfl rfl ⟨via.post.trans S.po (fun b hb => .inl (via.fz.own sp.l.len (owq b hb))) (fun _ h => h.elim), via.fz.trans fzb⟩ ⟨S.s.g, sq.l.back sq.g S.po S.s.l S.fz⟩ ⟨D, rfl, S.r.mkL S.hD, S.nF, S.nφ, fun hO => ?_, via.post.dom D hD⟩
      obtain ⟨j, e, g1, g2⟩ := hO
      by_cases hj : j ∈ vs
      · exact nOw sq.l ⟨j, e, back_in (by rw [S.fz.1, wipeN_len]) hj g1, g2⟩
      · rw [back_out hj] at g1
        exact S.nO ⟨j, e, g1, by rw [wipe_at, if_neg hj]; exact g2⟩
theorem s_comp {own : List (Str × Nat)} {t : T} {src : Src} {cond elt : E} {tg iter eelt : Expr} {ifs : List Expr} {scope : Scope} {pos : Pos} (ok : XOk X Z Γ Fs Eo) (hi : PI X tg iter (iS Z Eo (evSrc Fs C src))) (hB : BlkOk X.N X.env.scope scope own) (hsl : ∀ j ∈ slotsT t, j ∈ own.map (·.2))
    (hg : ∀ (s : Shared) (H : Hp) (Ca : Addr) (cl : List (Str × Addr)) (fp : List Addr), PG (X.blk s H scope (compEnvC scope cl Ca X.env) fp) tg (gT Z t))
    (ht : ∀ (s : Shared) (H : Hp) (Ca : Addr) (cl : List (Str × Addr)) (fp : List Addr), PTs (X.blk s H scope (compEnvC scope cl Ca X.env) fp) ifs (tT Z noX (evE Fs C cond)))
    (he : ∀ (s : Shared) (H : Hp) (Ca : Addr) (cl : List (Str × Addr)) (fp : List Addr), PE (X.blk s H scope (compEnvC scope cl Ca X.env) fp) eelt (tE Z noX (evE Fs C elt)))
    (hs : ∀ x, foldedSetIterable iter X.env x = pure x) : PE X (.ListComp eelt [⟨tg, iter, ifs, 0⟩] scope pos) (tE Z Eo (evE Fs C (.comp own t src cond elt))) :=
  PE.imp (pe_lc ok.calm (by rw [ok.hN]; exact ok.nd) hi hB hg ht he hs) (comp_go hsl)
end
end Ev

/-! Statements. -/
namespace Ev
open L2 PyProof.Rows PySem PySem.Spec
/-- a place within a def's body: F0, φ0 stood at its entry -/
structure Inb (Z : Zt) (F0 : Addr → Prop) (φ0 : List Addr) (σ : Sx) (p : Pt) : Prop where
  s : p.Sim Z σ
  po : Post no1 no1 F0 φ0 Z.H0 p.F p.φ p.H
def DoneS (Z : Zt) (Eo : XK) (F0 : Addr → Prop) (φ0 : List Addr) (p : Pt) (D : Ends) : Rz Fl → Prop
  | .ok (.nx ρ M) => ∀ σ' (q : Pt), q.ρ = ρ → q.M = M → Inb Z F0 φ0 σ' q → Stay p.F p.φ p.H q.F q.φ q.H → D.nx σ' q.H
  | .ok (.br ρ M) => ∀ σ' (q : Pt), q.ρ = ρ → q.M = M → Inb Z F0 φ0 σ' q → Stay p.F p.φ p.H q.F q.φ q.H → D.bk σ' q.H
  | .ok (.ct ρ M) => ∀ σ' (q : Pt), q.ρ = ρ → q.M = M → Inb Z F0 φ0 σ' q → Stay p.F p.φ p.H q.F q.φ q.H → D.ct σ' q.H
  | .ok (.rt o) => ∀ (F' : Addr → Prop) φ' H' v, Post no1 no1 F0 φ0 Z.H0 F' φ' H' → GSim Z o.M F' φ' H' → RepO Z Z.H0 F' φ' H' o.fr v o.d → D.rt v H'
  | .er c v M => ∀ (q : Pt) da, Post no1 no1 F0 φ0 Z.H0 q.F q.φ q.H → Err Z c v M q da → Eo (.ref (Z.ca c)) (some da) q.H
def tS (Z : Zt) (Eo : XK) (F0 : Addr → Prop) (φ0 : List Addr) (g : Nv → Mem → RS) : TS := fun D σ H => ∃ p : Pt, p.H = H ∧ Inb Z F0 φ0 σ p ∧ ∃ r, g p.ρ p.M = some r ∧ DoneS Z Eo F0 φ0 p D r
section
variable {Z : Zt} {Eo : XK} {F0 : Addr → Prop} {φ0 : List Addr} {σ σ' : Sx} {p q : Pt} {D : Ends}
theorem Inb.own (I : Inb Z F0 φ0 σ p) {b : Addr} (h : Own p.ρ σ b) : Z.H0 b = none := by
  obtain ⟨i, d, h1, h2⟩ := h
  obtain ⟨a, e, _, _, _, n⟩ := I.s.l.ow i d h1
  rw [h2] at e
  cases e
  exact n
theorem Inb.post (I : Inb Z F0 φ0 σ p) {F : Addr → Prop} {φ : List Addr} {H : Hp} (x : Post (Own p.ρ σ) no1 p.F p.φ p.H F φ H) : Post no1 no1 F0 φ0 Z.H0 F φ H :=
  I.po.trans x (fun b h => .inr (I.own h)) (fun _ h => h.elim)
theorem Inb.via (I : Inb Z F0 φ0 σ p) (sq : q.Sim Z σ) (x : Via σ p q) : Inb Z F0 φ0 σ q := ⟨sq, I.post x.post⟩
theorem Inb.stay (I : Inb Z F0 φ0 σ p) (x : Via σ p q) : Stay p.F p.φ p.H q.F q.φ q.H := x.post.stayE I.s.g
theorem DoneS.rebase {z : Rz Fl} (st : Stay p.F p.φ p.H q.F q.φ q.H) (d : DoneS Z Eo F0 φ0 p D z) : DoneS Z Eo F0 φ0 q D z := by
  cases z with
  | er c v M => exact d
  | ok f =>
    cases f with
    | nx ρ M => exact fun σ' r e1 e2 I s => d σ' r e1 e2 I (st.trans s)
    | br ρ M => exact fun σ' r e1 e2 I s => d σ' r e1 e2 I (st.trans s)
    | ct ρ M => exact fun σ' r e1 e2 I s => d σ' r e1 e2 I (st.trans s)
    | rt o => exact d
theorem gdS : Gd Z Eo σ fun p (z : Rz Fl) => Inb Z F0 φ0 σ p ∧ DoneS Z Eo F0 φ0 p D z :=
  ⟨fun p c v M _ h q da po er => h.2 q da (h.1.post po) er, fun p q z sp sq x h => ⟨h.1.via sq x, h.2.rebase (h.1.stay x)⟩⟩
theorem nx_some {ρ : Nv} {M : Mem} {z : Rz Fl} (h : nx ρ M = some z) : z = .ok (.nx ρ M) := (Option.some.inj h).symm
/-- a value of a term as it leaves the def -/
theorem RepT.out {H1 : Hp} {m : Md} {v : V} {d : Ev.D} (I : Inb Z F0 φ0 σ q) (h : RepT Z H1 q.ρ σ q.F q.φ q.H m v d) (k : ∀ b, H1 b = none → Z.H0 b = none) : RepO Z Z.H0 q.F q.φ q.H (frOf q.ρ m) v d := by
  cases m with
  | sh => exact h
  | fr =>
    obtain ⟨a, e, r, n1, n2, _, n4⟩ := h
    exact ⟨a, e, r, n1, n2, k a n4⟩
  | bo i =>
    obtain ⟨h1, fl, h2⟩ := h
    have e0 : frOf q.ρ (.bo i) = fl := by
      show (match q.ρ[i]? with
        | some (some (_, true)) => true
        | _ => false) = fl
      rw [h2]
      cases fl <;> rfl
    rw [e0]
    cases fl with
    | true =>
      obtain ⟨a, e, r, n1, n2, n3⟩ := I.s.l.ow i d h2
      rw [h1] at e
      cases e
      exact ⟨a, rfl, r, n1, n2, n3⟩
    | false =>
      obtain ⟨v', e, r⟩ := I.s.l.sh i d h2
      rw [h1] at e
      cases e
      exact r
end
section
variable {X : Cx} {Z : Zt} {Γ : Gam} {Fs : List Fn} {C : Nv → Clo} {Eo : XK} {F0 : Addr → Prop} {φ0 : List Addr}
theorem s_ret {e : Expr} {a : E} {pos : Pos} (ha : PE X e (tE Z Eo (evE Fs C a))) : PS X (.Return (some e) pos) (tS Z Eo F0 φ0 (evS Fs C (.ret a))) := by
  refine PS.imp (ps_ret ha) fun D σ H q => ?_
  obtain ⟨p, rfl, I, z, hz, d⟩ := q
  unfold evS at hz
  refine sqE (gdS (F0 := F0) (φ0 := φ0) (D := D)) I.s hz ⟨I, d⟩ fun x m q v h1 via sq rx d1 => ?_
  cases h1
  exact d1.2 q.F q.φ q.H v d1.1.po sq.g (RepT.out d1.1 rx fun b h => I.s.l.ent b h)
theorem s_retn {pos : Pos} : PS X (.Return none pos) (tS Z Eo F0 φ0 (evS Fs C .retn)) := by
  refine PS.imp ps_retN fun D σ H q => ?_
  obtain ⟨p, rfl, I, z, hz, d⟩ := q
  unfold evS at hz
  cases hz
  exact d p.F p.φ p.H .non I.po I.s.g (.py .non)
theorem s_pas {pos : Pos} : PS X (.Pass pos) (tS Z Eo F0 φ0 (evS Fs C .pas)) := by
  refine PS.imp ps_pass fun D σ H q => ?_
  obtain ⟨p, rfl, I, z, hz, d⟩ := q
  unfold evS at hz
  rw [nx_some hz] at d
  exact d σ p rfl rfl I (stay_grow fun _ h => h)
theorem s_brk {pos : Pos} : PS X (.Break pos) (tS Z Eo F0 φ0 (evS Fs C .brk)) := by
  refine PS.imp ps_break fun D σ H q => ?_
  obtain ⟨p, rfl, I, z, hz, d⟩ := q
  unfold evS at hz
  cases hz
  exact d σ p rfl rfl I (stay_grow fun _ h => h)
theorem s_cnt {pos : Pos} : PS X (.Continue pos) (tS Z Eo F0 φ0 (evS Fs C .cnt)) := by
  refine PS.imp ps_continue fun D σ H q => ?_
  obtain ⟨p, rfl, I, z, hz, d⟩ := q
  unfold evS at hz
  cases hz
  exact d σ p rfl rfl I (stay_grow fun _ h => h)
/-- no comprehension at its head -/
def noComp : Expr → Bool
  | .ListComp _ _ _ _ => false
  | .SetComp _ _ _ _ => false
  | .DictComp _ _ _ _ _ => false
  | _ => true
theorem noComp_sw {e : Expr} {t : Option Expr} {n : Nat} {env : Env} (h : noComp e = true) : swapsWith e t n env = pure false := by
  cases e <;> first | rfl | cases h
theorem s_ex {e : Expr} {a : E} {pos : Pos} (hn : noComp e = true) (ha : PE X e (tE Z Eo (evE Fs C a))) : PS X (.Expr e pos) (tS Z Eo F0 φ0 (evS Fs C (.ex a))) := by
  refine PS.imp (ps_expr ha (noComp_sw hn)) fun D σ H q => ?_
  obtain ⟨p, rfl, I, z, hz, d⟩ := q
  unfold evS at hz
  refine sqE (gdS (F0 := F0) (φ0 := φ0) (D := D)) I.s hz ⟨I, d⟩ fun x m q v h1 via sq rx d1 => ?_
  have d2 := d1.2
  rw [nx_some h1] at d2
  exact d2 σ q rfl rfl d1.1 (stay_grow fun _ h => h)
theorem s_ifs {c : Expr} {bs es : List Stmt} {a : E} {b e : Ss} {pos : Pos} (hc : PT X c (tT Z Eo (evE Fs C a))) (hb : PSs X bs (tS Z Eo F0 φ0 (evSs Fs C b))) (he : PSs X es (tS Z Eo F0 φ0 (evSs Fs C e))) : PS X (.If c bs es pos) (tS Z Eo F0 φ0 (evS Fs C (.ifs a b e))) := by
  refine PS.imp (ps_if hc hb he) fun D σ H q => ?_
  obtain ⟨p, rfl, I, z, hz, d⟩ := q
  unfold evS at hz
  refine sqT (gdS (F0 := F0) (φ0 := φ0) (D := D)) I.s hz ⟨I, d⟩ fun x m t q _ h1 via sq d1 => ?_
  cases t with
  | true => exact ⟨q, rfl, d1.1, z, h1, d1.2⟩
  | false => exact ⟨q, rfl, d1.1, z, h1, d1.2⟩
theorem s_snil : PSs X [] (tS Z Eo F0 φ0 (evSs Fs C .nil)) := by
  refine PSs.imp pss_nil fun D σ H q => ?_
  obtain ⟨p, rfl, I, z, hz, d⟩ := q
  unfold evSs at hz
  rw [nx_some hz] at d
  exact d σ p rfl rfl I (stay_grow fun _ h => h)
theorem s_scons {s : Stmt} {ss : List Stmt} {a : S} {as : Ss} (h1 : PS X s (tS Z Eo F0 φ0 (evS Fs C a))) (h2 : PSs X ss (tS Z Eo F0 φ0 (evSs Fs C as))) : PSs X (s :: ss) (tS Z Eo F0 φ0 (evSs Fs C (.cons a as))) := by
  refine PSs.imp (pss_cons h1 h2) fun D σ H q => ?_
  obtain ⟨p, rfl, I, z, hz, d⟩ := q
  unfold evSs at hz
  show tS Z Eo F0 φ0 (evS Fs C a) { D with nx := tS Z Eo F0 φ0 (evSs Fs C as) D } σ p.H
  cases e : evS Fs C a p.ρ p.M with
  | none =>
    rw [e] at hz
    cases hz
  | some y =>
    rw [e] at hz
    refine ⟨p, rfl, I, y, e, ?_⟩
    cases y with
    | er c v M =>
      have : z = .er c v M := (Option.some.inj hz).symm
      subst this
      exact d
    | ok f =>
      cases f with
      | nx ρ M =>
        intro σ' q e1 e2 I' st
        exact ⟨q, rfl, I', z, by rw [e1, e2]; exact hz, d.rebase st⟩
      | br ρ M =>
        have : z = .ok (.br ρ M) := (Option.some.inj hz).symm
        subst this
        exact d
      | ct ρ M =>
        have : z = .ok (.ct ρ M) := (Option.some.inj hz).symm
        subst this
        exact d
      | rt o =>
        have : z = .ok (.rt o) := (Option.some.inj hz).symm
        subst this
        exact d
end
end Ev

/-! Stores. -/
namespace Ev
open L2 PyProof.Rows PySem PySem.Spec
section
variable {Z : Zt} {Eo : XK} {F0 : Addr → Prop} {φ0 : List Addr} {σ σ' : Sx} {p q : Pt}
theorem post_same {F F' : Addr → Prop} {φ : List Addr} {H : Hp} {O : Addr → Prop} (mo : ∀ b, F b → F' b) (nw : ∀ b, F' b → F b ∨ H b = none ∨ O b) : Post O no1 F φ H F' φ H := ⟨⟨[], by simp, by simp⟩, fun _ _ h _ _ _ => h, mo, nw, fun _ h => h⟩
/-- a term's value into one slot -/
theorem store_nm {d : Ev.D} {m : Md} {v : V} {i : Nat} {ρ2 : Nv} (I : Inb Z F0 φ0 σ p) (via : Via σ p q) (sq : q.Sim Z σ) (rx : RepT Z p.H q.ρ σ q.F q.φ q.H m v d) (h : store (.nm i) d m q.ρ = some ρ2) :
    ∃ F', Inb Z F0 φ0 (σ.set i (some v)) ⟨ρ2, q.M, F', q.φ, q.H⟩ ∧ Stay p.F p.φ p.H F' q.φ q.H := by
  have other : ∀ {ρ'}, store (.nm i) d m q.ρ = some ((fz m q.ρ).set i (some (d, false))) → ρ' = ρ2 → ∃ F', Inb Z F0 φ0 (σ.set i (some v)) ⟨ρ2, q.M, F', q.φ, q.H⟩ ∧ Stay p.F p.φ p.H F' q.φ q.H := fun {ρ'} e _ => by
    rw [e] at h
    cases h
    obtain ⟨F', mo, nw, f, x1, s1, r1⟩ := give1 (q := q) via I.s sq rx
    exact ⟨F', ⟨⟨s1.g, s1.l.set r1⟩, I.post x1.post⟩, x1.post.stayE I.s.g⟩
  cases m with
  | sh => exact other rfl rfl
  | bo j => exact other rfl rfl
  | fr =>
    have h : some (q.ρ.set i (some (d, true))) = some ρ2 := h
    cases h
    obtain ⟨a, rfl, r, n1, n2, n3, n4⟩ := rx
    exact ⟨q.F, ⟨⟨sq.g, sq.l.setO r n1 n2 (I.s.l.ent a n4) fun j e _ h1 h2 => n3 ⟨j, e, h1, h2⟩⟩, I.post via.post⟩, via.post.stayE I.s.g⟩
def frM : Md → Md
  | .fr => .fr
  | _ => .sh
/-- all but the new lists are given away -/
theorem gives_bo {M : Mem} {φ : List Addr} {H : Hp} : ∀ {ds : List (Ev.D × Md)} {vs : List V} {ρ : Nv} {F : Addr → Prop}, Via σ p ⟨ρ, M, F, φ, H⟩ → p.Sim Z σ → Sim Z ρ M F φ σ H → RepTs Z p.H ρ σ F φ H vs ds →
    ∃ F' : Addr → Prop, (∀ b, F b → F' b) ∧ (∀ b, F' b → F b ∨ Own ρ σ b) ∧ Fz ρ (fzs ds ρ) ∧ Via σ p ⟨fzs ds ρ, M, F', φ, H⟩ ∧ Sim Z (fzs ds ρ) M F' φ σ H ∧ RepTs Z p.H (fzs ds ρ) σ F' φ H vs (ds.map fun x => (x.1, frM x.2))
  | [], [], ρ, F, x, _, sq, _ => ⟨F, fun _ h => h, fun _ h => .inl h, Fz.refl _, x, sq, trivial⟩
  | d :: ds, v :: vs, ρ, F, x, sp, sq, h => by
    obtain ⟨h1, h2, h3⟩ := h
    have hd : ∀ {ρ1 : Nv} {F1 : Addr → Prop}, fz d.2 ρ = ρ1 → (∀ b, F b → F1 b) → (∀ b, F1 b → F b ∨ Own ρ σ b) → Fz ρ ρ1 → Via σ p ⟨ρ1, M, F1, φ, H⟩ → Sim Z ρ1 M F1 φ σ H → RepT Z p.H ρ1 σ F1 φ H (frM d.2) v d.1 → RepTs Z p.H ρ1 σ F1 φ H vs ds →
        ∃ F' : Addr → Prop, (∀ b, F b → F' b) ∧ (∀ b, F' b → F b ∨ Own ρ σ b) ∧ Fz ρ (fzs (d :: ds) ρ) ∧ Via σ p ⟨fzs (d :: ds) ρ, M, F', φ, H⟩ ∧ Sim Z (fzs (d :: ds) ρ) M F' φ σ H ∧ RepTs Z p.H (fzs (d :: ds) ρ) σ F' φ H (v :: vs) ((d :: ds).map fun x => (x.1, frM x.2)) := by
      intro ρ1 F1 e mo nw f x1 s1 r1 r2
      obtain ⟨F2, mo2, nw2, f2, x2, s2, rs⟩ := gives_bo x1 sp s1 r2
      have e2 : fzs (d :: ds) ρ = fzs ds ρ1 := by
        show fzs ds (fz d.2 ρ) = _
        rw [e]
      rw [e2]
      refine ⟨F2, fun b h => mo2 b (mo b h), fun b h => ?_, f.trans f2, x2, s2, ?_, fun a e1 e3 j d' hj hf hv => ?_, rs⟩
      · rcases nw2 b h with z | z
        · exact nw b z
        · exact .inr (f.own sq.l.len z)
      · exact r1.grow f2 mo2 nw2 s1.l.len fun a _ _ n => n
      · have e1 : frM d.2 = .fr := e1
        have hd2 : d.2 = .fr := by
          revert e1
          cases d.2 <;> intro z <;> first | rfl | cases z
        rw [List.getElem?_map] at hj
        cases q : ds[j]? with
        | none =>
          rw [q] at hj
          cases hj
        | some d0 =>
          rw [q] at hj
          cases hj
          have hf : frM d0.2 = .fr := hf
          have hd0 : d0.2 = .fr := by
            revert hf
            cases d0.2 <;> intro z <;> first | rfl | cases z
          exact h2 a hd2 e3 j d0 q hd0 hv
    cases hm : d.2 with
    | fr =>
      refine hd (ρ1 := ρ) (F1 := F) (by rw [hm]; rfl) (fun _ h => h) (fun _ h => .inl h) (Fz.refl _) x sq ?_ h3
      rw [hm] at h1 ⊢
      exact h1
    | sh =>
      refine hd (ρ1 := ρ) (F1 := F) (by rw [hm]; rfl) (fun _ h => h) (fun _ h => .inl h) (Fz.refl _) x sq ?_ h3
      rw [hm] at h1 ⊢
      exact h1
    | bo i =>
      rw [hm] at h1
      obtain ⟨F1, mo, nw, f, x1, s1, r1⟩ := give1 (q := ⟨ρ, M, F, φ, H⟩) x sp sq h1
      have nw1 : ∀ b, F1 b → F b ∨ Own ρ σ b := fun b h => by
        rcases nw b h with z | ⟨z, _⟩ | z
        · exact .inl z
        · cases z
        · exact .inr z
      refine hd (by rw [hm]) mo nw1 f x1 s1 ?_ (RepTs.grow f mo nw1 sq.l.len h3 fun j d' a _ _ _ n => n)
      rw [hm]
      exact r1
  | [], _ :: _, _, _, _, _, _, h => h.elim
  | _ :: _, [], _, _, _, _, _, h => h.elim
def setV : List Nat → List V → Sx → Sx
  | i :: is, v :: vs, σ => setV is vs (σ.set i (some v))
  | _, _, σ => σ
/-- slots set one behind another -/
theorem LSim.setAll {H1 : Hp} {F : Addr → Prop} {φ : List Addr} {H : Hp} (en : ∀ b, H1 b = none → Z.H0 b = none) : ∀ {is : List Nat} {ds : List (Ev.D × Md)} {vs : List V} {ρ ρ2 : Nv} {σ : Sx}, LSim Z ρ F φ σ H → RepTs Z H1 ρ σ F φ H vs (ds.map fun x => (x.1, frM x.2)) → is.Nodup → setAll is ds ρ = some ρ2 → LSim Z ρ2 F φ (setV is vs σ) H
  | [], [], vs, ρ, ρ2, σ, l, r, _, h => by
    have h : some ρ = some ρ2 := h
    cases h
    cases vs <;> exact l
  | i :: is, d :: ds, v :: vs, ρ, ρ2, σ, l, r, nd, h => by
    obtain ⟨r1, r2, r3⟩ := r
    have nd2 := List.nodup_cons.mp nd
    have h : Ev.setAll is ds (ρ.set i (some (d.1, match d.2 with
      | .fr => true
      | _ => false))) = some ρ2 := h
    have tail : ∀ {b : Bool}, (∀ a, (b = true → v = .ref a → frM d.2 = .fr)) → RepTs Z H1 (ρ.set i (some (d.1, b))) (σ.set i (some v)) F φ H vs (ds.map fun x => (x.1, frM x.2)) := fun {b} hb => by
      have go : ∀ {vs : List V} {ds : List (Ev.D × Md)}, RepTs Z H1 ρ σ F φ H vs (ds.map fun x => (x.1, frM x.2)) → (∀ a, frM d.2 = .fr → v = .ref a → ∀ (j : Nat) (d' : Ev.D × Md), (ds.map fun x => (x.1, frM x.2))[j]? = some d' → d'.2 = .fr → vs[j]? ≠ some (V.ref a)) → RepTs Z H1 (ρ.set i (some (d.1, b))) (σ.set i (some v)) F φ H vs (ds.map fun x => (x.1, frM x.2)) := by
        intro vs
        induction vs with
        | nil =>
          intro ds r _
          cases ds with
          | nil => trivial
          | cons _ _ => exact r.elim
        | cons w ws ih =>
          intro ds r hq
          cases ds with
          | nil => exact r.elim
          | cons d0 ds =>
            refine ⟨?_, r.2.1, ih r.2.2 fun a e1 e2 j d' hj => hq a e1 e2 (j + 1) d' (by simpa using hj)⟩
            have r1 := r.1
            have hq0 := hq
            show RepT Z H1 _ _ F φ H (frM d0.2) w d0.1
            have r1 : RepT Z H1 ρ σ F φ H (frM d0.2) w d0.1 := r1
            cases hm : frM d0.2 with
            | sh =>
              rw [hm] at r1
              exact r1
            | bo k =>
              revert hm
              cases d0.2 <;> intro z <;> cases z
            | fr =>
              rw [hm] at r1
              obtain ⟨a, rfl, q1, q2, q3, q4, q5⟩ := r1
              refine ⟨a, rfl, q1, q2, q3, fun z => ?_, q5⟩
              obtain ⟨j, e, g1, g2⟩ := z
              rw [List.getElem?_set] at g1 g2
              split at g1
              · rename_i hij
                split at g1
                · cases g1
                  rw [if_pos hij] at g2
                  split at g2
                  · have ev : v = .ref a := Option.some.inj (Option.some.inj g2)
                    exact hq a (hb a rfl ev) ev 0 (d0.1, frM d0.2) rfl hm rfl
                  · cases g2
                · cases g1
              · rename_i hij
                rw [if_neg hij] at g2
                exact q4 ⟨j, e, g1, g2⟩
      exact go r3 r2
    have r1 : RepT Z H1 ρ σ F φ H (frM d.2) v d.1 := r1
    show LSim Z ρ2 F φ (setV is vs (σ.set i (some v))) H
    cases hm : d.2 with
    | fr =>
      rw [hm] at h r1
      obtain ⟨a, rfl, q1, q2, q3, q4, q5⟩ := r1
      exact LSim.setAll en (l.setO q1 q2 q3 (en a q5) fun j e _ h1 h2 => q4 ⟨j, e, h1, h2⟩) (tail fun _ _ _ => by rw [hm]; rfl) nd2.2 h
    | sh =>
      rw [hm] at h r1
      exact LSim.setAll en (l.set r1) (tail fun _ z _ => by cases z) nd2.2 h
    | bo k =>
      rw [hm] at h r1
      exact LSim.setAll en (l.set r1) (tail fun _ z _ => by cases z) nd2.2 h
  | [], _ :: _, _, _, _, _, _, _, _, h => by cases h
  | _ :: _, [], _, _, _, _, _, _, _, h => by cases h
  | _ :: _, _ :: _, [], _, _, _, _, r, _, _ => r.elim
end
end Ev

/-! Assignments. -/
namespace Ev
open L2 PyProof.Rows PySem PySem.Spec
section
variable {X : Cx} {Z : Zt} {Γ : Gam} {Fs : List Fn} {C : Nv → Clo} {Eo : XK} {F0 : Addr → Prop} {φ0 : List Addr}
theorem asg_nm {i : Nat} {a : E} {D : Ends} {σ : Sx} {p : Pt} {z : Rz Fl} (I : Inb Z F0 φ0 σ p) (hz : evS Fs C (.asg (.nm i) a) p.ρ p.M = some z) (d : DoneS Z Eo F0 φ0 p D z) : tE Z Eo (evE Fs C a) σ p.H fun v H => gName i v σ H D.nx := by
  unfold evS at hz
  refine sqE (gdS (F0 := F0) (φ0 := φ0) (D := D)) I.s hz ⟨I, d⟩ fun x m q v h1 via sq rx d1 => ?_
  obtain ⟨ρ2, h2, h1⟩ := ob_some h1
  have d2 := d
  rw [nx_some h1] at d2
  obtain ⟨F', J, st⟩ := store_nm I via sq rx h2
  exact d2 _ ⟨ρ2, q.M, F', q.φ, q.H⟩ rfl rfl J st
theorem s_asgN {i : Nat} {x : Str} {e : Expr} {a : E} {px pos : Pos} (ok : XOk X Z Γ Fs Eo) (hl : locB Γ i x = true) (hs : swapsWith e (some (.Name x px)) pos.line X.env = pure false) (ha : PE X e (tE Z Eo (evE Fs C a))) :
    PS X (.Assign [.Name x px] e pos) (tS Z Eo F0 φ0 (evS Fs C (.asg (.nm i) a))) := by
  obtain ⟨h1, h2, h3⟩ := locB_ok ok hl
  refine PS.imp (ps_set (i := i) (by rw [ok.hN]; exact ok.nd) h1 h2 ha hs h3) fun D σ H q => ?_
  obtain ⟨p, rfl, I, z, hz, d⟩ := q
  exact asg_nm I hz d
/-- name = [..] with the store in the block's own end -/
def swB (Γ : Gam) (scope : Scope) (x : Str) (l1 l2 : Nat) : Bool := decide (Γ.sc.names.lookup x = some .local) && l1 == l2 && !(scope.names.any fun (n, k) => n == x && (k == .local || k == .cell))
theorem sw_lc (ok : XOk X Z Γ Fs Eo) {x : Str} {px pos : Pos} {elt : Expr} {gens : List Comprehension} {scope : Scope} {n : Nat} (hc : Γ.sc.names.lookup x = some .local ∨ Γ.sc.names.lookup x = some .cell) :
    swapsWith (.ListComp elt gens scope pos) (some (.Name x px)) n X.env = pure (swB Γ scope x px.line pos.line) := by
  have e : X.env.kindOf x = Γ.sc.names.lookup x := by
    rcases hc with h | h
    · rw [h, ok.ko x _ h (.inl rfl)]
    · rw [h, ok.ko x _ h (.inr rfl)]
  show (pure (X.env.blockKind == .function && X.env.kindOf x == some .local && px.line == pos.line && !(scope.names.any fun (n, k) => n == x && (k == .local || k == .cell))) : Sem Bool) = _
  rw [ok.bk, e]
  unfold swB
  congr 1
  rcases hc with h | h <;> rw [h] <;> rfl
theorem s_asgL {i : Nat} {x : Str} {own : List (Str × Nat)} {t : T} {src : Src} {cond elt : E} {tg iter eelt : Expr} {ifs : List Expr} {scope : Scope} {px pos spos : Pos} (ok : XOk X Z Γ Fs Eo) (hl : locB Γ i x = true) (hsw : swB Γ scope x px.line pos.line = true)
    (hi : PI X tg iter (iS Z Eo (evSrc Fs C src))) (hB : BlkOk X.N X.env.scope scope own) (hsl : ∀ j ∈ slotsT t, j ∈ own.map (·.2))
    (hg : ∀ (s : Shared) (H : Hp) (Ca : Addr) (cl : List (Str × Addr)) (fp : List Addr), PG (X.blk s H scope (compEnvC scope cl Ca X.env) fp) tg (gT Z t))
    (ht : ∀ (s : Shared) (H : Hp) (Ca : Addr) (cl : List (Str × Addr)) (fp : List Addr), PTs (X.blk s H scope (compEnvC scope cl Ca X.env) fp) ifs (tT Z noX (evE Fs C cond)))
    (he : ∀ (s : Shared) (H : Hp) (Ca : Addr) (cl : List (Str × Addr)) (fp : List Addr), PE (X.blk s H scope (compEnvC scope cl Ca X.env) fp) eelt (tE Z noX (evE Fs C elt)))
    (hs : ∀ x, foldedSetIterable iter X.env x = pure x) : PS X (.Assign [.Name x px] (.ListComp eelt [⟨tg, iter, ifs, 0⟩] scope pos) spos) (tS Z Eo F0 φ0 (evS Fs C (.asg (.nm i) (.comp own t src cond elt)))) := by
  obtain ⟨h1, h2, h3⟩ := locB_ok ok hl
  have hloc : Γ.sc.names.lookup x = some .local := by
    unfold swB at hsw
    simp only [Bool.and_eq_true, decide_eq_true_eq] at hsw
    exact hsw.1.1
  have hyl : X.env.scope.names.lookup x = some .local := ok.ko x _ hloc (.inl rfl)
  refine PS.imp (ps_setLc ok.calm (by rw [ok.hN]; exact ok.nd) h1 hyl (by rw [sw_lc ok (.inl hloc), hsw]) hi hB hg ht he hs) fun D σ H q => ?_
  obtain ⟨p, rfl, I, z, hz, d⟩ := q
  exact comp_go hsl σ p.H _ (asg_nm I hz d)
/-! several at once -/
def tupV : Expr → Option (List Expr)
  | .Tuple vs _ _ => some vs
  | _ => none
/-- stored one behind another, from a row -/
def plainV (ts : List Expr) (e : Expr) : Bool := match tupV e with
  | none => true
  | some vs => !(ts.length == 2 || ts.length == 3) || vs.all (foldedForSure 8)
theorem plainV_ok {ts : List Expr} {e : Expr} {k : Nat} {tp : Pos} {env : Env} (h : plainV ts e = true) : swappedStores [.Tuple ts k tp] e env = pure none := by
  cases e with
  | Tuple vs k2 p2 =>
    have h : (!(ts.length == 2 || ts.length == 3) || vs.all (foldedForSure 8)) = true := h
    unfold swappedStores
    simp only
    split
    · rfl
    · split
      · rfl
      · split
        · rfl
        · split
          · rfl
          · rename_i h1 _ _ h4
            simp only [Bool.or_eq_true, Bool.not_eq_true'] at h h1
            rcases h with h | h
            · simp [h] at h1
            · exact absurd h h4
  | _ => rfl
theorem s_asgT {ts : List T} {es : List Expr} {e : Expr} {a : E} {k : Nat} {tp pos : Pos} (ok : XOk X Z Γ Fs Eo) (hc : ckT Γ (.tp ts) (.Tuple es k tp) = true) (hp : plainV es e = true) (ha : PE X e (tE Z Eo (evE Fs C a))) :
    PS X (.Assign [.Tuple es k tp] e pos) (tS Z Eo F0 φ0 (evS Fs C (.asg (.tp ts) a))) := by
  refine PS.imp (ps_asg ha (s_tgt ok (.tp ts) _ hc) (by show swapsWith e (some (.Tuple es k tp)) pos.line X.env = pure false; cases e <;> rfl) (plainV_ok hp) rfl) fun D σ H q => ?_
  obtain ⟨p, rfl, I, z, hz, d⟩ := q
  unfold evS at hz
  refine sqE (gdS (F0 := F0) (φ0 := φ0) (D := D)) I.s hz ⟨I, d⟩ fun x m q v h1 via sq rx d1 => ?_
  obtain ⟨ρ2, h2, h1⟩ := ob_some h1
  have d2 := d
  rw [nx_some h1] at d2
  obtain ⟨F', mo, nw, f, x1, s1, r1⟩ := give1 (q := q) via I.s sq rx
  have h2 : bindT (.tp ts) x (fz m q.ρ) = some ρ2 := by
    cases m <;> exact h2
  exact ⟨⟨fz m q.ρ, q.M, F', q.φ, q.H⟩, x, ρ2, rfl, s1, r1, h2, fun σ' _ _ l => d2 σ' ⟨ρ2, q.M, F', q.φ, q.H⟩ rfl rfl ⟨⟨s1.g, l⟩, I.post x1.post⟩ (x1.post.stayE I.s.g)⟩
end
end Ev

/-! Several slots; lists that are changed. -/
namespace Ev
open L2 PyProof.Rows PySem PySem.Spec
section
variable {X : Cx} {Z : Zt} {Γ : Gam} {Fs : List Fn} {C : Nv → Clo} {Eo : XK} {F0 : Addr → Prop} {φ0 : List Addr}
/-- a, b = x, y stored from the right -/
def parOk (Γ : Gam) (ns : List (Str × Pos)) (vs : List Expr) : Bool := ns.length == vs.length && (ns.length == 2 || ns.length == 3) && vs.all unst && ns.all (fun n => decide (Γ.sc.names.lookup n.1 = some .local) && n.2.line == ((ns.head?.map (·.2.line)).getD 0)) && decide ((ns.map (·.1)).eraseDups.length = ns.length) && !vs.all (foldedForSure 8) && !vs.all (constantsAlone 8)
def nmE (ns : List (Str × Pos)) : List Expr := ns.map fun n => .Name n.1 n.2
theorem unst_any {vs : List Expr} (h : vs.all unst = true) : (vs.any fun | .Starred .. => true | _ => false) = false := by
  induction vs with
  | nil => rfl
  | cons v vs ih =>
    simp only [List.all_cons, Bool.and_eq_true] at h
    rw [List.any_cons, ih h.2]
    revert h
    cases v <;> intro h <;> first | rfl | cases h.1
theorem par_sw (ok : XOk X Z Γ Fs Eo) {ns : List (Str × Pos)} {vs : List Expr} {k k2 : Nat} {tp p2 : Pos} (h : parOk Γ ns vs = true) : swappedStores [.Tuple (nmE ns) k tp] (.Tuple vs k2 p2) X.env = pure (some (ns.map (·.1))) := by
  unfold parOk at h
  simp only [Bool.and_eq_true, Bool.not_eq_true', decide_eq_true_eq, List.all_eq_true] at h
  obtain ⟨⟨⟨⟨⟨⟨h1, h2⟩, h3⟩, h4⟩, h5⟩, h6⟩, h7⟩ := h
  have hl : (nmE ns).length = ns.length := by simp [nmE]
  have hn : ∀ n ∈ ns, X.env.kindOf n.1 = some .local := fun n hn => ok.ko _ _ (h4 n hn).1 (.inl rfl)
  have hf : ∀ (l : Nat) (ms : List (Str × Pos)), (∀ n ∈ ms, X.env.kindOf n.1 = some .local ∧ (n.2.line == l) = true) → (nmE ms).filterMap (fun
    | .Name id pos => if X.env.kindOf id == some .local && pos.line == l then some id else none
    | _ => none) = ms.map (·.1) := by
    intro l ms
    induction ms with
    | nil => intro _; rfl
    | cons n ms ih =>
      intro hm
      obtain ⟨q1, q2⟩ := hm n List.mem_cons_self
      show List.filterMap _ (.Name n.1 n.2 :: nmE ms) = _
      rw [List.filterMap_cons]
      simp only [q1, q2]
      rw [ih fun m h => hm m (List.mem_cons_of_mem _ h)]
      rfl
  have hline : ((nmE ns).head?.map (·.pos.line)).getD 0 = (ns.head?.map (·.2.line)).getD 0 := by
    cases ns <;> rfl
  have hfm := hf ((ns.head?.map (·.2.line)).getD 0) ns fun n hm => ⟨hn n hm, (h4 n hm).2⟩
  have c1 : (!((nmE ns).length == 2 || (nmE ns).length == 3) || vs.length != (nmE ns).length || X.env.blockKind != .function) = false := by
    rw [hl, ok.bk, beq_iff_eq.mp h1]
    rw [beq_iff_eq.mp h1] at h2
    rw [h2]
    simp
  have c2 := unst_any (vs := vs) (by rw [List.all_eq_true]; exact h3)
  have c3 : ∀ l : List Str, l = ns.map (·.1) → (l.length != (nmE ns).length || l.eraseDups.length != l.length) = false := fun l e => by
    rw [e, h5, hl, List.length_map]
    simp
  unfold swappedStores
  simp only [c1, hline, Bool.false_eq_true, if_false]
  refine (if_neg fun hh => absurd (hh.symm.trans c2) (by simp)).trans ?_
  refine (if_neg fun hh => absurd (hh.symm.trans (c3 _ hfm)) (by simp)).trans ?_
  simp only [h6, h7, Bool.false_eq_true, if_false]
  exact congrArg (fun l => pure (some l)) hfm
theorem RepTs.len {H0 : Hp} {ρ : Nv} {σ : Sx} {F : Addr → Prop} {φ : List Addr} {H : Hp} : ∀ {vs : List V} {ds : List (Ev.D × Md)}, RepTs Z H0 ρ σ F φ H vs ds → vs.length = ds.length
  | [], [], _ => rfl
  | _ :: _, _ :: _, h => congrArg (· + 1) (RepTs.len h.2.2)
  | [], _ :: _, h => h.elim
  | _ :: _, [], h => h.elim
theorem setAll_len : ∀ {is : List Nat} {ds : List (Ev.D × Md)} {ρ ρ2 : Nv}, setAll is ds ρ = some ρ2 → is.length = ds.length
  | [], [], _, _, _ => rfl
  | i :: is, d :: ds, ρ, ρ2, h => congrArg (· + 1) (setAll_len (show setAll is ds _ = some ρ2 from h))
  | [], _ :: _, _, _, h => by cases h
  | _ :: _, [], _, _, h => by cases h
theorem par_go {is : List Nat} {as : Es} {D : Ends} {σ : Sx} {p : Pt} {z : Rz Fl} (nd : is.Nodup) (I : Inb Z F0 φ0 σ p) (hz : evS Fs C (.par is as) p.ρ p.M = some z) (d : DoneS Z Eo F0 φ0 p D z) :
    tL Z Eo (evL Fs C as) σ p.H fun vs H1 => vs.length = is.length ∧ D.nx (setV is vs σ) H1 := by
  unfold evS at hz
  refine sqL (gdS (F0 := F0) (φ0 := φ0) (D := D)) I.s hz ⟨I, d⟩ fun ds q vs h1 via sq rs d1 => ?_
  obtain ⟨ρ2, h2, h1⟩ := ob_some h1
  have d2 := d
  rw [nx_some h1] at d2
  obtain ⟨F', mo, nw, f, x1, s1, r1⟩ := gives_bo (ρ := q.ρ) (F := q.F) via I.s sq rs
  have h2 : setAll is ds (fzs ds q.ρ) = some ρ2 := h2
  refine ⟨by rw [rs.len, setAll_len h2], ?_⟩
  exact d2 _ ⟨ρ2, q.M, F', q.φ, q.H⟩ rfl rfl ⟨⟨s1.g, LSim.setAll I.s.l.ent s1.l r1 nd h2⟩, I.post x1.post⟩ (x1.post.stayE I.s.g)
theorem s_par2 {i j : Nat} {x y : Str} {a b : Expr} {as : Es} {px py pt pt2 pos : Pos} {kt k2 : Nat} (ok : XOk X Z Γ Fs Eo) (hi : locB Γ i x = true) (hj : locB Γ j y = true) (hij : i ≠ j) (hp : parOk Γ [(x, px), (y, py)] [a, b] = true) (ha : PA X [a, b] (tL Z Eo (evL Fs C as))) :
    PS X (.Assign [.Tuple [.Name x px, .Name y py] kt pt] (.Tuple [a, b] k2 pt2) pos) (tS Z Eo F0 φ0 (evS Fs C (.par [i, j] as))) := by
  have lc : ∀ n ∈ [(x, px), (y, py)], X.env.scope.names.lookup n.1 = some .local := fun n hn => by
    have h := hp
    unfold parOk at h
    simp only [Bool.and_eq_true, List.all_eq_true, decide_eq_true_eq] at h
    exact ok.ko _ _ (h.1.1.1.2 n hn).1 (.inl rfl)
  refine PS.imp (ps_par (i := i) (j := j) ok.calm (by rw [ok.hN]; exact ok.nd) (locB_ok ok hi).1 (locB_ok ok hj).1 hij (lc (x, px) (by simp)) (lc (y, py) (by simp)) ha (par_sw ok hp) rfl) fun D σ H q => ?_
  obtain ⟨p, rfl, I, z, hz, d⟩ := q
  have w := par_go (nd := by simp [hij]) I hz d
  refine (show tL Z Eo (evL Fs C as) σ p.H _ from ?_)
  obtain ⟨p', e, s', r, hr, dn⟩ := w
  refine ⟨p', e, s', r, hr, ?_⟩
  cases r with
  | er c v M => exact dn
  | ok l =>
    intro q vs e1 e2 y sy rep
    obtain ⟨hl, k⟩ := dn q vs e1 e2 y sy rep
    match vs, hl with
    | [v, w], _ => exact ⟨v, w, rfl, k⟩
theorem s_par3 {i j l : Nat} {x y z : Str} {a b c : Expr} {as : Es} {px py pz pt pt2 pos : Pos} {kt k2 : Nat} (ok : XOk X Z Γ Fs Eo) (hi : locB Γ i x = true) (hj : locB Γ j y = true) (hl : locB Γ l z = true) (hij : i ≠ j) (hil : i ≠ l) (hjl : j ≠ l) (hp : parOk Γ [(x, px), (y, py), (z, pz)] [a, b, c] = true) (ha : PA X [a, b, c] (tL Z Eo (evL Fs C as))) :
    PS X (.Assign [.Tuple [.Name x px, .Name y py, .Name z pz] kt pt] (.Tuple [a, b, c] k2 pt2) pos) (tS Z Eo F0 φ0 (evS Fs C (.par [i, j, l] as))) := by
  have lc : ∀ n ∈ [(x, px), (y, py), (z, pz)], X.env.scope.names.lookup n.1 = some .local := fun n hn => by
    have h := hp
    unfold parOk at h
    simp only [Bool.and_eq_true, List.all_eq_true, decide_eq_true_eq] at h
    exact ok.ko _ _ (h.1.1.1.2 n hn).1 (.inl rfl)
  refine PS.imp (ps_par3 (i := i) (j := j) (l := l) ok.calm (by rw [ok.hN]; exact ok.nd) (locB_ok ok hi).1 (locB_ok ok hj).1 (locB_ok ok hl).1 hij hil hjl (lc (x, px) (by simp)) (lc (y, py) (by simp)) (lc (z, pz) (by simp)) ha (par_sw ok hp) rfl) fun D σ H q => ?_
  obtain ⟨p, rfl, I, z, hz, d⟩ := q
  have w := par_go (nd := by simp [hij, hil, hjl]) I hz d
  refine (show tL Z Eo (evL Fs C as) σ p.H _ from ?_)
  obtain ⟨p', e, s', r, hr, dn⟩ := w
  refine ⟨p', e, s', r, hr, ?_⟩
  cases r with
  | er c v M => exact dn
  | ok l =>
    intro q vs e1 e2 y sy rep
    obtain ⟨hl, k⟩ := dn q vs e1 e2 y sy rep
    match vs, hl with
    | [u, v, w], _ => exact ⟨u, v, w, rfl, k⟩
/-! ### a list that stands alone is changed -/
/-- a def's own list gets other items -/
theorem Inb.upd {σ : Sx} {p : Pt} {i : Nat} {d e : Ev.D} {a : Addr} {vs : List V} (I : Inb Z F0 φ0 σ p) (h1 : p.ρ[i]? = some (some (d, true))) (h2 : σ[i]? = some (some (.ref a))) (r : ∀ F' φ' H', Stay p.F p.φ p.H F' φ' H' → H' a = some (.lst vs) → OwnR Z F' φ' H' a e) :
    Inb Z F0 φ0 σ ⟨p.ρ.set i (some (e, true)), p.M, p.F, p.φ, L2.upd p.H a (.lst vs)⟩ ∧ Stay p.F p.φ p.H p.F p.φ (L2.upd p.H a (.lst vs)) := by
  obtain ⟨a', e2, ro, n1, n2, n3⟩ := I.s.l.ow i d h1
  rw [h2] at e2
  cases e2
  obtain ⟨xs, hx⟩ := ro.lst
  have hi : i < p.ρ.length := (List.getElem?_eq_some_iff.mp h1).1
  -- without the slot the list is private
  have sim0 : Sim Z (p.ρ.set i none) p.M p.F p.φ (σ.set i none) p.H := by
    refine ⟨I.s.g, by rw [List.length_set, List.length_set, I.s.l.len], fun j x h => ?_, fun j x h => ?_, I.s.l.ent, fun j k x y b g1 g2 g3 g4 => ?_⟩
    · rw [List.getElem?_set] at h ⊢
      split at h
      · first
          | cases h
          | (split at h <;> cases h)
      · rename_i q
        rw [if_neg q]
        exact I.s.l.sh j x h
    · rw [List.getElem?_set] at h ⊢
      split at h
      · first
          | cases h
          | (split at h <;> cases h)
      · rename_i q
        rw [if_neg q]
        exact I.s.l.ow j x h
    · rw [List.getElem?_set] at g1 g2 g3 g4
      split at g1
      · first
          | cases g1
          | (split at g1 <;> cases g1)
      · split at g2
        · first
            | cases g2
            | (split at g2 <;> cases g2)
        · rename_i q1 q2
          rw [if_neg q1] at g3
          rw [if_neg q2] at g4
          exact I.s.l.inj j k x y b g1 g2 g3 g4
  have nO : ¬ Own (p.ρ.set i none) (σ.set i none) a := fun z => by
    obtain ⟨j, x, g1, g2⟩ := z
    rw [List.getElem?_set] at g1 g2
    split at g1
    · first
        | cases g1
        | (split at g1 <;> cases g1)
    · rename_i q
      rw [if_neg q] at g2
      exact q (I.s.l.inj i j d x a h1 g1 h2 g2)
  obtain ⟨st, s1⟩ := Sim.priv (ys := vs) sim0 hx n1 n2 nO
  refine ⟨⟨?_, ?_⟩, st⟩
  · have w := s1.l.setO (i := i) (r _ _ _ st upd_same) n1 n2 n3 fun j x _ g1 g2 => nO ⟨j, x, g1, g2⟩
    rw [List.set_set, List.set_set] at w
    have es : σ.set i (some (V.ref a)) = σ := by
      apply List.ext_getElem?
      intro j
      by_cases q : i = j
      · subst q
        have hlt := (List.getElem?_eq_some_iff.mp h2).1
        rw [List.getElem?_set_self hlt, h2]
      · rw [List.getElem?_set_ne q]
    rw [es] at w
    exact ⟨s1.g, w⟩
  · refine ⟨I.po.ext, fun b o g1 g2 g3 g4 => ?_, I.po.mono, I.po.new, fun b h => ?_⟩
    · exact (upd_ne (ne_of_none g1 n3)).trans (I.po.keep b o g1 g2 g3 g4)
    · by_cases hb : b = a
      · rw [hb]
        exact n3
      · exact I.po.dom b ((upd_ne hb).symm.trans h)
end
end Ev

/-! append, extend, pop, items set. -/
namespace Ev
open L2 PyProof.Rows PySem PySem.Spec
section
variable {X : Cx} {Z : Zt} {Γ : Gam} {Fs : List Fn} {C : Nv → Clo} {Eo : XK} {F0 : Addr → Prop} {φ0 : List Addr}
theorem owned_some {ρ : Nv} {i : Nat} {d : Ev.D} (h : owned ρ i = some d) : ρ[i]? = some (some (d, true)) := by
  unfold owned at h
  split at h
  · rename_i e
    cases h
    exact e
  · cases h
theorem few_one {e : Expr} {env : Env} {cpos : Pos} (hu : unst e = true) : ((backTo cpos (starEach [e] env)).all (fun x => !x.1) && (backToKw cpos (keywordEach [] env)).all (fun x => x.1.isSome) && decide ([e].length + ([] : List Keyword).length + (if ([] : List Keyword).isEmpty then 0 else 1) < 30)) = true := by
  rw [star_one hu]
  rfl
/-- x.m(e) of a list in a slot -/
theorem pe_lm {id : String} {name : Str} {r : V → List V → Hp → VK → Prop} {i : Nat} {x : Str} {e : Expr} {px apos cpos : Pos} {te : TE} (ok : XOk X Z Γ Fs Eo) (hv : varOk Γ i x = true) (slot : PySem.Slot "list" name id) (hty : typeOf (.builtin id) = pure (.type "method_descriptor")) (hm : MtR X id r) (hu : unst e = true) (hl : (apos.endLine == cpos.line) = true) (he : PE X e te) :
    PE X (.Call (.Attribute (.Name x px) name apos) [e] [] cpos) (tBM X.K "list" r (tVar i) (tCons te tNil)) := by
  obtain ⟨h1, h2, h3⟩ := varOk_ok ok hv
  exact pe_bm F.plainAttrs_list slot hty hm (pe_var (i := i) h1 h2 (nm_all h3).1 (nm_all h3).2.1) (pa_cons he pa_nil (star_one hu)) rfl (few_one hu) hl (star_one hu) rfl
/-- the list of slot i behind a term -/
theorem own_at {σ : Sx} {p : Pt} {i : Nat} {l : Ev.D} (I : Inb Z F0 φ0 σ p) (h : owned p.ρ i = some l) : ∃ a vs, σ[i]? = some (some (.ref a)) ∧ p.H a = some (.lst vs) ∧ OwnR Z p.F p.φ p.H a l := by
  obtain ⟨a, e, r, _⟩ := I.s.l.ow i l (owned_some h)
  obtain ⟨vs, hv⟩ := r.lst
  exact ⟨a, vs, e, hv, r⟩
theorem app_own {F : Addr → Prop} {φ : List Addr} {H : Hp} {a : Addr} {l x l' : Ev.D} {v : V} (r : OwnR Z F φ H a l) (rx : Rep Z F φ H v x) (h : appD l x = some l') : ∃ vs, H a = some (.lst vs) ∧ vs.length < sizeLine ∧ ∀ F' φ' H', Stay F φ H F' φ' H' → H' a = some (.lst (vs ++ [v])) → OwnR Z F' φ' H' a l' := by
  unfold appD at h
  split at h
  · obtain ⟨hz, h⟩ := if_some h
    cases h
    obtain ⟨vs, e, rs⟩ := r
    cases rx with
    | py rp => exact ⟨vs, e, by rw [rs.len]; exact hz, fun F' φ' H' st e' => ⟨_, e', (rs.stay st).app (.cons (rp.stay st) .nil)⟩⟩
  · obtain ⟨hz, h⟩ := if_some h
    cases h
    obtain ⟨vs, e, rs⟩ := r
    exact ⟨vs, e, by rw [rs.len]; exact hz, fun F' φ' H' st e' => ⟨_, e', (rs.reps.stay st).app (.cons (rx.stay st) .nil)⟩⟩
  · obtain ⟨hz, h⟩ := if_some h
    cases h
    obtain ⟨vs, e, rs⟩ := r
    exact ⟨vs, e, by rw [rs.len]; exact hz, fun F' φ' H' st e' => ⟨_, e', (rs.stay st).app (.cons (rx.stay st) .nil)⟩⟩
  · cases h
theorem s_app {i : Nat} {x : Str} {e : Expr} {a : E} {px apos cpos pos : Pos} (ok : XOk X Z Γ Fs Eo) (hv : varOk Γ i x = true) (hu : unst e = true) (hl : (apos.endLine == cpos.line) = true) (ha : PE X e (tE Z Eo (evE Fs C a))) :
    PS X (.Expr (.Call (.Attribute (.Name x px) "append" apos) [e] [] cpos) pos) (tS Z Eo F0 φ0 (evS Fs C (.app i a))) := by
  refine PS.imp (ps_expr (pe_lm ok hv F.slot_list_append F.type_list_append mt_append hu hl ha) rfl) fun D σ H q => ?_
  obtain ⟨p, rfl, I, z, hz, d⟩ := q
  unfold evS at hz
  obtain ⟨l0, h0, hz⟩ := ob_some hz
  obtain ⟨b, vs0, e0, hb0, r0⟩ := own_at I h0
  refine ⟨.ref b, e0, .inl ⟨rfl, vs0, SqL.of hb0⟩, ?_⟩
  show tE Z Eo (evE Fs C a) σ p.H _
  refine sqE (gdS (F0 := F0) (φ0 := φ0) (D := D)) I.s hz ⟨I, d⟩ fun x m q v h1 via sq rx d1 => ?_
  obtain ⟨F', mo, nw, f, x1, s1, r1⟩ := give1 (q := q) via I.s sq rx
  obtain ⟨l, h2, h1⟩ := ob_some h1
  obtain ⟨l', h3, h1⟩ := ob_some h1
  have J : Inb Z F0 φ0 σ ⟨fz m q.ρ, q.M, F', q.φ, q.H⟩ := ⟨s1, I.post x1.post⟩
  obtain ⟨b', vs1, e1, hb1, r2⟩ := own_at J h2
  rw [e0] at e1
  cases e1
  obtain ⟨vs, hb, hsz, k⟩ := app_own r2 r1 h3
  refine ⟨b, vs, v, rfl, rfl, hb, hsz, ?_⟩
  obtain ⟨J2, st2⟩ := J.upd (owned_some h2) e0 k
  have d2 := d
  rw [nx_some h1] at d2
  exact d2 σ ⟨(fz m q.ρ).set i (some (l', true)), q.M, F', q.φ, L2.upd q.H b (.lst (vs ++ [v]))⟩ rfl rfl J2 ((x1.post.stayE I.s.g).trans st2)
theorem ext_own {F : Addr → Prop} {φ : List Addr} {H : Hp} {a : Addr} {l x l' : Ev.D} {v : V} (r : OwnR Z F φ H a l) (rx : Rep Z F φ H v x) (h : extD l x = some l') : ∃ vs b ws, v = .ref b ∧ H a = some (.lst vs) ∧ H b = some (.lst ws) ∧ vs.length + ws.length ≤ sizeLine ∧ ∀ F' φ' H', Stay F φ H F' φ' H' → H' a = some (.lst (vs ++ ws)) → OwnR Z F' φ' H' a l' := by
  unfold extD at h
  split at h
  · obtain ⟨hz, h⟩ := if_some h
    cases h
    obtain ⟨vs, e, rs⟩ := r
    obtain ⟨b, ws, rfl, e2, rs2⟩ := RepR.lst (.inl rx)
    exact ⟨vs, b, ws, rfl, e, e2, by rw [rs.len, rs2.len]; exact hz, fun F' φ' H' st e' => ⟨_, e', (rs.stay st).app (rs2.stay st)⟩⟩
  · obtain ⟨hz, h⟩ := if_some h
    cases h
    obtain ⟨vs, e, rs⟩ := r
    obtain ⟨b, ws, rfl, e2, rs2⟩ := RepR.ml (.inl rx)
    exact ⟨vs, b, ws, rfl, e, e2, by rw [rs.len, rs2.len]; exact hz, fun F' φ' H' st e' => ⟨_, e', (rs.reps.stay st).app (rs2.stay st)⟩⟩
  · obtain ⟨hz, h⟩ := if_some h
    cases h
    obtain ⟨vs, e, rs⟩ := r
    obtain ⟨b, ws, rfl, e2, rs2⟩ := RepR.lst (.inl rx)
    exact ⟨vs, b, ws, rfl, e, e2, by rw [rs.len, rs2.len]; exact hz, fun F' φ' H' st e' => ⟨_, e', (rs.stay st).app (rs2.reps.stay st)⟩⟩
  · obtain ⟨hz, h⟩ := if_some h
    cases h
    obtain ⟨vs, e, rs⟩ := r
    obtain ⟨b, ws, rfl, e2, rs2⟩ := RepR.ml (.inl rx)
    exact ⟨vs, b, ws, rfl, e, e2, by rw [rs.len, rs2.len]; exact hz, fun F' φ' H' st e' => ⟨_, e', (rs.stay st).app (rs2.stay st)⟩⟩
  · cases h
theorem s_ext {i : Nat} {x : Str} {e : Expr} {a : E} {px apos cpos pos : Pos} (ok : XOk X Z Γ Fs Eo) (hv : varOk Γ i x = true) (hu : unst e = true) (hl : (apos.endLine == cpos.line) = true) (ha : PE X e (tE Z Eo (evE Fs C a))) :
    PS X (.Expr (.Call (.Attribute (.Name x px) "extend" apos) [e] [] cpos) pos) (tS Z Eo F0 φ0 (evS Fs C (.ext i a))) := by
  refine PS.imp (ps_expr (pe_lm ok hv F.slot_list_extend F.type_list_extend mt_extend hu hl ha) rfl) fun D σ H q => ?_
  obtain ⟨p, rfl, I, z, hz, d⟩ := q
  unfold evS at hz
  obtain ⟨l0, h0, hz⟩ := ob_some hz
  obtain ⟨b, vs0, e0, hb0, r0⟩ := own_at I h0
  refine ⟨.ref b, e0, .inl ⟨rfl, vs0, SqL.of hb0⟩, ?_⟩
  show tE Z Eo (evE Fs C a) σ p.H _
  refine sqE (gdS (F0 := F0) (φ0 := φ0) (D := D)) I.s hz ⟨I, d⟩ fun x m q v h1 via sq rx d1 => ?_
  obtain ⟨F', mo, nw, f, x1, s1, r1⟩ := give1 (q := q) via I.s sq rx
  obtain ⟨l, h2, h1⟩ := ob_some h1
  obtain ⟨l', h3, h1⟩ := ob_some h1
  have J : Inb Z F0 φ0 σ ⟨fz m q.ρ, q.M, F', q.φ, q.H⟩ := ⟨s1, I.post x1.post⟩
  obtain ⟨b', vs1, e1, hb1, r2⟩ := own_at J h2
  rw [e0] at e1
  cases e1
  obtain ⟨vs, c, ws, rfl, hb, hc, hsz, k⟩ := ext_own r2 r1 h3
  refine ⟨b, c, vs, ws, rfl, rfl, hb, hc, hsz, ?_⟩
  obtain ⟨J2, st2⟩ := J.upd (owned_some h2) e0 k
  have d2 := d
  rw [nx_some h1] at d2
  exact d2 σ ⟨(fz m q.ρ).set i (some (l', true)), q.M, F', q.φ, L2.upd q.H b (.lst (vs ++ ws))⟩ rfl rfl J2 ((x1.post.stayE I.s.g).trans st2)
/-! ### items set -/
theorem hasX_some {ρ : Nv} {i : Nat} {u : Unit} (h : hasX ρ i = some u) : (∃ n, ρ[i]? = some (some (.cel n, false))) ∨ ∃ d, ρ[i]? = some (some (d, true)) := by
  unfold hasX at h
  split at h
  · rename_i n e
    exact .inl ⟨n, e⟩
  · rename_i d e
    exact .inr ⟨d, e⟩
  · cases h
theorem ixN_lt {n : Nat} {k : Int} {j : Nat} (h : ixN n k = some j) : j < n := (ixN_seq h).2.1
theorem nodup_ix {α : Type} : ∀ {l : List α} {i j : Nat} {a : α}, l.Nodup → l[i]? = some a → l[j]? = some a → i = j
  | x :: l, 0, 0, _, _, _, _ => rfl
  | x :: l, 0, j + 1, a, n, h1, h2 => by
    have h1 : some x = some a := by simpa using h1
    cases h1
    exact absurd (List.mem_of_getElem? (by simpa using h2 : l[j]? = some x)) (List.nodup_cons.mp n).1
  | x :: l, i + 1, 0, a, n, h1, h2 => by
    have h2 : some x = some a := by simpa using h2
    cases h2
    exact absurd (List.mem_of_getElem? (by simpa using h1 : l[i]? = some x)) (List.nodup_cons.mp n).1
  | x :: l, i + 1, j + 1, a, n, h1, h2 => congrArg (· + 1) (nodup_ix (List.nodup_cons.mp n).2 (by simpa using h1) (by simpa using h2))
  | [], _, _, _, _, h, _ => by simp at h
/-- a cell gets other items -/
theorem Inb.cel {σ : Sx} {p : Pt} {n : Nat} {a : Addr} {vs ws : List V} {ps : List PyData} (I : Inb Z F0 φ0 σ p) (hφ : p.φ[n]? = some a) (ha : p.H a = some (.lst vs)) (r : ∀ F' φ' H', Stay p.F p.φ p.H F' φ' H' → RepPs F' H' ws ps) :
    Inb Z F0 φ0 σ ⟨p.ρ, p.M.set n ps, p.F, p.φ, L2.upd p.H a (.lst ws)⟩ ∧ Stay p.F p.φ p.H p.F p.φ (L2.upd p.H a (.lst ws)) := by
  have ain : a ∈ p.φ := List.mem_of_getElem? hφ
  have nF : ¬ p.F a := fun z => (I.s.g.dom a z).2 ain
  have st : Stay p.F p.φ p.H p.F p.φ (L2.upd p.H a (.lst ws)) := by
    refine ⟨fun _ h => h, fun b o hf h _ => ?_, fun b us h => ?_, fun b o u h => ?_, ⟨[], by simp⟩⟩
    · rw [upd_ne (fun (z : b = a) => nF (z ▸ hf))]
      exact h
    · rw [upd_ne (fun z => by rw [z, ha] at h; cases h)]
      exact h
    · rw [upd_ne (fun z => by rw [z, ha] at h; cases h)]
      exact h
  have dm : ∀ b, L2.upd p.H a (.lst ws) b = none → p.H b = none := fun b h => by
    by_cases hb : b = a
    · rw [hb, upd_same] at h
      cases h
    · exact (upd_ne hb).symm.trans h
  refine ⟨⟨⟨⟨fun b hb => ?_, by rw [List.length_set]; exact I.s.g.len, fun k qs hk => ?_, I.s.g.nd, ?_⟩, I.s.l.len, fun j d h => ?_, fun j d h => ?_, fun b h => I.s.l.ent b (dm b h), I.s.l.inj⟩, ?_⟩, st⟩
  · obtain ⟨h1, h2⟩ := I.s.g.dom b hb
    exact ⟨fun z => h1 (dm b z), h2⟩
  · rw [List.getElem?_set] at hk
    split at hk
    · rename_i q
      subst q
      first
        | (split at hk
           · cases hk
             exact ⟨a, ws, hφ, upd_same, r _ _ _ st⟩
           · cases hk)
        | (cases hk
           exact ⟨a, ws, hφ, upd_same, r _ _ _ st⟩)
    · rename_i q
      obtain ⟨b, us, g1, g2, g3⟩ := I.s.g.cell k qs hk
      refine ⟨b, us, g1, (upd_ne fun z => ?_).trans g2, g3.stay st⟩
      rw [z] at g1
      exact q (nodup_ix I.s.g.nd hφ g1)
  · refine fun q hq => ?_
    obtain ⟨ps', h1, h2, h3⟩ := I.s.g.tab q hq
    refine ⟨ps', (upd_ne (fun z => by rw [z, ha] at h1; cases h1)).trans h1, h2, fun pos cv hc => ?_⟩
    obtain ⟨c, e1, e2⟩ := h3 pos cv hc
    exact ⟨c, e1, (upd_ne (fun z => by rw [z, ha] at e2; unfold LamX.CodeO at e2; cases e2)).trans e2⟩
  · obtain ⟨v, e1, r⟩ := I.s.l.sh j d h
    exact ⟨v, e1, r.stay st⟩
  · obtain ⟨b, e1, r, g1, g2, g3⟩ := I.s.l.ow j d h
    exact ⟨b, e1, r.stay st fun us hu => (upd_ne (fun (z : b = a) => g2 (z ▸ ain))).trans hu, g1, g2, g3⟩
  · obtain ⟨ψ, e, hψ⟩ := I.po.ext
    refine ⟨⟨ψ, e, hψ⟩, fun b o g1 g2 g3 g4 => ?_, I.po.mono, I.po.new, fun b h => I.po.dom b (dm b h)⟩
    refine (upd_ne (fun z => ?_)).trans (I.po.keep b o g1 g2 g3 g4)
    have ain2 := ain
    rw [e, ← z] at ain2
    rcases List.mem_append.mp ain2 with w | w
    · exact g2 w
    · rw [hψ b w] at g1
      cases g1
theorem s_set {i : Nat} {x : Str} {e ix : Expr} {a b : E} {px sp pos : Pos} (ok : XOk X Z Γ Fs Eo) (hv : varOk Γ i x = true) (hx : noSlice ix = true) (ha : PE X e (tE Z Eo (evE Fs C a))) (hb : PE X ix (tE Z Eo (evE Fs C b))) :
    PS X (.Assign [.Subscript (.Name x px) ix sp] e pos) (tS Z Eo F0 φ0 (evS Fs C (.set i b a))) := by
  obtain ⟨n1, n2, n3⟩ := varOk_ok ok hv
  refine PS.imp (ps_asg ha (pg_sub (pe_var (i := i) (pos := px) n1 n2 (nm_all n3).1 (nm_all n3).2.1) hb set_list (by cases ix <;> first | (intro _; rfl) | cases hx)) (by show swapsWith e (some (.Subscript (.Name x px) ix sp)) pos.line X.env = pure false; cases e <;> rfl) (by cases e <;> rfl) rfl) fun D σ H q => ?_
  obtain ⟨p, rfl, I, z, hz, d⟩ := q
  unfold evS at hz
  obtain ⟨u0, h0, hz⟩ := ob_some hz
  obtain ⟨b0, e0⟩ : ∃ b0, σ[i]? = some (some (.ref b0)) := by
    rcases hasX_some h0 with ⟨n, h⟩ | ⟨l, h⟩
    · obtain ⟨v, e, r⟩ := I.s.l.sh i _ h
      obtain ⟨a, rfl, _⟩ := RepR.cel (.inl r)
      exact ⟨a, e⟩
    · obtain ⟨a, e, _⟩ := I.s.l.ow i _ h
      exact ⟨a, e⟩
  refine sqE (gdS (F0 := F0) (φ0 := φ0) (D := D)) I.s hz ⟨I, d⟩ fun x m q v h1 via sq rx d1 => ?_
  obtain ⟨F', mo, nw, f, x1, s1, r1⟩ := give1 (q := q) via I.s sq rx
  have J : Inb Z F0 φ0 σ ⟨fz m q.ρ, q.M, F', q.φ, q.H⟩ := ⟨s1, I.post x1.post⟩
  refine ⟨.ref b0, e0, ?_⟩
  refine sqE (p := ⟨fz m q.ρ, q.M, F', q.φ, q.H⟩) (gdS (F0 := F0) (φ0 := φ0) (D := D)) s1 h1 ⟨J, d.rebase (x1.post.stayE I.s.g)⟩ fun y m2 t w h2 via2 st ry d2 => ?_
  obtain ⟨k, rfl, h2⟩ := gi_some h2
  have ew := (ry.r st.l).int
  subst ew
  have r2 : Rep Z t.F t.φ t.H v x := r1.stay (via2.post.stayE s1.g)
  unfold putX at h2
  split at h2
  · rename_i n hn
    have hn : t.ρ[i]? = some (some (.cel n, false)) := hn
    have hxp : ∃ p0, x = .py p0 := by
      revert h2
      cases x <;> intro h2 <;> first | exact ⟨_, rfl⟩ | cases h2
    obtain ⟨p0, rfl⟩ := hxp
    have h2 : (ob t.M[n]? fun ps => ob (ixN ps.length k) fun j => nx t.ρ (t.M.set n (ps.set j p0))) = some z := h2
    obtain ⟨ps, h3, h2⟩ := ob_some h2
    obtain ⟨j, h4, h2⟩ := ob_some h2
    obtain ⟨v', e1, r3⟩ := st.l.sh i _ hn
    obtain ⟨a', rfl, hφ⟩ := RepR.cel (.inl r3)
    rw [e0] at e1
    cases e1
    obtain ⟨a2, vs, g1, g2, g3⟩ := st.g.cell n ps h3
    rw [hφ] at g1
    cases g1
    have rp : RepP t.F t.H v p0 := by
      cases r2 with
      | py r => exact r
    refine ⟨b0, vs, k, j, rfl, rfl, g2, by rw [g3.len]; exact h4, ?_⟩
    obtain ⟨J2, st2⟩ := d2.1.cel (ws := vs.set j v) (ps := ps.set j p0) hφ g2 fun F' φ' H' s => RepPs.set (rp.stay s) j (g3.stay s)
    have d3 := d2.2
    rw [nx_some h2] at d3
    exact d3 σ ⟨t.ρ, t.M.set n (ps.set j p0), t.F, t.φ, L2.upd t.H b0 (.lst (vs.set j v))⟩ rfl rfl J2 st2
  · rename_i l hn
    have hn : t.ρ[i]? = some (some (l, true)) := hn
    obtain ⟨l', h3, h2⟩ := ob_some h2
    obtain ⟨a', e1, r3, _⟩ := st.l.ow i _ hn
    rw [e0] at e1
    cases e1
    have key : ∃ vs j, t.H b0 = some (.lst vs) ∧ ixN vs.length k = some j ∧ ∀ F' φ' H', Stay t.F t.φ t.H F' φ' H' → H' b0 = some (.lst (vs.set j v)) → OwnR Z F' φ' H' b0 l' := by
      have h3 : setD l k x = some l' := h3
      unfold setD at h3
      split at h3
      · obtain ⟨j, h4, rfl⟩ := Option.map_eq_some_iff.mp h3
        obtain ⟨vs, e, rs⟩ := r3
        cases r2 with
        | py rp => exact ⟨vs, j, e, by rw [rs.len]; exact h4, fun F' φ' H' s e' => ⟨_, e', RepPs.set (rp.stay s) j (rs.stay s)⟩⟩
      · cases h3
    obtain ⟨vs, j, g1, g2, g3⟩ := key
    refine ⟨b0, vs, k, j, rfl, rfl, g1, g2, ?_⟩
    obtain ⟨J2, st2⟩ := d2.1.upd hn e0 g3
    have d3 := d2.2
    rw [nx_some h2] at d3
    exact d3 σ ⟨t.ρ.set i (some (l', true)), t.M, t.F, t.φ, L2.upd t.H b0 (.lst (vs.set j v))⟩ rfl rfl J2 st2
  · cases h2
end
end Ev

/-! Loops, raise. -/
namespace Ev
open L2 PyProof.Rows PySem PySem.Spec
/-- what an error's own __init__ does -/
def spI : Sp := fun vs H Q E => ∃ (a Ca : Addr) (K : PySem.W.Frag) (v : V), vs = [.ref a, v] ∧ OexC K Ca ∧ PySem.W.findIn K (.ref Ca) valK = some none ∧ H a = some (exo a Ca none) ∧ ∀ dx, H dx = none → dx ≠ a → Q .non (upd (upd H dx (exd dx [(valK, v)])) a (exo a Ca (some dx)))
/-- a class of errors that can be raised -/
structure Raz (P : Program) (w : World) (K : PySem.W.Frag) (mg : Str → Option Value) (base : Heap) (Ca : Addr) (lv : Nat) : Prop where
  ox : OexC K Ca
  nv : PySem.W.findIn K (.ref Ca) valK = some none
  ini : ∃ (fI : Addr) (fd : FuncData) (ps : List Str) (sp : Sp), PySem.W.findIn K (.ref Ca) "__init__" = some (some (.ref fI)) ∧ PySem.W.typeIn K (.ref fI) = some (.type "function") ∧ FnOk P w K mg base (L2.CX P w) lv fI fd ps sp ∧ Binds K fd ps [] ∧
    ∀ (a : Addr) (v : V) (H : Hp) (Q : VK) (E : XK), H a = some (exo a Ca none) → (∀ dx, H dx = none → dx ≠ a → Q .non (upd (upd H dx (exd dx [(valK, v)])) a (exo a Ca (some dx)))) → sp [.ref a, v] H Q E
structure XSt (X : Cx) (Z : Zt) (Γ : Gam) (Fs : List Fn) (Eo : XK) (rz : List Nat) : Prop where
  ok : XOk X Z Γ Fs Eo
  tk : Takes X fun cls d _ H => Eo cls d H
  ps : PassesOwn (model X.prog X.w) X.A X.env X.xe
  rz : ∀ c ∈ rz, ∃ l, l + 1 ≤ Γ.lv ∧ Raz X.prog X.w X.K X.mg X.base (Z.ca c) l
theorem pass_no {X : Cx} : Passes (L2.CX X.prog X.w) X fun _ _ _ => False := fun _ _ _ _ _ _ _ h => by
  obtain ⟨_, _, _, _, _, _, _, _, _, _, _, _, z⟩ := h
  exact z.elim
section
variable {X : Cx} {Z : Zt} {Γ : Gam} {Fs : List Fn} {C : Nv → Clo} {Eo : XK} {F0 : Addr → Prop} {φ0 : List Addr} {rz : List Nat}
/-- a new error's dict -/
theorem err_new {σ : Sx} {p : Pt} {v : V} {pd : PyData} {dx : Addr} {c : Nat} (s : p.Sim Z σ) (r : RepP p.F p.H v pd) (hd : p.H dx = none) :
    Post no1 no1 p.F p.φ p.H (fun b => p.F b ∨ b = dx) p.φ (upd p.H dx (.xd [(valK, v)])) ∧ Err Z c pd p.M ⟨p.ρ, p.M, fun b => p.F b ∨ b = dx, p.φ, upd p.H dx (.xd [(valK, v)])⟩ dx := by
  have st : Stay p.F p.φ p.H (fun b => p.F b ∨ b = dx) p.φ (upd p.H dx (.xd [(valK, v)])) := (stay_upd hd).trans (stay_grow fun _ h => .inl h)
  obtain ⟨f1, f2⟩ := s.g.free hd
  refine ⟨⟨⟨[], by simp, by simp⟩, fun b o h _ _ _ => by rw [upd_ne (ne_of_none h hd)]; exact h, fun _ h => .inl h, fun b h => h.imp id fun e => .inl (by rw [e]; exact hd), fun b h => ?_⟩, ?_, .inr rfl, v, upd_same, r.stay st⟩
  · by_cases hb : b = dx
    · rw [hb, upd_same] at h
      cases h
    · rw [upd_ne hb] at h
      exact h
  · show GSim Z p.M (fun b => p.F b ∨ b = dx) p.φ (upd p.H dx (.xd [(valK, v)]))
    refine s.g.next st rfl (fun b hb => upd_ne fun z => f2 (z ▸ hb)) (fun b hb => ?_) (s.g.tab.ext fun b o e => by rw [upd_ne (ne_of_none e hd)]; exact e)
    rcases hb with hb | hb
    · obtain ⟨h1, h2⟩ := s.g.dom b hb
      refine ⟨fun z => ?_, h2⟩
      by_cases hbd : b = dx
      · rw [hbd, upd_same] at z
        cases z
      · exact h1 ((upd_ne hbd).symm.trans z)
    · rw [hb]
      exact ⟨fun z => (by rw [upd_same] at z; cases z), f2⟩
theorem s_rai {c : Nat} {x : Str} {e : Expr} {a : E} {p1 p2 pos : Pos} (xs : XSt X Z Γ Fs Eo rz) (hc : c ∈ rz) (hg : glB Γ x (.cls c) = true) (hu : unst e = true) (ha : PE X e (tE Z Eo (evE Fs C a))) :
    PS X (.Raise (some (.Call (.Name x p1) [e] [] p2)) none pos) (tS Z Eo F0 φ0 (evS Fs C (.rai c a))) := by
  obtain ⟨h1, h2, h3⟩ := glB_ok xs.ok hg
  obtain ⟨l, hl, R⟩ := xs.rz c hc
  obtain ⟨fI, fd, ps, sp, iC, tI, F1, hb, hsp⟩ := R.ini
  have mk := pmk_oex (X := X) (x := x) (p := p1) (pos := p2) R.ox iC tI F1 (xs.ok.room.mono hl) hb .nil pass_no h1 h3 (pa_cons ha pa_nil (star_one hu)) (nm_all h2).1 (star_one hu) rfl
  refine PS.imp (ps_raise xs.ok.calm xs.tk mk) fun D σ H q => ?_
  obtain ⟨p, rfl, I, z, hz, d⟩ := q
  unfold evS at hz
  show tE Z Eo (evE Fs C a) σ p.H _
  refine sqE (gdS (F0 := F0) (φ0 := φ0) (D := D)) I.s hz ⟨I, d⟩ fun x m q v h1 via sq rx d1 => ?_
  have hxp : ∃ p0, x = .py p0 ∧ z = .er c p0 q.M := by
    revert h1
    cases x <;> intro h1 <;> first | exact ⟨_, rfl, (Option.some.inj h1).symm⟩ | cases h1
  obtain ⟨p0, rfl, rfl⟩ := hxp
  obtain ⟨F', mo, nw, f, x1, s1, r1⟩ := give1 (q := q) via I.s sq rx
  have rp : RepP F' q.H v p0 := by
    cases r1 with
    | py r => exact r
  refine ⟨(by show 1 ≤ 1000; decide), fun b hb => hsp b v _ _ _ upd_same fun dx hdx hne => ⟨rfl, dx, [(valK, v)], upd_same, ?_, ?_, ?_⟩⟩
  · rw [upd_ne hne, upd_same]
  · rw [upd_ne hne] at hdx
    exact hdx
  · rw [upd_ne hne] at hdx
    have eh : upd (del (upd (upd (upd q.H b (exo b (Z.ca c) none)) dx (exd dx [(valK, v)])) b (exo b (Z.ca c) (some dx))) b) dx (.xd [(valK, v)]) = upd q.H dx (.xd [(valK, v)]) := by
      funext y
      by_cases h1 : y = dx
      · rw [h1, upd_same, upd_same]
      · rw [upd_ne h1, upd_ne h1]
        by_cases h2 : y = b
        · rw [h2, del_same]
          exact hb.symm
        · rw [del_ne h2, upd_ne h2, upd_ne h1, upd_ne h2]
    rw [eh]
    obtain ⟨po, er⟩ := err_new (p := ⟨fz m q.ρ, q.M, F', q.φ, q.H⟩) (c := c) s1 rp hdx
    exact d _ dx (I.post (x1.post.trans po (fun _ h => h.elim) (fun _ h => h.elim))) er
theorem New.inb {σ : Sx} {p : Pt} {d : Ev.D} {v : V} {H' : Hp} (n : New Z p.F p.φ p.H d false v H') (I : Inb Z F0 φ0 σ p) : Rep Z p.F p.φ H' v d ∧ Inb Z F0 φ0 σ ⟨p.ρ, p.M, p.F, p.φ, H'⟩ ∧ Stay p.F p.φ p.H p.F p.φ H' := by
  obtain ⟨r, s, po⟩ := n.pt I.s
  exact ⟨r, ⟨s, I.po.trans po (fun _ h => h.elim) (fun _ h => h.elim)⟩, po.stayE I.s.g⟩
theorem s_for {t : T} {src : Src} {body : Ss} {tg iter : Expr} {bs : List Stmt} {pos : Pos} (xs : XSt X Z Γ Fs Eo rz) (hi : PI X tg iter (iS Z Eo (evSrc Fs C src))) (hg : PG X tg (gT Z t)) (hb : PSs X bs (tS Z Eo F0 φ0 (evSs Fs C body)))
    (hs : ∀ x, foldedSetIterable iter X.env x = pure x) : PS X (.For tg iter bs [] pos) (tS Z Eo F0 φ0 (evS Fs C (.for_ t src body))) := by
  refine PS.imp (ps_for xs.ps xs.ok.calm hi hg hb hs) fun D σ H q => ?_
  obtain ⟨p, rfl, I, z, hz, d⟩ := q
  unfold evS at hz
  refine sqI (gdS (F0 := F0) (φ0 := φ0) (D := D)) I.s hz ⟨I, d⟩ fun dd m q w xs F' h1 via sq hit hw hls mo x1 s1 hlF => ?_
  have hit' : items dd = some xs := hit
  have h1 : (ob (items dd) fun xs => forL (bindT t) (fun ρ M => evSs Fs C body ρ M) xs (fz m q.ρ) q.M) = some z := h1
  rw [hit'] at h1
  have h1 : forL (bindT t) (fun ρ M => evSs Fs C body ρ M) xs (fz m q.ρ) q.M = some z := h1
  have J0 : Inb Z F0 φ0 σ ⟨fz m q.ρ, q.M, F', q.φ, q.H⟩ := ⟨s1, I.post x1.post⟩
  have wk0 : WkAt Z F' q.φ q.H xs w := hw.kept (stay_grow mo) fun a _ vs h => h
  refine ⟨fun i m' σ H => ∃ pt : Pt, pt.H = H ∧ Inb Z F0 φ0 σ pt ∧ Stay F' q.φ q.H pt.F pt.φ pt.H ∧ i ≤ xs.length ∧ m' = xs.length - i ∧ forL (bindT t) (fun ρ M => evSs Fs C body ρ M) (xs.drop i) pt.ρ pt.M = some z, ⟨xs.length, ⟨⟨fz m q.ρ, q.M, F', q.φ, q.H⟩, rfl, J0, stay_grow fun _ h => h, Nat.zero_le _, rfl, h1⟩⟩, fun i m' σ' H hW => ?_⟩
  obtain ⟨pt, rfl, J, st, hle, rfl, hr⟩ := hW
  have stp : Stay p.F p.φ p.H pt.F pt.φ pt.H := (x1.post.stayE I.s.g).trans st
  have hw2 : WkAt Z pt.F pt.φ pt.H xs w := wk0.kept st fun a ha vs hv => st.frz a _ (hlF a ha vs hv) hv fun _ z => nomatch z
  by_cases hlt : i < xs.length
  · right
    have hx : xs[i]? = some xs[i] := List.getElem?_eq_getElem hlt
    rw [List.drop_eq_getElem_cons hlt] at hr
    generalize xs[i] = x at hr hx
    obtain ⟨hgo, hyl⟩ := hw2.item hx
    refine ⟨hgo, fun σ' H' => ∃ pt : Pt, pt.H = H' ∧ Inb Z F0 φ0 σ' pt ∧ Stay F' q.φ q.H pt.F pt.φ pt.H ∧ forL (bindT t) (fun ρ M => evSs Fs C body ρ M) (xs.drop (i + 1)) pt.ρ pt.M = some z, fun σ' H' ⟨pt', e, J', st', r'⟩ => ⟨xs.length - (i + 1), by omega, pt', e, J', st', hlt, rfl, r'⟩, fun v H1 hy => ?_⟩
    obtain ⟨rv, J1, st1⟩ := (hyl v H1 hy).inb J
    have hr : (ob (bindT t x pt.ρ) fun ρ1 => bz (evSs Fs C body ρ1 pt.M) fun f => (match f with
      | .nx ρ2 M2 => forL (bindT t) (fun ρ M => evSs Fs C body ρ M) (xs.drop (i + 1)) ρ2 M2
      | .ct ρ2 M2 => forL (bindT t) (fun ρ M => evSs Fs C body ρ M) (xs.drop (i + 1)) ρ2 M2
      | .br ρ2 M2 => some (.ok (.nx ρ2 M2))
      | .rt o => some (.ok (.rt o)))) = some z := hr
    obtain ⟨ρ1, hbd, hr⟩ := ob_some hr
    refine ⟨⟨pt.ρ, pt.M, pt.F, pt.φ, H1⟩, x, ρ1, rfl, J1.s, rv, hbd, fun σ2 l2 k2 sl2 => ?_⟩
    have J2 : Inb Z F0 φ0 σ2 ⟨ρ1, pt.M, pt.F, pt.φ, H1⟩ := ⟨⟨J1.s.g, sl2⟩, J1.po⟩
    have st2 := st.trans st1
    show tS Z Eo F0 φ0 (evSs Fs C body) _ σ2 H1
    cases e : evSs Fs C body ρ1 pt.M with
    | none =>
      rw [e] at hr
      cases hr
    | some y =>
      rw [e] at hr
      refine ⟨⟨ρ1, pt.M, pt.F, pt.φ, H1⟩, rfl, J2, y, e, ?_⟩
      cases y with
      | er c v M =>
        have : z = .er c v M := (Option.some.inj hr).symm
        subst this
        exact d
      | ok f =>
        cases f with
        | nx ρ2 M2 => exact fun σ3 q3 e1 e2 J3 st3 => ⟨q3, rfl, J3, st2.trans st3, by rw [e1, e2]; exact hr⟩
        | ct ρ2 M2 => exact fun σ3 q3 e1 e2 J3 st3 => ⟨q3, rfl, J3, st2.trans st3, by rw [e1, e2]; exact hr⟩
        | br ρ2 M2 =>
          have : z = .ok (.nx ρ2 M2) := (Option.some.inj hr).symm
          subst this
          exact fun σ3 q3 e1 e2 J3 st3 => d σ3 q3 e1 e2 J3 ((stp.trans st1).trans st3)
        | rt o =>
          have : z = .ok (.rt o) := (Option.some.inj hr).symm
          subst this
          exact d
  · left
    have hn : i = xs.length := by omega
    subst hn
    refine ⟨hw2.end, ?_⟩
    rw [List.drop_length] at hr
    have hr : some (Rz.ok (Fl.nx pt.ρ pt.M)) = some z := hr
    cases hr
    exact d σ' pt rfl rfl J stp
theorem s_whl {c : E} {body : Ss} {ec : Expr} {bs : List Stmt} {pos : Pos} (xs : XSt X Z Γ Fs Eo rz) (hc : PT X ec (tT Z Eo (evE Fs C c))) (hb : PSs X bs (tS Z Eo F0 φ0 (evSs Fs C body))) : PS X (.While ec bs [] pos) (tS Z Eo F0 φ0 (evS Fs C (.whl c body))) := by
  refine PS.imp (ps_while xs.ps hc hb) fun D σ H q => ?_
  obtain ⟨p, rfl, I, z, hz, d⟩ := q
  unfold evS at hz
  refine ⟨fun n σ H => ∃ pt : Pt, pt.H = H ∧ Inb Z F0 φ0 σ pt ∧ Stay p.F p.φ p.H pt.F pt.φ pt.H ∧ whlL (fun ρ M => evE Fs C c ρ M) (fun ρ M => evSs Fs C body ρ M) n pt.ρ pt.M = some z, ⟨FUEL, ⟨p, rfl, I, stay_grow fun _ h => h, hz⟩⟩, fun n σ' H hW => ?_⟩
  obtain ⟨pt, rfl, J, st, hr⟩ := hW
  cases n with
  | zero => cases hr
  | succ n =>
    have hr : bz (evE Fs C c pt.ρ pt.M) (fun x => ob (tru x.d) fun b => if b = true then bz (evSs Fs C body x.ρ x.M) (fun f => (match f with
        | .nx ρ2 M2 => whlL (fun ρ M => evE Fs C c ρ M) (fun ρ M => evSs Fs C body ρ M) n ρ2 M2
        | .ct ρ2 M2 => whlL (fun ρ M => evE Fs C c ρ M) (fun ρ M => evSs Fs C body ρ M) n ρ2 M2
        | .br ρ2 M2 => some (.ok (.nx ρ2 M2))
        | .rt o => some (.ok (.rt o))))
      else some (.ok (.nx x.ρ x.M))) = some z := hr
    refine sqT (k := fun x b => if b = true then bz (evSs Fs C body x.ρ x.M) (fun f => (match f with
        | .nx ρ2 M2 => whlL (fun ρ M => evE Fs C c ρ M) (fun ρ M => evSs Fs C body ρ M) n ρ2 M2
        | .ct ρ2 M2 => whlL (fun ρ M => evE Fs C c ρ M) (fun ρ M => evSs Fs C body ρ M) n ρ2 M2
        | .br ρ2 M2 => some (.ok (.nx ρ2 M2))
        | .rt o => some (.ok (.rt o))))
      else some (.ok (.nx x.ρ x.M))) (gdS (F0 := F0) (φ0 := φ0) (D := D)) J.s hr ⟨J, d.rebase st⟩ fun x m t q _ h1 via sq d1 => ?_
    have st1 : Stay p.F p.φ p.H q.F q.φ q.H := st.trans (J.stay via)
    cases t with
    | false =>
      rw [if_neg (by simp)] at h1
      have h1 : some (Rz.ok (Fl.nx q.ρ q.M)) = some z := h1
      cases h1
      exact d σ' q rfl rfl d1.1 st1
    | true =>
      rw [if_pos rfl] at h1
      refine ⟨fun σ2 H2 => ∃ pt : Pt, pt.H = H2 ∧ Inb Z F0 φ0 σ2 pt ∧ Stay p.F p.φ p.H pt.F pt.φ pt.H ∧ whlL (fun ρ M => evE Fs C c ρ M) (fun ρ M => evSs Fs C body ρ M) n pt.ρ pt.M = some z, fun σ2 H2 h => ⟨n, Nat.lt_succ_self n, h⟩, ?_⟩
      show tS Z Eo F0 φ0 (evSs Fs C body) _ σ' q.H
      have h1 : bz (evSs Fs C body q.ρ q.M) (fun f => (match f with
        | .nx ρ2 M2 => whlL (fun ρ M => evE Fs C c ρ M) (fun ρ M => evSs Fs C body ρ M) n ρ2 M2
        | .ct ρ2 M2 => whlL (fun ρ M => evE Fs C c ρ M) (fun ρ M => evSs Fs C body ρ M) n ρ2 M2
        | .br ρ2 M2 => some (.ok (.nx ρ2 M2))
        | .rt o => some (.ok (.rt o)))) = some z := h1
      cases e : evSs Fs C body q.ρ q.M with
      | none =>
        rw [e] at h1
        cases h1
      | some y =>
        rw [e] at h1
        refine ⟨q, rfl, d1.1, y, e, ?_⟩
        cases y with
        | er c v M =>
          have : z = .er c v M := (Option.some.inj h1).symm
          subst this
          exact d
        | ok f =>
          cases f with
          | nx ρ2 M2 => exact fun σ3 q3 e1 e2 J3 st3 => ⟨q3, rfl, J3, st1.trans st3, by rw [e1, e2]; exact h1⟩
          | ct ρ2 M2 => exact fun σ3 q3 e1 e2 J3 st3 => ⟨q3, rfl, J3, st1.trans st3, by rw [e1, e2]; exact h1⟩
          | br ρ2 M2 =>
            have : z = .ok (.nx ρ2 M2) := (Option.some.inj h1).symm
            subst this
            exact fun σ3 q3 e1 e2 J3 st3 => d σ3 q3 e1 e2 J3 (st1.trans st3)
          | rt o =>
            have : z = .ok (.rt o) := (Option.some.inj h1).symm
            subst this
            exact d
end
end Ev

/-! A caught error is kept. -/
namespace Ev
open L2 PyProof.Rows PySem PySem.Spec
section
variable {X : Cx} {pins : List (Addr × Obj)} {σ : Sx} {H : Hp} {s : Shared}
/-- an object that stands, new since the entry, is told of from now on -/
theorem inv_track {a : Addr} {o : HO} (I : Inv X pins σ H s) (hn : H a = none) (n0 : X.s_0.heap.get? a = none) (nL : a ≠ X.env.locals) (nC : ∀ x c, X.env.cells.lookup x = some c → c ≠ a) (nP : ∀ p ∈ X.pn ++ pins, p.1 ≠ a)
    (new : ObjOk X.prog X.w (upd H a o) s.heap a o) : Inv X pins σ (upd H a o) s := by
  refine ⟨I.ok, I.os, I.bare, ⟨I.base.keep, I.base.slot, fun b u e n hx => ?_, I.base.there, fun b xs e => ?_, fun b o' u e => ?_, fun b ps e => ?_⟩, I.loc, I.cell, ?_, fun x c e => ?_, fun p hp => ?_, fun b u e => ?_, I.len⟩
  · rw [upd_ne fun z => by rw [z, n0] at e; cases e]
    exact I.base.free b u e n hx
  · have q := I.base.tups b xs e
    rw [upd_ne (ne_of_none q hn)]
    exact q
  · have q := I.base.frzs b o' u e
    rw [upd_ne (ne_of_none q hn)]
    exact q
  · obtain ⟨m, q⟩ := I.base.tbls b ps e
    exact ⟨m, by rw [upd_ne (ne_of_none q hn)]; exact q⟩
  · rw [upd_ne nL.symm]
    exact I.free
  · rw [upd_ne (nC x c e)]
    exact I.freeC x c e
  · obtain ⟨p1, p2, p3⟩ := I.pin p hp
    exact ⟨p1, by rw [upd_ne (nP p hp)]; exact p2, p3⟩
  · by_cases hb : b = a
    · subst hb
      rw [upd_same] at e
      cases e
      exact new
    · rw [upd_ne hb] at e
      exact (I.hok b u e).stay (fun c v _ q => q) (fun c q => by rw [upd_ne (ne_of_none q hn)]; exact q) fun c xs q => by rw [upd_ne (ne_of_none q hn)]; exact q
theorem exV_ok {P : Program} {w : World} {h : Heap} {a d : Addr} {cls : Value} {oe : Obj} {vs : Array Value} (e : h.get? a = some oe) (z : Zc cls (some d) oe) (k : oe.data = .fields vs) : ObjOk P w H h a (ExV cls d a) :=
  ⟨⟨oe, vs, e, z, k⟩, ⟨oe, e⟩, fun _ _ ⟨o, v, q, r⟩ k => ⟨o, v, k o q, r⟩⟩
end
/-- what is wished of an error that is caught and kept: slot i is the clause's name -/
def wTr (K : PySem.W.Frag) (c : Value) (i : Nat) (ts : Addr → TS) (D : Ends) : WX := fun cls d σ H =>
  PySem.W.exmOne K cls c = some true ∧ ∃ da, d = some da ∧ ∀ a, H a = none → ts a { nx := fun σ' H' => H' a = none → D.nx (σ'.set i none) (upd H' a (ExV cls da a)), rt := fun _ _ => False, bk := fun _ _ => False, ct := fun _ _ => False } (σ.set i (some (.ref a))) H
section
variable {X : Cx} {x n : Str} {c : Value} {i : Nat} {body suite : List Stmt} {b₀ : Stmt} {np pos pos' : Pos} {tb : WX → TS} {ts : Addr → TS}
theorem ps_try_trk (stk : X.stack = X.env :: X.outer) (loc : X.env.frame = some X.env.locals) (hex : X.ex = []) (nd : X.N.Nodup) (at_ : X.N[i]? = some n) (kd : X.env.kindOf n = some .local) (nm : Names X x c)
    (hb : ∀ (W : WX) (pn : List (Addr × Obj)) (xe : Value → Shared → Prop), Takes (X.tr pn xe) W → PassesOwn (model X.prog X.w) X.A X.env xe → PSs (X.tr pn xe) body (tb W))
    (hsu : ∀ (a : Addr) (pn : List (Addr × Obj)), PSs (X.suite a pn) (b₀ :: suite) (ts a)) :
    PS X (.Try body [.ExceptHandler (some (.Name x np)) (some n) (b₀ :: suite) pos'] [] [] pos) (fun D σ H => tb (wTr X.K c i ts D) D σ H) := by
  refine ⟨fun pins s σ H D J0 wd => ?_⟩
  have xok := J0.ok
  have frm : X.A.frames = some (X.env :: X.outer) := by rw [xok.frames, stk]
  have here : Loc X.env.scope n := .inl kd
  refine wpAny_Try_except ?_
  refine wpAny_mono ((hb (wTr X.K c i ts D) (X.pn ++ pins) (fun e s₁ => wpAny (model X.prog X.w) X.A (noteFrame e X.env) (fun _ s₂ => wpAny (model X.prog X.w) X.A (setFlight e none) (fun _ s₃ =>
    wpAny (model X.prog X.w) X.A (handleBy e X.env [.ExceptHandler (some (.Name x np)) (some n) (b₀ :: suite) pos']) (SP X pins D) X.xe s₃) X.xe s₂) X.xe s₁) (fun u s' xx => ?_) PassesOwn.looking).run [] s σ H D (J0.toTry _) wd) (fun f s1 hsp => ?_) (fun e s1 he => he)
  · obtain ⟨a, B, sI, ps1, σ', H', cls, d, rfl, J1, gr, up, sky, na, os, ag, one, da, rfl, yes⟩ := xx
    have J : Inv X pins σ' H' sI := J1.ofTry xok
    have sky2 : Sky B (X.env :: X.outer) a (Zc cls (some da)) X.env.locals s'.heap := by rw [← stk]; exact sky
    show wpAny _ X.A (noteFrame (.ref a) X.env) _ _ _
    refine Sky.land Zc.steady frm loc sky2 fun h3 fl3 up3 => ?_
    have J3 : Inv X pins σ' H' { s' with heap := h3 } := J.landed gr fl3.1 (up.trans up3) os ag
    obtain ⟨oe3, vs3, he3, hz3, hd3⟩ := fl3.there
    have nfr : a ∉ frs (X.env :: X.outer) := fun hm => by
      obtain ⟨_, o', e', hnf⟩ := fl3.2.2.1.mem hm
      rw [he3] at e'
      cases e'
      exact hnf _ hd3
    have nL : a ≠ X.env.locals := fun z => nfr (List.mem_filterMap.mpr ⟨X.env, List.mem_cons_self, by rw [loc, z]⟩)
    have nF : a ∉ X.fs := fun hm => by
      obtain ⟨e, he, q⟩ := List.mem_filterMap.mp hm
      exact nfr (List.mem_filterMap.mpr ⟨e, List.mem_cons_of_mem _ he, q⟩)
    have nI : sI.heap.get? a = none := by
      cases e : sI.heap.get? a with
      | none => rfl
      | some o =>
        have z := gr a o e (by rw [stk]; exact nfr)
        rw [fl3.2.1] at z
        cases z
    have n0 : X.s_0.heap.get? a = none := by
      cases e : X.s_0.heap.get? a with
      | none => rfl
      | some o =>
        obtain ⟨o', z⟩ := J.base.there a o e (by rw [hex]; exact fun z => nomatch z)
        rw [nI] at z
        cases z
    have nP : ∀ p ∈ X.pn ++ pins, p.1 ≠ a := fun p hp z => by
      have e := (J.pin p hp).1
      rw [z, nI] at e
      cases e
    have S3 := J3.suite he3 hd3 na nL nF
    refine wpAny_handleBy_cons (codeAny_handlers_test ?_) (by intro q; cases q)
    have LT : PySem.W.Looks (model X.prog X.w) h3 (typeOf (.ref a)) cls := fun A Q E t k q => wpAny_typeOf_ref (k _ _ he3) (by rw [hz3.1]; exact q)
    have LM := PySem.W.exm_one (M := model X.prog X.w) (J3.kIn) LT one
    have test : ∀ {Q : Value → Shared → Prop} {E : Value → Shared → Prop}, Q c { s' with heap := h3 } → wpAny (model X.prog X.w) (X.A.mark (some (.ref a))) (eval (.Name x np) X.env) Q E { s' with heap := h3 } := fun {Q E} q => by
      obtain ⟨gg, nd, mm | ⟨mm, vv, nn⟩⟩ := nm
      · exact ld_glob (X := X.suite a ((a, oe3) :: (X.pn ++ pins))) S3 gg mm q nd
      · exact ld_blt (X := X.suite a ((a, oe3) :: (X.pn ++ pins))) S3 gg mm vv q nn nd
    refine test (LM.here ?_)
    refine codeAny_handlers_suite_as ?_
    refine HandSPX.lands_againZ fl3 fun h4 fl4 up4 => ?_
    have J4 : Inv X pins σ' H' { s' with heap := h4 } := J.landed gr fl4.1 ((up.trans up3).trans up4) os ag
    obtain ⟨oe4, vs4, he4, hz4, hd4⟩ := fl4.there
    have S4 := J4.suite he4 hd4 na nL nF
    refine store_ok (X := X.suite a ((a, oe4) :: (X.pn ++ pins))) (v := .ref a) S4 nd at_ here rfl (fun s5 S5 => ?_) (.inr kd)
    refine wpAny_mono ((hsu a ((a, oe4) :: (X.pn ++ pins))).run [] s5 _ H' _ S5 (yes a na)) (fun f s6 hsp => ?_) (fun _ _ z => False.elim z)
    cases f with
    | next =>
      obtain ⟨σ6, H6, S6, q6⟩ := hsp
      have K6 : Inv X ((a, oe4) :: pins) σ6 H6 s6 := ⟨xok, S6.os, S6.bare, S6.base, S6.loc, S6.cell, S6.free, S6.freeC, fun p hp => S6.pin p (by
        have hp : p ∈ X.pn ++ (a, oe4) :: pins := hp
        show p ∈ ((a, oe4) :: (X.pn ++ pins)) ++ []
        rw [List.append_nil]
        rcases List.mem_append.mp hp with h | h
        · exact List.mem_cons_of_mem _ (List.mem_append_left _ h)
        · rcases List.mem_cons.mp h with h | h
          · rw [h]; exact List.mem_cons_self
          · exact List.mem_cons_of_mem _ (List.mem_append_right _ h)), S6.hok, S6.len⟩
      refine gone_ok K6 nd at_ kd fun s7 J7 => ?_
      obtain ⟨e7, m7, _, _, c7⟩ := J7.pin (a, oe4) (List.mem_append_right _ List.mem_cons_self)
      have J8 : Inv X pins (σ6.set i none) H6 s7 := ⟨xok, J7.os, J7.bare, J7.base, J7.loc, J7.cell, J7.free, J7.freeC, fun p hp => J7.pin p (by
        rcases List.mem_append.mp hp with h | h
        · exact List.mem_append_left _ h
        · exact List.mem_append_right _ (List.mem_cons_of_mem _ h)), J7.hok, J7.len⟩
      exact ⟨_, _, inv_track J8 m7 n0 nL (fun y cc e z => by
        obtain ⟨w', o, ho, hd⟩ := J8.cell y cc e
        rw [z, e7] at ho
        cases ho
        exact c7 _ hd) nP (exV_ok e7 hz4 hd4), q6 m7⟩
    | brk =>
      obtain ⟨_, _, _, z⟩ := hsp
      exact z.elim
    | cont =>
      obtain ⟨_, _, _, z⟩ := hsp
      exact z.elim
    | ret u =>
      obtain ⟨_, _, _, _, _, z⟩ := hsp
      exact z.elim
  · cases f with
    | next =>
      obtain ⟨σ', H', J', q⟩ := hsp
      exact wpAny_execs_nil ⟨σ', H', J'.ofTry xok, q⟩
    | brk =>
      obtain ⟨σ', H', J', q⟩ := hsp
      exact ⟨σ', H', J'.ofTry xok, q⟩
    | cont =>
      obtain ⟨σ', H', J', q⟩ := hsp
      exact ⟨σ', H', J'.ofTry xok, q⟩
    | ret u =>
      obtain ⟨v, σ', H', J', r, q⟩ := hsp
      exact ⟨v, σ', H', J'.ofTry xok, r, q⟩
end
end Ev

/-! A lambda is made and handed to the def that calls it. -/
namespace Ev
open L2 PyProof.Rows PySem PySem.Spec
section
variable {X : Cx} {pins : List (Addr × Obj)} {σ : Sx} {H HZ : Hp} {s s1 : Shared}
/-- as the kit's lam_make2, and: nothing that is told of gets lost -/
theorem lam_make3 {T : List (Addr × Str)} {c P : Addr} {params : Arguments} {body : Expr} {scope : Scope} {pos : Pos} {E : Value → Shared → Prop} {Q : Value → Shared → Prop} (J : Inv X pins σ H s) (tabB : LamX.TabB X.base X.mg c P) (hcode : X.env.code = .ref c)
    (mT : (P, X.env.qual ++ "<lambda>") ∈ T) (uT : ∀ p ∈ T, p.1 = P → p.2 = X.env.qual ++ "<lambda>") (tabs : LamX.Tabs T H) (dfl : defaultsOf params X.env = ([], [])) (fre : ∀ y ∈ scope.names, y.2 = .free → ∃ c, X.env.cells.lookup y.1 = some c)
    (go : ∀ (f c' : Addr) (pm ctv : Value) (H1 : Hp) (s' : Shared), Inv X pins σ H1 s' → LamX.ExtN H H1 → (∀ b, H1 b = none → H b = none) → LamX.Tabs T H1 →
      s'.heap.get? f = some (PySem.W.kla_obj "<lambda>" (X.env.qual ++ "<lambda>") params body scope (cloFrom X.env.cells scope.names []) pm c' ctv) → H1 f = none → f ∉ frs X.stack → H1 c' = some (LamX.CodeO c' (X.env.qual ++ "<lambda>")) → Q (.ref f) s') :
    wpAny (model X.prog X.w) X.A (eval (.Lambda params body scope pos) X.env) Q E s := by
  obtain ⟨ps, eP, trip, amg⟩ := tabs _ mT
  refine PySem.W.kla_eval dfl ?_
  have bltP : s.heap.BuiltinsAt X.mg P := tabB.bm.keeps J.bk
  have rowP : s.heap.get? P = some { cls := .none, data := .fields ps } := J.hok P _ eP
  have off : ∀ f, s.heap.objs.size ≤ f → f ∉ frs X.stack := fun f hf z => by
    rcases List.mem_cons.mp (J.stkSub _ z) with e | e
    · have lt := J.lt
      rw [← e] at lt
      exact Nat.not_le_of_lt lt hf
    · exact J.nofs hf e
  cases hc : codeAmong pos ps.toList with
  | none =>
    refine PySem.W.kla_makeFunction (mg := X.mg) (c := c) (P := P) (ps := ps) (closure_ok fre) J.ok.glob (J.mod.glob.keeps J.bk) hcode (tabB.code.keeps J.bk) rowP trip hc tabB.gP bltP fun c' ctv h' tk hx hge hlt hrec htb => ?_
    obtain ⟨c2, oc, vs, t, e2, gc, dc, vc⟩ := hrec
    cases e2
    have szl : s.heap.objs.size ≤ h'.objs.size := Nat.le_trans hge (Nat.le_of_lt hlt)
    have newC : H c' = none := J.hok.fresh hge
    have J1 := LamX.inv_table (t' := tk) (more := #[rawInt pos.line, rawInt pos.col, .ref c']) (h' := h'.push (PySem.W.kla_obj "<lambda>" (X.env.qual ++ "<lambda>") params body scope (cloFrom X.env.cells scope.names []) ((X.mg "__name__").getD .none) c' ctv)) J eP
      (fun b o nb e => Heap.get?_push_of_some _ (hx b o nb e)) (Heap.get?_push_of_some _ htb) hge ⟨oc, vs, t, Heap.get?_push_of_some _ gc, dc, vc⟩
    have ext : LamX.ExtN H (upd (upd H P (.tbl (ps ++ #[rawInt pos.line, rawInt pos.col, .ref c']))) c' (LamX.CodeO c' (X.env.qual ++ "<lambda>"))) := fun b o e nt => by
      rw [upd_ne (ne_of_none e newC), upd_ne (fun z => nt ps (Option.some.inj (e.symm.trans (by rw [z]; exact eP))))]
      exact e
    have eL : (ps ++ #[rawInt pos.line, rawInt pos.col, .ref c']).toList = ps.toList ++ [rawInt pos.line, rawInt pos.col, .ref c'] := by simp
    refine go h'.objs.size c' ((X.mg "__name__").getD .none) ctv _ _ J1 ext (fun b e => ?_) (fun p hp => ?_) (Heap.get?_push_size _ rfl) ?_ (off _ szl) upd_same
    · by_cases q1 : b = c'
      · rw [q1]
        exact newC
      · rw [upd_ne q1] at e
        by_cases q2 : b = P
        · rw [q2, upd_same] at e
          cases e
        · rw [upd_ne q2] at e
          exact e
    · by_cases hb : p.1 = P
      · rw [uT p hp hb, hb]
        refine ⟨_, by rw [upd_ne (ne_of_none eP newC), upd_same], by rw [eL]; exact PySem.TriplesOk_snoc _ _ _ _ trip, fun p' cv hcv => ?_⟩
        rw [eL] at hcv
        rcases LamX.among_app _ trip hcv with z | z
        · obtain ⟨c0, q1, q2⟩ := amg p' cv z
          exact ⟨c0, q1, ext _ _ q2 LamX.codeO_ne⟩
        · exact ⟨c', z, upd_same⟩
      · obtain ⟨qs, a1, a2, a3⟩ := tabs p hp
        refine ⟨qs, by rw [upd_ne (ne_of_none a1 newC), upd_ne hb]; exact a1, a2, fun p' cv hcv => ?_⟩
        obtain ⟨c0, q1, q2⟩ := a3 p' cv hcv
        exact ⟨c0, q1, ext _ _ q2 LamX.codeO_ne⟩
    · have n1 : h'.objs.size ≠ c' := Nat.ne_of_gt hlt
      have n2 : h'.objs.size ≠ P := Nat.ne_of_gt (Nat.lt_of_lt_of_le (Heap.lt_size rowP) szl)
      rw [upd_ne n1, upd_ne n2]
      exact J.hok.fresh szl
  | some cv =>
    obtain ⟨c', e, hco⟩ := amg pos cv hc
    subst e
    refine PySem.W.kla_makeFunctionHit (mg := X.mg) (c := c) (P := P) (ps := ps) (closure_ok fre) J.ok.glob (J.mod.glob.keeps J.bk) hcode (tabB.code.keeps J.bk) rowP trip hc bltP fun ctv h' tk hx szl => ?_
    have J1 : Inv X pins σ H { s with heap := h'.push (PySem.W.kla_obj "<lambda>" (X.env.qual ++ "<lambda>") params body scope (cloFrom X.env.cells scope.names []) ((X.mg "__name__").getD .none) c' ctv), toks := tk } := J.kept fun b o e => Heap.get?_push_of_some _ (hx b o e)
    exact go h'.objs.size c' ((X.mg "__name__").getD .none) ctv H _ J1 (LamX.ExtN.refl H) (fun _ e => e) tabs (Heap.get?_push_size _ rfl) (J.hok.fresh szl) (off _ szl) hco
/-- x(), in the def that got the lambda: the context around stays calm and without guards -/
theorem pe_act2 {CXg : CXT} {Eg : XK} {Ng : List Str} {qg : Str} {sg : Scope} {g f c' : Addr} {cdg pm ctv : Value} {params : Arguments} {body : Expr} {scope : Scope} {k i : Nat} {a : Str} {pn : List (Addr × Obj)} {xe : Value → Shared → Prop} {W : WX} {E : XK} {tb : TE} {p1 p2 : Pos}
    (J : Inv X pins σ H s) (L : LamX.LamS X.env.scope scope) (gf : s.heap.get? f = some (PySem.W.kla_obj "<lambda>" (X.env.qual ++ "<lambda>") params body scope (cloFrom X.env.cells scope.names []) pm c' ctv)) (nf : H f = none) (ff : f ∉ frs X.stack)
    (bnd : bindArgs (PySem.W.kla_fn "<lambda>" (X.env.qual ++ "<lambda>") params body scope (cloFrom X.env.cells scope.names []) pm (.ref c') ctv) ⟨[], []⟩ = pure [])
    (tk : Takes ((cxOf CXg X.prog X.w X.K X.mg X.base Ng qg sg g cdg X.A X.stack s H Eg).tr pn xe) W) (hr : Room (k + 1) (X.A.deeper (envOfC qg sg s.heap.objs.size g cdg)))
    (wb : ∀ (outer : List Env) (t : Shared) (H : Hp), Room k ((X.A.deeper (envOfC qg sg s.heap.objs.size g cdg)).deeper (LamX.lamEnv X scope t.heap.objs.size f c')) → PE (LamX.lamCx X (X.A.deeper (envOfC qg sg s.heap.objs.size g cdg)) outer t H E scope f c') body tb)
    (at_ : Ng[i]? = some a) (vis : Vis sg a) (nd : (a == ("__debug__" : Str)) = false) (ncd : (a == ("__classdict__" : Str)) = false) :
    PE ((cxOf CXg X.prog X.w X.K X.mg X.base Ng qg sg g cdg X.A X.stack s H Eg).tr pn xe) (.Call (.Name a p1) [] [] p2)
      (fun σZ HZ Q => σZ[i]? = some (some (.ref f)) ∧ (∀ cls d H', E cls d H' → W cls d σZ H') ∧ HZ c' = some (LamX.CodeO c' (X.env.qual ++ "<lambda>")) ∧ tb σ HZ Q) := by
  refine ⟨fun pinsZ sZ σZ HZ Q IZ h => ?_⟩
  obtain ⟨slot, hW, code, want⟩ := h
  refine wpAny_Call_Name_kw (thn ((pe_var (pos := p1) (i := i) at_ vis nd ncd).run pinsZ sZ σZ HZ (fun v H1 => v = .ref f ∧ H1 = HZ) IZ ⟨.ref f, slot, rfl, rfl⟩) fun u t1 ⟨v, H1, I1, r1, q1⟩ => ?_)
  obtain ⟨rfl, rfl⟩ := q1
  cases r1
  have of1 : t1.heap.get? f = some (PySem.W.kla_obj "<lambda>" (X.env.qual ++ "<lambda>") params body scope (cloFrom X.env.cells scope.names []) pm c' ctv) := I1.base.keep f _ gf nf ff (fun z => nomatch (show f ∈ ([] : List Addr) from z))
  refine PySem.W.callWith_F0 ⟨_, _, _, _, of1⟩ ?_
  have un : Un (frs X.stack) [] H H1 s.heap t1.heap := I1.base
  obtain ⟨⟨oc, vs, t, oc1, dc, vc⟩, _, _⟩ := I1.hok c' _ code
  have rc : codeAny (model X.prog X.w) (X.A.deeper (envOfC qg sg s.heap.objs.size g cdg)) (.call (.ref f) ⟨[], []⟩) (CR (L2.CX X.prog X.w) (envOfC qg sg s.heap.objs.size g cdg :: X.stack) X.prog X.w H1 t1 Q E) t1 := by
    refine PySem.W.kla_callFunE hr.depth of1 rfl L.co L.gen rfl ⟨c', oc, vs, t, rfl, oc1, dc, vc⟩ ?_
    rw [bnd]
    refine wpAny_pure (wpAny_newFunctionEnv (fun y hy => (L.own y hy).2) (fun y hy => absurd hy (by simp)) (fun h₁ hns hsb => ⟨I1.nolimit.fresh _ hsb, ?_⟩) L.kind)
    show codeAny _ _ (.expr body (LamX.lamEnv X scope t1.heap.objs.size f c')) _ _
    have kp : ∀ b o, t1.heap.get? b = some o → h₁.get? b = some o := fun b o e => hsb.extBut b o (Nat.ne_of_lt (Heap.lt_size e)) (Heap.get?_push_of_some _ e)
    have J2 : Inv (LamX.lamCx X (X.A.deeper (envOfC qg sg s.heap.objs.size g cdg)) (envOfC qg sg s.heap.objs.size g cdg :: X.stack) t1 H1 E scope f c') [] σ H1 { t1 with heap := h₁, toks := t1.toks + ([] : List (Str × Value)).length } :=
      LamX.lam_start2 J L I1.env0 hr.hd un hns kp
    refine PySem.W.kla_codeExpr (wpAny_mono ((wb _ t1 H1 (hr.deeper _)).run [] _ _ H1 Q J2 want) (fun v s' hq => ?_) fun e s' hq => hq)
    obtain ⟨w', H', J', rv, q⟩ := hq
    exact ⟨w', H', J'.os, J'.bare, J'.base, J'.hok, rv, q⟩
  refine wpAny_call (codeAny_mono rc fun r s' hq => ?_)
  cases r with
  | error e => exact tk e s' (XE.of_call I1 hW hq)
  | ok fl =>
    cases fl with
    | ret u => exact I1.after hq
    | next => exact False.elim hq
    | brk => exact False.elim hq
    | cont => exact False.elim hq
end
end Ev

/-! The def that hears: its text, what it makes of a lambda. -/
namespace Ev
open L2 PyProof.Rows PySem PySem.Spec
theorem heSc_ok : FnScope heN ["call"] heSc := C8.fnScope_by (by decide)
/-- the wishes behind what is called -/
def heQ (Q : VK) : VK := fun v H' => ∀ t, H' t = none → Q (.ref t) (upd H' t (.tup [.non, v]))
def heE (K : PySem.W.Frag) (CS : Addr) (Q : VK) : XK := fun cls d H' => PySem.W.exmOne K cls (.ref CS) = some true ∧ ∃ da, d = some da ∧ ∀ a, H' a = none → ∀ t, upd H' a (ExV cls da a) t = none → Q (.ref t) (upd (upd H' a (ExV cls da a)) t (.tup [.ref a, .non]))
section
variable {X : Cx}
theorem he_body {g CS f c' : Addr} {cdg : Value} {s : Shared} {H : Hp} {Q : VK} {Eg : XK} {q : Nat → Pos} {qn : Str} {tl : Hp → VK → Prop} (mW : X.mg "WashError" = some (.ref CS)) (hq : (q 1).line = (q 0).line)
    (act : ∀ (W : WX) (pn : List (Addr × Obj)) (xe : Value → Shared → Prop) (p1 p2 : Pos), Takes ((cxOf (L2.CX X.prog X.w) X.prog X.w X.K X.mg X.base heN "_law_heard" heSc g cdg X.A X.stack s H Eg).tr pn xe) W →
      PE ((cxOf (L2.CX X.prog X.w) X.prog X.w X.K X.mg X.base heN "_law_heard" heSc g cdg X.A X.stack s H Eg).tr pn xe) (.Call (.Name "call" p1) [] [] p2) (fun σZ HZ Q' => σZ[0]? = some (some (.ref f)) ∧ (∀ cls d H', heE X.K CS Q cls d H' → W cls d σZ H') ∧ HZ c' = some (LamX.CodeO c' qn) ∧ tl HZ Q'))
    (mono : ∀ (H : Hp) (Q Q' : VK), (∀ v H, Q v H → Q' v H) → tl H Q → tl H Q') (hc : H c' = some (LamX.CodeO c' qn)) (h : ∀ p, H p = none → tl (upd H p (.tup [.non, .non])) (heQ Q)) :
    ∃ t, PSs (cxOf (L2.CX X.prog X.w) X.prog X.w X.K X.mg X.base heN "_law_heard" heSc g cdg X.A X.stack s H Eg) (heBody q) t ∧ t { nx := fun _ H' => Q .non H', rt := Q } (L2.start heN [.ref f]) H := by
  generalize eY : cxOf (L2.CX X.prog X.w) X.prog X.w X.K X.mg X.base heN "_law_heard" heSc g cdg X.A X.stack s H Eg = Y at act ⊢
  have nd : Y.N.Nodup := by rw [← eY]; show heN.Nodup; decide
  have n0 : Y.N[0]? = some ("call" : Str) := by rw [← eY]; rfl
  have n1 : Y.N[1]? = some ("caught" : Str) := by rw [← eY]; rfl
  have n2 : Y.N[2]? = some ("back" : Str) := by rw [← eY]; rfl
  have n3 : Y.N[3]? = some ("error" : Str) := by rw [← eY]; rfl
  have l1 : Y.env.scope.names.lookup ("caught" : Str) = some .local := by rw [← eY]; rfl
  have l2 : Y.env.scope.names.lookup ("back" : Str) = some .local := by rw [← eY]; rfl
  have l3 : Y.env.scope.names.lookup ("error" : Str) = some .local := by rw [← eY]; rfl
  have cm : Y.calm = true := by rw [← eY]; rfl
  have fnY : ∀ x, Y.fn x = true := by rw [← eY]; exact fun _ => rfl
  have f1 : Y.fn "caught" = true ∨ Y.env.scope.names.lookup ("caught" : Str) = some .local := .inl (fnY _)
  have f2 : Y.fn "back" = true ∨ Y.env.scope.names.lookup ("back" : Str) = some .local := .inl (fnY _)
  have k1 : Loc Y.env.scope "caught" := .inl l1
  have k2 : Loc Y.env.scope "back" := .inl l2
  have gW : Gl Y "WashError" := by rw [← eY]; rfl
  have mY : Y.mg "WashError" = some (.ref CS) := by rw [← eY]; exact mW
  have st : Y.stack = Y.env :: Y.outer := by rw [← eY]; rfl
  have fr : Y.env.frame = some Y.env.locals := by rw [← eY]; rfl
  have ex : Y.ex = [] := by rw [← eY]; rfl
  have k3 : Y.env.kindOf "error" = some .local := by rw [← eY]; rfl
  have r1 : PS Y (.Assign [.Tuple [.Name "caught" (q 0), .Name "back" (q 1)] 0 (q 2)] (.Tuple [.Constant .none 0 (q 3), .Constant .none 0 (q 4)] 0 (q 5)) (q 6)) (tAsg (tTup (tCons (tC .non) (tCons (tC .non) tNil))) (gTup Y.K 2 (gCons (gName 1) (gCons (gName 2) gNil)))) := by
    refine ps_asg (pe_tup (pa_cons pe_non (pa_cons pe_non pa_nil))) (pg_tup cm (pgs_cons (pg_name nd n1 k1 f1) (pgs_cons (pg_name nd n2 k2 f2) pgs_nil))) (by rfl) ?_
    rw [← eY]
    have e : ∀ (sc : Scope) (l : Addr), sc = heSc → (envOfC "_law_heard" sc l g cdg).kindOf "caught" = some .local ∧ (envOfC "_law_heard" sc l g cdg).kindOf "back" = some .local := fun sc l h => by
      rw [h]
      exact ⟨rfl, rfl⟩
    obtain ⟨e1, e2⟩ := e heSc s.heap.objs.size rfl
    have e3 : (envOfC "_law_heard" heSc s.heap.objs.size g cdg).blockKind = .function := rfl
    show swappedStores _ _ (envOfC "_law_heard" heSc s.heap.objs.size g cdg) = _
    generalize envOfC "_law_heard" heSc s.heap.objs.size g cdg = env at e1 e2 e3
    simp [swappedStores, e1, e2, e3, List.filterMap, hq, Expr.pos]
    exact fun _ h => absurd (show (true : Bool) = false from h rfl) (by decide)
  have r3 : PS Y (.Return (some (.Tuple [.Name "caught" (q 17), .Name "back" (q 18)] 0 (q 19))) (q 20)) (tRet (tTup (tCons (tVar 1) (tCons (tVar 2) tNil)))) := by
    refine ps_ret (pe_tup (pa_cons (pe_var n1 (.inl l1)) (pa_cons (pe_var n2 (.inl l2)) pa_nil)))
  have r2 : PS Y (.Try [.Assign [.Name "back" (q 7)] (.Call (.Name "call" (q 8)) [] [] (q 9)) (q 10)] [.ExceptHandler (some (.Name "WashError" (q 11))) (some "error") [.Assign [.Name "caught" (q 12)] (.Name "error" (q 13)) (q 14)] (q 15)] [] [] (q 16))
      (fun D σ H => (fun (W : WX) => tAsg (fun σZ HZ Q' => σZ[0]? = some (some (.ref f)) ∧ (∀ cls d H', heE X.K CS Q cls d H' → W cls d σZ H') ∧ HZ c' = some (LamX.CodeO c' qn) ∧ tl HZ Q') (gName 2)) (wTr Y.K (.ref CS) 3 (fun _ => tAsg (tVar 3) (gName 1)) D) D σ H) := by
    refine ps_try_trk (tb := fun (W : WX) => tAsg (fun σZ HZ Q' => σZ[0]? = some (some (.ref f)) ∧ (∀ cls d H', heE X.K CS Q cls d H' → W cls d σZ H') ∧ HZ c' = some (LamX.CodeO c' qn) ∧ tl HZ Q') (gName 2)) (ts := fun _ => tAsg (tVar 3) (gName 1)) st fr ex nd n3 k3 ⟨gW, by decide, .inl mY⟩ (fun W pn xe tk _ => ?_) (fun a pn => ?_)
    · refine pss_one (ps_set (X := Y.tr pn xe) nd n2 k2 (act W pn xe _ _ tk) (by rfl) f2)
    · exact pss_one (ps_set (X := Y.suite a pn) nd n1 k1 (pe_var (X := Y.suite a pn) n3 (.inl l3)) (by rfl) f1)
  have eK : Y.K = X.K := by rw [← eY]; rfl
  refine ⟨_, pss_cons r1 (pss_cons r2 (pss_one r3)), ?_⟩
  refine ⟨(by show 2 ≤ sizeLine; rw [sizeLine_eq]; omega), fun p hp => ⟨p, [.non, .non], rfl, .inl (.of upd_same), rfl, .non, [.non], rfl, .non, [], rfl, rfl, rfl, fun cls d H' hE => ?_, ?_, ?_⟩⟩
  · obtain ⟨e1, da, e2, go⟩ := hE
    refine ⟨by rw [eK]; exact e1, da, e2, fun a na => ⟨.ref a, rfl, fun na2 => ?_⟩⟩
    exact ⟨.ref a, rfl, .non, rfl, (by show 2 ≤ sizeLine; rw [sizeLine_eq]; omega), fun t ht => go a na t ht⟩
  · rw [upd_ne (ne_of_none hc hp)]
    exact hc
  · refine mono _ _ _ (fun v H' w => ?_) (h p hp)
    exact ⟨.non, rfl, v, rfl, (by show 2 ≤ sizeLine; rw [sizeLine_eq]; omega), w⟩
/-- _law_heard(lambda: body) -/
theorem pe_heard {Z : Zt} {T : List (Addr × Str)} {c P : Addr} {k : Nat} {params : Arguments} {body : Expr} {scope : Scope} {t : XK → TE} {p lpos pos : Pos} (hd : HearD X.K X.mg Z) (hg : Gl X "_law_heard") (gs : X.A.guards = some [])
    (TB : LamX.TabB X.base X.mg c P) (hcode : X.env.code = .ref c) (hmT : (P, X.env.qual ++ "<lambda>") ∈ T) (hu : ∀ p ∈ T, p.1 = P → p.2 = X.env.qual ++ "<lambda>") (hr : Room (k + 2) X.A) (L : LamX.LamS X.env.scope scope) (hdef : defaultsOf params X.env = ([], []))
    (hbind : ∀ (q : Str) (cl : List (Str × Addr)) (pm cv ctv : Value), bindArgs (PySem.W.kla_fn "<lambda>" q params body scope cl pm cv ctv) ⟨[], []⟩ = pure [])
    (mono : ∀ (E : XK) (σ : Sx) (H : Hp) (Q Q' : VK), (∀ v H, Q v H → Q' v H) → t E σ H Q → t E σ H Q')
    (wb : ∀ (A : Around) (outer : List Env) (s : Shared) (H : Hp) (E : XK) (f c' : Addr), Room k (A.deeper (LamX.lamEnv X scope s.heap.objs.size f c')) → A.guards = some [] → PE (LamX.lamCx X A outer s H E scope f c') body (t E)) :
    PE X (.Call (.Name "_law_heard" p) [.Lambda params body scope lpos] [] pos) (fun σ H Q => LamX.Tabs T H ∧ ∀ H1, LamX.ExtN H H1 → (∀ b, H1 b = none → H b = none) → LamX.Tabs T H1 →
      ∀ CS, (∀ c, PySem.W.exmOne X.K (.ref (Z.ca c)) (.ref CS) = some true) → ∀ p, H1 p = none → t (heE X.K CS Q) σ (upd H1 p (.tup [.non, .non])) (heQ Q)) := by
  obtain ⟨g, CS, fd, prm, q, Fu, hb, mg, mW, eC, hq⟩ := hd.ex
  obtain ⟨⟨oc, od, dV, kV, doc, pm, an, cdv, ct, osl, rfl, lk, hcd, _, _⟩, kp⟩ := Fu
  refine ⟨fun pins s σ H Q I h => ?_⟩
  obtain ⟨hT, h⟩ := h
  refine wpAny_Call_Name_kw (ld_glob I hg mg ?_ (by decide))
  refine PySem.W.callWith_K (h₀ := X.base) I.ok.mod.kin kp ?_ (by rfl) (by rfl)
  show wpAny _ _ (spliced ((false, eval (.Lambda params body scope lpos) X.env) :: backTo pos (starEach [] X.env))) _ _ s
  refine Calls.spliced_cons (lam_make3 I TB hcode hmT hu hT hdef (L.has I.ok) fun f c' pm' ctv H1 s' I1 eN dm T1 hf hfn hfr hco => ?_)
  refine Calls.spliced_nil ⟨I1.kIn, ?_⟩
  have rc : codeAny (model X.prog X.w) X.A (.call (.ref g) ⟨[.ref f], []⟩) (CR (L2.CX X.prog X.w) X.stack X.prog X.w H1 s' Q fun _ _ _ => False) s' := by
    refine LamX.run_ofS (N := heN) (ps := ["call"]) (us := [.ref f]) (vs := [.ref f]) lk hcd heSc_ok hr I1.env0 (hb s' [.ref f] I1.kIn rfl) (.cons rfl .nil) rfl fun hr' => ?_
    refine he_body (c' := c') (qn := X.env.qual ++ "<lambda>") (tl := fun H' Q' => t (heE X.K CS Q) σ H' Q') mW hq (fun W pn xe p1 p2 tk => ?_) (mono _ _) hco fun p hp => h H1 eN dm T1 CS eC p hp
    exact pe_act2 (i := 0) I1 L hf hfn hfr (hbind _ _ _ _ _) tk hr' (fun outer s H hr2 => wb _ outer s H _ f c' hr2 gs) rfl (.inl rfl) (by decide) (by decide)
  refine wpAny_call (codeAny_mono rc fun r s2 hq => ?_)
  cases r with
  | error e =>
    obtain ⟨_, _, _, _, _, _, _, _, _, _, _, _, z⟩ := hq
    exact z.elim
  | ok fl =>
    cases fl with
    | ret u => exact I1.after hq
    | next => exact False.elim hq
    | brk => exact False.elim hq
    | cont => exact False.elim hq
end
end Ev

/-! What is heard, by the evaluator. -/
namespace Ev
open L2 PyProof.Rows PySem PySem.Spec
theorem frz_at {ρ : Nv} {i : Nat} {s : Option (Ev.D × Bool)} (h : (frzAll ρ)[i]? = some s) : ∃ t, ρ[i]? = some t ∧ s = t.map fun p => (p.1, false) := by
  unfold frzAll at h
  rw [List.getElem?_map] at h
  cases e : ρ[i]? with
  | none => rw [e] at h; cases h
  | some t =>
    rw [e] at h
    exact ⟨t, rfl, (Option.some.inj h).symm⟩
theorem frz_no {ρ : Nv} {i : Nat} {d : Ev.D} (h : (frzAll ρ)[i]? = some (some (d, true))) : False := by
  obtain ⟨t, _, e⟩ := frz_at h
  cases t with
  | none => cases e
  | some p =>
    have w := congrArg (fun o : Option (Ev.D × Bool) => o.map Prod.snd) e
    cases w
section
variable {Z : Zt} {Eo : XK} {σ : Sx} {p q : Pt}
theorem frz_fz {ρ : Nv} : Fz ρ (frzAll ρ) := by
  refine ⟨by unfold frzAll; simp, fun i => ⟨fun h => ?_, fun d fl h => ⟨false, ?_, fun z => nomatch z⟩⟩⟩
  · unfold frzAll
    rw [List.getElem?_map, h]
    rfl
  · unfold frzAll
    rw [List.getElem?_map, h]
    rfl
/-- all lists of slots are given away -/
theorem frz_all (sp : p.Sim Z σ) : Via σ p ⟨frzAll p.ρ, p.M, fun b => p.F b ∨ Own p.ρ σ b, p.φ, p.H⟩ ∧ Sim Z (frzAll p.ρ) p.M (fun b => p.F b ∨ Own p.ρ σ b) p.φ σ p.H := by
  have st : Stay p.F p.φ p.H (fun b => p.F b ∨ Own p.ρ σ b) p.φ p.H := stay_grow fun _ h => .inl h
  refine ⟨⟨⟨⟨[], by simp, by simp⟩, fun _ _ h _ _ _ => h, fun _ h => .inl h, fun b h => h.imp id .inr, fun _ h => h⟩, frz_fz⟩, ⟨fun b h => ?_, sp.g.len, fun n ps h => ?_, sp.g.nd, sp.g.tab⟩, ⟨?_, fun i d h => ?_, fun i d h => (frz_no h).elim, sp.l.ent, fun i j d e a h => (frz_no h).elim⟩⟩
  · rcases h with h | h
    · exact sp.g.dom b h
    · obtain ⟨⟨vs, e⟩, _, n⟩ := sp.l.own_lst h
      exact ⟨fun z => (by rw [z] at e; cases e), n⟩
  · obtain ⟨a, vs, h1, h2, h3⟩ := sp.g.cell n ps h
    exact ⟨a, vs, h1, h2, h3.stay st⟩
  · rw [frz_fz.1]
    exact sp.l.len
  · obtain ⟨t, h1, e⟩ := frz_at h
    cases t with
    | none => cases e
    | some y =>
      obtain ⟨d', fl⟩ := y
      have e : some (d, false) = some (d', false) := e
      cases e
      cases fl with
      | false =>
        obtain ⟨v, e, r⟩ := sp.l.sh i d h1
        exact ⟨v, e, r.stay st⟩
      | true =>
        obtain ⟨a, e, r, _⟩ := sp.l.ow i d h1
        exact ⟨.ref a, e, OwnR.give (.inr ⟨i, d, h1, e⟩) (r.stay st fun vs h => h)⟩
/-- the heap grew, tables may have changed -/
theorem via_grow {H' : Hp} (sp : p.Sim Z σ) (ext : LamX.ExtN p.H H') (dm : ∀ b, H' b = none → p.H b = none) (tb : LamX.Tabs Z.T H') : Via σ p ⟨p.ρ, p.M, p.F, p.φ, H'⟩ ∧ Sim Z p.ρ p.M p.F p.φ σ H' := by
  have po : ∀ O, Post O no1 p.F p.φ p.H p.F p.φ H' := fun O => ⟨⟨[], by simp, by simp⟩, fun b o h _ _ nt => ext b o h nt, fun _ h => h, fun _ h => .inl h, dm⟩
  refine ⟨⟨po _, Fz.refl _⟩, sp.g.next ((po no1).stayE sp.g) rfl (fun b hb => ?_) (fun b hb => ⟨fun z => (sp.g.dom b hb).1 (dm b z), (sp.g.dom b hb).2⟩) tb, sp.l.post (po no1) sp.g⟩
  obtain ⟨n, hn, e⟩ := List.mem_iff_getElem.mp hb
  obtain ⟨a, vs, h1, h2, _⟩ := sp.g.cell n (p.M[n]'(by rw [← sp.g.len]; exact hn)) (by simp)
  rw [List.getElem?_eq_getElem hn, e] at h1
  cases h1
  rw [ext _ _ h2 (fun _ z => nomatch z), h2]
/-- an error is kept at a -/
theorem err_kept {c : Nat} {v : PyData} {M : Mem} {da a : Addr} (hsp : p.Sim Z σ) (po : Post (Own p.ρ σ) no1 p.F p.φ p.H q.F q.φ q.H) (no : ∀ b, ¬ Own p.ρ σ b) (er : Err Z c v M q da) (na : q.H a = none) :
    Via σ p ⟨p.ρ, M, fun b => q.F b ∨ b = a, q.φ, upd q.H a (ExV (.ref (Z.ca c)) da a)⟩ ∧ Sim Z p.ρ M (fun b => q.F b ∨ b = a) q.φ σ (upd q.H a (ExV (.ref (Z.ca c)) da a)) ∧ Rep Z (fun b => q.F b ∨ b = a) q.φ (upd q.H a (ExV (.ref (Z.ca c)) da a)) (.ref a) (.exc c v) := by
  have po1 : Post no1 no1 p.F p.φ p.H q.F q.φ q.H := po.mono' (fun b h => no b h) fun _ h => h
  obtain ⟨f1, f2⟩ := er.g.free na
  have st : Stay q.F q.φ q.H (fun b => q.F b ∨ b = a) q.φ (upd q.H a (ExV (.ref (Z.ca c)) da a)) := (stay_upd na).trans (stay_grow fun _ h => .inl h)
  have po2 : Post no1 no1 q.F q.φ q.H (fun b => q.F b ∨ b = a) q.φ (upd q.H a (ExV (.ref (Z.ca c)) da a)) := ⟨⟨[], by simp, by simp⟩, fun b o h _ _ _ => by rw [upd_ne (ne_of_none h na)]; exact h, fun _ h => .inl h, fun b h => h.imp id fun e => .inl (by rw [e]; exact na), fun b h => by
    by_cases hb : b = a
    · rw [hb, upd_same] at h
      cases h
    · rw [upd_ne hb] at h
      exact h⟩
  have po3 := po1.trans po2 (fun _ h => h.elim) (fun _ h => h.elim)
  obtain ⟨x, e1, r1⟩ := er.at_
  refine ⟨⟨po3.mono' (fun _ h => h.elim) fun _ h => h, Fz.refl _⟩, ⟨er.g.next st rfl (fun b hb => upd_ne fun z => f2 (z ▸ hb)) (fun b hb => ?_) (er.g.tab.ext fun b o e => by rw [upd_ne (ne_of_none e na)]; exact e), hsp.l.post po3 hsp.g⟩, .exc (.inr rfl) (.inl er.fd) upd_same (by rw [upd_ne (ne_of_none e1 na)]; exact e1) (r1.stay st)⟩
  rcases hb with hb | hb
  · exact ⟨fun z => (er.g.dom b hb).1 (po2.dom b z), (er.g.dom b hb).2⟩
  · rw [hb]
    exact ⟨fun z => (by rw [upd_same] at z; cases z), f2⟩
theorem tE_mono {f : Nv → Mem → RE} {H : Hp} {Q Q' : VK} (h : ∀ v H, Q v H → Q' v H) (t : tE Z Eo f σ H Q) : tE Z Eo f σ H Q' := by
  obtain ⟨p, e, sp, r, hr, d⟩ := t
  refine ⟨p, e, sp, r, hr, ?_⟩
  cases r with
  | ok r => exact fun q v e1 e2 x s rp => h _ _ (d q v e1 e2 x s rp)
  | er c v M => exact d
end
section
variable {X : Cx} {Z : Zt} {Fs : List Fn} {C : Nv → Clo} {Eo : XK}
theorem s_hearL {c P : Addr} {k : Nat} {params : Arguments} {body : Expr} {scope : Scope} {a : E} {p lpos pos : Pos} (hd : HearD X.K X.mg Z) (hg : Gl X "_law_heard") (gs : X.A.guards = some [])
    (TB : LamX.TabB X.base X.mg c P) (hcode : X.env.code = .ref c) (hmT : (P, X.env.qual ++ "<lambda>") ∈ Z.T) (hu : ∀ p ∈ Z.T, p.1 = P → p.2 = X.env.qual ++ "<lambda>") (hr : Room (k + 2) X.A) (L : LamX.LamS X.env.scope scope) (hdef : defaultsOf params X.env = ([], []))
    (hbind : ∀ (q : Str) (cl : List (Str × Addr)) (pm cv ctv : Value), bindArgs (PySem.W.kla_fn "<lambda>" q params body scope cl pm cv ctv) ⟨[], []⟩ = pure [])
    (wb : ∀ (A : Around) (outer : List Env) (s : Shared) (H : Hp) (E : XK) (f c' : Addr), Room k (A.deeper (LamX.lamEnv X scope s.heap.objs.size f c')) → A.guards = some [] → PE (LamX.lamCx X A outer s H E scope f c') body (tE Z E (evE Fs C a))) :
    PE X (.Call (.Name "_law_heard" p) [.Lambda params body scope lpos] [] pos) (tE Z Eo (evE Fs C (.hearL a))) := by
  refine PE.imp (pe_heard (T := Z.T) (t := fun E => tE Z E (evE Fs C a)) hd hg gs TB hcode hmT hu hr L hdef hbind (fun E σ H Q Q' h t => tE_mono h t) wb) fun σ H Q h => ?_
  obtain ⟨p, rfl, sp, r, hr, d⟩ := h
  refine ⟨sp.g.tab, fun H1 ext dm tb CS eC t ht => ?_⟩
  obtain ⟨v1, s1⟩ := frz_all sp
  obtain ⟨v2, s2⟩ := via_grow (p := ⟨frzAll p.ρ, p.M, fun b => p.F b ∨ Own p.ρ σ b, p.φ, p.H⟩) s1 ext dm tb
  have s3 := Sim.new (o := .tup [.non, .non]) s2 ht
  have v3 : Via σ ⟨frzAll p.ρ, p.M, fun b => p.F b ∨ Own p.ρ σ b, p.φ, H1⟩ ⟨frzAll p.ρ, p.M, fun b => p.F b ∨ Own p.ρ σ b, p.φ, upd H1 t (.tup [.non, .non])⟩ := ⟨post_new _ ht, Fz.refl _⟩
  have v4 := (v1.trans sp v2).trans sp v3
  unfold evE at hr
  cases e : evE Fs C a (frzAll p.ρ) p.M with
  | none => rw [e] at hr; cases hr
  | some y =>
    rw [e] at hr
    refine ⟨⟨frzAll p.ρ, p.M, fun b => p.F b ∨ Own p.ρ σ b, p.φ, upd H1 t (.tup [.non, .non])⟩, rfl, s3, y, e, ?_⟩
    cases y with
    | ok x =>
      obtain ⟨x1, x2, x3, x4⟩ := x
      intro q v e1 e2 y sy rep T hT
      cases e1
      cases e2
      have er := vl_some hr
      subst er
      obtain ⟨F', mo, nw, f, v5, s5, r5⟩ := give1 (q := q) y s3 sy rep
      have d5 := d.rebase sp (v4.trans sp v5)
      exact New.done (p := ⟨fz x2 q.ρ, q.M, F', q.φ, q.H⟩) (fr := false) (pair_new hT (.py .non) r5) s5 d5
    | er c v M =>
      have er := vl_some hr
      subst er
      intro q da po er
      refine ⟨eC c, da, rfl, fun ad na T hT => ?_⟩
      obtain ⟨v5, s5, r5⟩ := err_kept (p := ⟨frzAll p.ρ, p.M, fun b => p.F b ∨ Own p.ρ σ b, p.φ, upd H1 t (.tup [.non, .non])⟩) s3 po (fun b ⟨i, d, h, _⟩ => frz_no h) er na
      have d5 := d.rebase sp (v4.trans sp v5)
      exact New.done (p := ⟨frzAll p.ρ, M, fun b => q.F b ∨ b = ad, q.φ, _⟩) (fr := false) (pair_new hT r5 (.py .non)) s5 d5
end
end Ev

/-! isinstance of a kept error, its value. -/
namespace Ev
open PySem PySem.Spec PyProof.Rows PySem.Calls PySem.W
section
variable {prog : Program} {w : World} {A : Around} {E : Value → Shared → Prop} {s : Shared} {K : PySem.W.Frag} {x D : Addr} {ox : Obj} {od : Option Obj}
/-- as the kit's kin_classE, for an object with a dict too -/
theorem class_ofE {Q : Option Value → Shared → Prop} (R : L2.ExcC K D) (kin : K.In s.heap) (I : PySem.W.InstAt s.heap x ox D od) (h : Q (some (.ref D)) { s with toks := s.toks + 1 }) : wpAny (model prog w) A (getAttr? (.ref x) "__class__") Q E s := by
  have fo : findObj K D od "__class__" = some (.bind (.builtin "getset_descriptor.__get__") (.builtin "object.__class__")) := by
    obtain ⟨cd, hc, _⟩ := any_some R.hd
    unfold findObj
    rw [hc, Option.bind_some, R.ha, Option.bind_some]
    simp [R.hn, R.ht]
  obtain ⟨hp, gg, dd, tt, os⟩ := s
  have T0 := I.type (M := model prog w)
  have T1 := looks_findIn (M := model prog w) kin R.hg
  have T2 := looks_findIn (M := model prog w) kin R.hk
  have T3 := looks_find (M := model prog w) kin I fo
  have isB : Looks (model prog w) hp (isInstance (.ref x) (.type "BaseException")) true := T0.andThen (looks_subIn kin R.hs)
  have b0 : (false && onTheHeap (Value.builtin "BaseException.__getattribute__")) = false := rfl
  have b2 : (Value.builtin "BaseException.__getattribute__" == Value.builtin "object.__getattribute__") = false := by decide +kernel
  have b1 : (onTheHeap (Value.ref D) && Value.builtin "BaseException.__getattribute__" == Value.builtin "object.__getattribute__") = false := by rw [b2]; rfl
  unfold getAttr? getAttrBy? getAttrBy
  refine wpAny_bind (wpAny_mkText (wpAny_bind (wpAny_attempt (wpAny_holding (wpAny_bind (T0.at (wpAny_bind (T1.at ?_))))))))
  show wpAny _ _ (if (onTheHeap (Value.ref D) && Value.builtin "BaseException.__getattribute__" == Value.builtin "object.__getattribute__") = true then _ else _) _ _ _
  rw [b1, if_neg Bool.false_ne_true]
  unfold getAttrByItsOwn hookBefore
  refine wpAny_bind ?_
  rw [if_pos (show onTheHeap (Value.ref D) = true from rfl)]
  refine T2.at ?_
  refine wpAny_bind (wpAny_attempt (wpAny_holding ?_))
  unfold callGetattribute
  rw [b0, if_neg Bool.false_ne_true]
  unfold boundAndCalled
  rw [PySem.F.excAttr_ValueError.ga.bind (.ref x)]
  refine wpAny_bind (wpAny_pure ?_)
  show wpAny _ _ (call (.builtin "BaseException.__getattribute__") [.ref x, .str "__class__" tt]) _ _ _
  refine wpAny_call (codeAny_call_builtin PySem.F.excAttr_ValueError.ga.plain PySem.F.entry_bexc_ga ?_)
  refine @check_slot (model prog w) _ _ ⟨hp, gg, dd, tt + 1, os⟩ "BaseException.__getattribute__" "BaseException" "__getattribute__" (.ref x) [.str "__class__" tt] [] _ (by decide +kernel) (by decide +kernel) isB (PySem.F.args_bexc_ga (.ref x) (.str "__class__" tt)) ?_
  unfold Builtin.«object.__getattribute__»
  refine wpAny_bind (wpAny_of_eq (a := ((Value.ref x : Value), [Value.str "__class__" tt])) (by first | rfl | (simp only [slotArgs]; rfl)) ?_)
  refine wpAny_bind (wpAny_pure (wpAny_bind (T0.at (wpAny_bind (T3.at ?_)))))
  show wpAny _ _ (holding [Value.builtin "object.__class__"] (call (.builtin "getset_descriptor.__get__") [.builtin "object.__class__", .ref x, .ref D]) >>= ret) _ _ _
  refine wpAny_bind (wpAny_holding (wpAny_call (class_get (s := ⟨hp, gg, dd, tt + 1, os⟩) (ox := ox) (od := od) kin I R.hm ?_)))
  refine wpAny_pure ?_
  show wpAny _ _ (handedOut (.ref D)) _ _ _
  rw [handedOut_of (v := .ref D) rfl]
  first
    | exact wpAny_pure (wpAny_pure h)
    | exact wpAny_pure h
    | exact wpAny_pure (wpAny_bind (wpAny_pure (wpAny_pure h)))
theorem kitx_err (R : L2.ExcC K D) : KitX K (.ref x) (.ref D) (fun h => ∃ (ox : Obj) (od : Option Obj), PySem.W.InstAt h x ox D od) := by
  obtain ⟨cdD, hcD, _⟩ := any_some R.hd
  unfold clsIn at hcD
  split at hcD
  · rename_i c' d' cd' sl' ho
    refine ⟨fun _ _ _ ⟨_, _, I⟩ => I.type, fun _ _ kin _ => ?_, fun h tp dd its n sl kin htp => ?_, fun kin ⟨_, _, I⟩ k => class_ofE R kin I k⟩
    · intro A' Q' E' s' k q
      unfold isType loadHead
      exact wpAny_bind (wpAny_loadPart (k _ _ (kin _ _ ho)) (wpAny_pure q))
    · refine Bool.eq_false_iff.mpr fun q => ?_
      have e : D = tp := Value.ref.inj (beq_iff_eq.mp q)
      subst e
      cases (kin _ _ ho).symm.trans htp
  · cases hcD
end
end Ev
namespace Ev
open L2 PyProof.Rows PySem PySem.Spec
/-- isinstance(x, c), x a kept error or what the kit knows -/
def rIsX (K : PySem.W.Frag) : List V → Hp → VK → Prop := fun xs H Q => ∃ (x c : V) (t u : Value) (b : Bool), xs = [x, c] ∧ ClsV c u ∧ (TyX K H x t ∨ ∃ (a D d : Addr) (fs : List (Str × V)), x = .ref a ∧ t = .ref D ∧ ExcC K D ∧ H a = some (ExV (.ref D) d a) ∧ H d = some (.xd fs)) ∧ PySem.W.kitOne K t u = some b ∧ Q (.bl b) H
theorem inst_of {X : Cx} {pins : List (Addr × Obj)} {σ : Sx} {H : Hp} {s : Shared} {a D d : Addr} {fs : List (Str × V)} (I : Inv X pins σ H s) (ha : H a = some (ExV (.ref D) d a)) (hd : H d = some (.xd fs)) :
    ∃ (oe od : Obj) (mA : Str → Option Value), PySem.W.InstAt s.heap a oe D (some od) ∧ (∀ x, PySem.W.lookIn x od = some (mA x)) ∧ ∀ x, RelO (fs.lookup x) (mA x) := by
  obtain ⟨⟨oe, vs, h1, h2, h3⟩, _, _⟩ := I.hok a _ ha
  obtain ⟨mA, hns, hr⟩ := (show ObjOk X.prog X.w H s.heap d (.xd fs) from I.hok d _ hd)
  obtain ⟨od, ho, hl⟩ := lookIn_ns hns
  exact ⟨oe, od, mA, ⟨h1, h2.1, by unfold PySem.W.notCls; rw [h3] <;> rfl, by rw [h2.2]; exact ho⟩, hl, hr⟩
theorem call_isX {X : Cx} : CallR X (.builtin "isinstance") (rIsX X.K) := by
  intro pins s σ H xs us Q I r h
  obtain ⟨x, c, t, u, b, rfl, k, ty, e, q⟩ := h
  rcases ty with ty | ⟨a, D, d, fs, rfl, rfl, ec, ha, hd⟩
  · exact call_isi pins s σ H _ us Q I r ⟨x, c, t, u, b, rfl, k, ty, e, q⟩
  · obtain ⟨u1, u2, rfl, r1, r2⟩ := vals2 r
    have e2 := k.eq r2
    subst e2
    cases r1
    obtain ⟨oe, od, _, J, _⟩ := inst_of I ha hd
    exact PySem.W.kia_one (kitx_err ec) I.kIn ⟨oe, _, J⟩ e (fun z => nomatch z) fun tk => ⟨.bl b, H, I.tok tk, rfl, q⟩
section
variable {X : Cx} {Z : Zt} {Γ : Gam} {Fs : List Fn} {C : Nv → Clo} {Eo : XK}
theorem RepR.excV {F : Addr → Prop} {φ : List Addr} {H : Hp} {v : V} {c : Nat} {p : PyData} (h : RepR Z F φ H v (.exc c p)) : ∃ (a d : Addr) (w : V), v = .ref a ∧ H a = some (ExV (.ref (Z.ca c)) d a) ∧ H d = some (.xd [(valK, w)]) ∧ RepP F H w p := by
  rcases h with h | ⟨a, rfl, r⟩
  · cases h with
    | exc h1 h2 h3 h4 h5 => exact ⟨_, _, _, rfl, h3, h4, h5⟩
  · exact r.elim
/-- isinstance of an error that was heard, or of None -/
theorem s_isE {n c : Nat} {g : Str} {a : E} {e : Expr} {p p2 pos : Pos} (ok : XOk X Z Γ Fs Eo) (er : ErrD X.K Z n) (hc : c < n) (hg : glB Γ "isinstance" .free = true) (hg2 : glB Γ g (.cls c) = true) (hu : unst e = true) (ha : PE X e (tE Z Eo (evE Fs C a))) :
    PE X (.Call (.Name "isinstance" p) [e, .Name g p2] [] pos) (tE Z Eo (evE Fs C (.isi (.exc c) a))) := by
  obtain ⟨h1, h2, h3⟩ := glB_ok ok hg
  obtain ⟨g1, g2, g3⟩ := glB_ok ok hg2
  have hT : PE X (.Name g p2) (tC (.ref (Z.ca c))) := pe_glob (v := .ref (Z.ca c)) g1 g3 rfl (nm_all g2).1
  refine PE.imp (pe_callB call_isX h1 h3 (by kernel_rfl) (pa_cons ha (pa_cons hT pa_nil) (star_one hu)) (nm_all h2).2.2 (nm_all h2).1 (star_one hu) (star_all rfl)) fun σ H Q q => ?_
  obtain ⟨p, rfl, sp, z, hz, d⟩ := q
  unfold evE at hz
  refine sqE gdE sp hz d fun x m q v h1 via sq rx d1 => ?_
  obtain ⟨b, e1, h1⟩ := ob_some h1
  rw [vl_some h1] at d1
  have rr := rx.r sq.l
  cases x with
  | exc k p0 =>
    have e1 : some (k == c || c == 0) = some b := e1
    cases e1
    obtain ⟨ad, dd, w, rfl, e2, e3, _⟩ := rr.excV
    exact ⟨_, .ref (Z.ca c), .ref (Z.ca k), .ref (Z.ca c), _, rfl, .own _, .inr ⟨ad, _, dd, _, rfl, rfl, er.ec k, e2, e3⟩, er.kit k c hc, d1.sh sq (rBl _)⟩
  | py p0 =>
    cases p0 <;> first
      | (cases e1; exact ⟨v, .ref (Z.ca c), .type "NoneType", .ref (Z.ca c), false, rfl, .own _, .inl (ty_of rr rfl), er.kn c hc, d1.sh sq (rBl _)⟩)
      | cases e1
  | _ => cases e1
theorem s_isV {n : Nat} {a : E} {e : Expr} {p p2 pos : Pos} (ok : XOk X Z Γ Fs Eo) (er : ErrD X.K Z n) (hg : glB Γ "isinstance" .free = true) (hg2 : glB Γ "ValueError" .free = true) (hu : unst e = true) (ha : PE X e (tE Z Eo (evE Fs C a))) :
    PE X (.Call (.Name "isinstance" p) [e, .Name "ValueError" p2] [] pos) (tE Z Eo (evE Fs C (.isi .verr a))) := by
  obtain ⟨h1, h2, h3⟩ := glB_ok ok hg
  obtain ⟨g1, g2, g3⟩ := glB_ok ok hg2
  have hT : PE X (.Name "ValueError" p2) (tC (.ty "ValueError")) := pe_bltn g1 g3 (by kernel_rfl) rfl (nm_all g2).2.2 (nm_all g2).1
  refine PE.imp (pe_callB call_isX h1 h3 (by kernel_rfl) (pa_cons ha (pa_cons hT pa_nil) (star_one hu)) (nm_all h2).2.2 (nm_all h2).1 (star_one hu) (star_all rfl)) fun σ H Q q => ?_
  obtain ⟨p, rfl, sp, z, hz, d⟩ := q
  unfold evE at hz
  refine sqE gdE sp hz d fun x m q v h1 via sq rx d1 => ?_
  obtain ⟨b, e1, h1⟩ := ob_some h1
  rw [vl_some h1] at d1
  have rr := rx.r sq.l
  cases x with
  | exc k p0 =>
    cases e1
    obtain ⟨ad, dd, w, rfl, e2, e3, _⟩ := rr.excV
    exact ⟨_, .ty "ValueError", .ref (Z.ca k), .type "ValueError", _, rfl, .ty _, .inr ⟨ad, _, dd, _, rfl, rfl, er.ec k, e2, e3⟩, er.kv k, d1.sh sq (rBl _)⟩
  | py p0 => cases p0 <;> cases e1
  | _ => cases e1
/-- x.value of an error that was heard -/
theorem s_attr {n : Nat} {a : E} {e : Expr} {pos : Pos} (er : ErrD X.K Z n) (hb : attributeBase e valK X.env (eval e X.env) = eval e X.env) (ha : PE X e (tE Z Eo (evE Fs C a))) : PE X (.Attribute e valK pos) (tE Z Eo (evE Fs C (.attr a))) := by
  refine ⟨fun pins s σ H Q I h => ?_⟩
  obtain ⟨p, rfl, sp, z, hz, d⟩ := h
  unfold evE at hz
  refine attr_of hb (thn (ha.run pins s σ p.H (fun v H1 => ∃ (c ad dd : Nat) (w : V), v = .ref ad ∧ H1 ad = some (ExV (.ref (Z.ca c)) dd ad) ∧ H1 dd = some (.xd [(valK, w)]) ∧ Q w H1) I ?_) fun u s1 hh => ?_)
  · refine sqE gdE sp hz d fun x m q v h1 via sq rx d1 => ?_
    obtain ⟨b, e1, h1⟩ := ob_some h1
    rw [vl_some h1] at d1
    have rr := rx.r sq.l
    cases x with
    | exc k p0 =>
      cases e1
      obtain ⟨ad, dd, w, rfl, e2, e3, r⟩ := rr.excV
      exact ⟨k, ad, dd, w, rfl, e2, e3, d1.sh sq (.py r)⟩
    | _ => cases e1
  · obtain ⟨v, H1, I1, rv, c, ad, dd, w, rfl, e2, e3, q⟩ := hh
    cases rv
    obtain ⟨oe, od, mA, J, hl, hr⟩ := inst_of I1 e2 e3
    obtain ⟨u, hu, ru⟩ := RelO.some_of (v := w) (o := mA valK) (by have w' := hr valK; exact w')
    have T := er.xf c
    exact HandSPX.exc_get I1.kIn J T.ga T.gg T.exC (PySem.W.findObj_own T.hdC (er.nv c) rfl (by rw [hl, hu])) (handed_of ru) ⟨w, H1, I1.tok _, ru, q⟩
end
end Ev

/-! The errors' own __init__. -/
namespace Ev
open L2 PyProof.Rows PySem PySem.Spec
abbrev inN : List Str := ["self", "value"]
def inSc : Scope := { kind := .function, names := [("self", .local), ("value", .local), ("ValueError", .globalImplicit)], isGenerator := false, isCoroutine := false, more := [] }
def inBody (q : Nat → Pos) : List Stmt := [
  .Expr (.Call (.Attribute (.Name "ValueError" (q 0)) "__init__" (q 1)) [.Name "self" (q 2), .Name "value" (q 3)] [] (q 4)) (q 5),
  .Assign [.Attribute (.Name "self" (q 6)) "value" (q 7)] (.Name "value" (q 8)) (q 9)]
theorem inSc_ok : FnScope inN ["self", "value"] inSc := C8.fnScope_by (by decide)
def spIn (K : PySem.W.Frag) : Sp := fun vs H Q E => ∃ (a Ca : Addr) (v : V), vs = [.ref a, v] ∧ OexC K Ca ∧ PySem.W.findIn K (.ref Ca) valK = some none ∧ H a = some (exo a Ca none) ∧ ∀ dx, H dx = none → dx ≠ a → Q .non (upd (upd H dx (exd dx [(valK, v)])) a (exo a Ca (some dx)))
/-- where the text's call stands (closed for a given text) -/
def InPos (q : Nat → Pos) : Prop := ∀ env : Env, eval (.Call (.Attribute (.Name "ValueError" (q 0)) "__init__" (q 1)) [.Name "self" (q 2), .Name "value" (q 3)] [] (q 4)) env = (do
  let ov ← eval (.Name "ValueError" (q 0)) env
  standAt (q 1).atName
  let (f, first) ← holding [ov] (getMethod ov "__init__" (do return (← importBound (.Name "ValueError" (q 0)) env).getD true))
  callWith (q 4) f first (backTo (q 4) (starEach [.Name "self" (q 2), .Name "value" (q 3)] env)) (backToKw (q 4) (keywordEach [] env)))
example : InPos (fun n => [⟨14, 8, 14, 18⟩, ⟨14, 8, 14, 27⟩, ⟨14, 28, 14, 32⟩, ⟨14, 34, 14, 39⟩, ⟨14, 8, 14, 40⟩].getD n ⟨0, 0, 0, 0⟩) := fun _ => rfl
section
variable {P : Program} {w : World} {K : PySem.W.Frag} {mg : Str → Option Value} {base : Heap}
theorem init_ok {f : Addr} {fd : FuncData} {params : Arguments} {q : Nat → Pos} {x qual : Str} {k : Nat} (F : FunD K x qual params (inBody q) inSc [] [] f fd) (hq : InPos q) (mV : mg "ValueError" = none)
    (vV : PySem.W.findCls K (.type "ValueError") (.type "type") "__init__" = some (.val (.builtin "ValueError.__init__"))) : FnOk P w K mg base (L2.CX P w) (k + 1) f fd ["self", "value"] (spIn K) := by
  refine FunD.ok F inSc_ok (fun vs H Q E h => ?_) fun cdv A outer s H vs Q E hr h => ?_
  · obtain ⟨a, Ca, v, rfl, _⟩ := h
    rfl
  · obtain ⟨a, Ca, v, rfl, T, nv, ha, go⟩ := h
    have n0 : (cxOf (L2.CX P w) P w K mg base inN qual inSc f cdv A outer s H E).N[0]? = some ("self" : Str) := rfl
    have n1 : (cxOf (L2.CX P w) P w K mg base inN qual inSc f cdv A outer s H E).N[1]? = some ("value" : Str) := rfl
    refine ⟨_, pss_cons (ps_expr (pe_veinit (X := cxOf (L2.CX P w) P w K mg base inN qual inSc f cdv A outer s H E) rfl mV vV (pa_cons (pe_var n0 (.inl rfl)) (pa_cons (pe_var n1 (.inl rfl)) pa_nil)) (hq _))) (pss_one (ps_ost (pe_var n0 (.inl rfl)) (pe_var n1 (.inl rfl)))), ?_⟩
    exact ⟨.ref a, rfl, v, rfl, a, Ca, [v], rfl, (show 1 ≤ 1000 by decide), T, ha, v, rfl, .ref a, rfl, a, Ca, rfl, T, nv, .inl ⟨ha, go⟩⟩
/-- a class of errors that inherits this __init__ -/
theorem raz_of {fI Ca : Addr} {fd : FuncData} {params : Arguments} {q : Nat → Pos} {x qual : Str} {k : Nat} (F : FunD K x qual params (inBody q) inSc [] [] fI fd) (hb : Binds K fd ["self", "value"] []) (hq : InPos q) (mV : mg "ValueError" = none)
    (vV : PySem.W.findCls K (.type "ValueError") (.type "type") "__init__" = some (.val (.builtin "ValueError.__init__"))) (T : OexC K Ca) (nv : PySem.W.findIn K (.ref Ca) valK = some none)
    (iC : PySem.W.findIn K (.ref Ca) "__init__" = some (some (.ref fI))) (tI : PySem.W.typeIn K (.ref fI) = some (.type "function")) : Raz P w K mg base Ca (k + 1) :=
  ⟨T, nv, fI, fd, _, _, iC, tI, init_ok F hq mV vV, hb, fun a v H Q E ha go => ⟨a, Ca, v, rfl, T, nv, ha, go⟩⟩
end
end Ev

/-! A block's place; the check of terms. -/
namespace Ev
open L2 PyProof.Rows PySem PySem.Spec
abbrev Gam.inL (Γ : Gam) (sc : Scope) : Gam := { Γ with sc := sc, lv := Γ.lv - 2, lam := false }
abbrev Gam.at (Γ : Gam) (sc : Scope) : Gam := { Γ with sc := sc, lam := false }
section
variable {X : Cx} {Z : Zt} {Γ : Gam} {Fs : List Fn} {C : Nv → Clo} {Eo : XK}
theorem look_rel {env : Env} {x : Str} : ∀ {names : List (Str × NameKind)}, (names.map fun (n, k) => if (k == .free && env.scope.kind == .function && env.kindOf n == some .cell) then (n, NameKind.cell) else (n, k)).lookup x = (names.lookup x).map fun k => if (k == .free && env.scope.kind == .function && env.kindOf x == some .cell) = true then NameKind.cell else k
  | [] => rfl
  | (n, k) :: r => by
    have ih := look_rel (env := env) (x := x) (names := r)
    rw [List.map_cons]
    by_cases h : x = n
    · subst h
      by_cases c : (k == .free && env.scope.kind == .function && env.kindOf x == some .cell) = true
      · simp only [c, if_true, List.lookup_cons, beq_self_eq_true, Option.map_some]
      · simp only [c, if_false, List.lookup_cons, beq_self_eq_true, Option.map_some, Bool.false_eq_true]
    · have hb : (x == n) = false := by simp [h]
      by_cases c : (k == .free && env.scope.kind == .function && env.kindOf n == some .cell) = true
      · simp only [c, if_true, List.lookup_cons, hb]
        exact ih
      · simp only [c, if_false, List.lookup_cons, hb, Bool.false_eq_true]
        exact ih
theorem XOk.blk (ok : XOk X Z Γ Fs Eo) {scope : Scope} (hk : scope.kind = .function) (s : Shared) (H : Hp) (Ca : Addr) (cl : List (Str × Addr)) (fp : List Addr) : XOk (X.blk s H scope (compEnvC scope cl Ca X.env) fp) Z (Γ.at scope) Fs noX := by
  have lk : ∀ x, (compEnvC scope cl Ca X.env).scope.names.lookup x = (scope.names.lookup x).map fun k => if (k == .free && X.env.scope.kind == .function && X.env.kindOf x == some .cell) = true then NameKind.cell else k := fun x => look_rel
  have keep : ∀ x k, scope.names.lookup x = some k → k ≠ .free → (compEnvC scope cl Ca X.env).scope.names.lookup x = some k := fun x k h n => by
    rw [lk, h]
    have hb : (k == NameKind.free) = false := by simp [n]
    rw [Option.map_some, hb]
    rfl
  have fre : ∀ x, scope.names.lookup x = some .free → (compEnvC scope cl Ca X.env).scope.names.lookup x = some .cell ∨ (compEnvC scope cl Ca X.env).scope.names.lookup x = some .free := fun x h => by
    rw [lk, h, Option.map_some]
    split
    · exact .inl rfl
    · exact .inr rfl
  refine ⟨ok.hK, ok.calm, ok.hh, ok.hu, ok.hg, ok.hN, ok.nd, fun x h => ?_, fun x h => ?_, ?_, fun x h => ?_, ok.fl, fun x k h hk => ?_, fun x h => ?_, ok.gv, ok.room, ok.fns, pass_no, (fun h => nomatch h), ok.er⟩
  · unfold visB at h
    simp only [Bool.or_eq_true, beq_iff_eq] at h
    rcases h with (h | h) | h
    · exact .inl (keep x _ h (by simp))
    · exact .inr (.inl (keep x _ h (by simp)))
    · exact .inr (fre x h)
  · rcases h with h | h
    · exact ⟨.inl (keep x _ h (by simp)), .inr (keep x _ h (by simp))⟩
    · exact ⟨.inr (keep x _ h (by simp)), .inl (by show (scope.names.lookup x == some NameKind.cell) = true; have h : scope.names.lookup x = some .cell := h; rw [h]; rfl)⟩
  · show (if (relabel scope X.env).kind.isAnnotationScope then ScopeKind.function else (relabel scope X.env).kind) = .function
    have e : (relabel scope X.env).kind = .function := hk
    rw [e]
    rfl
  · rcases h with h | h
    · exact .inl (keep x _ h (by simp))
    · exact fre x h
  · rcases hk with rfl | rfl
    · exact keep x _ h (by simp)
    · exact keep x _ h (by simp)
  · exact keep x _ h (by simp)
theorem blk_of (ok : XOk X Z Γ Fs Eo) {scope : Scope} {own : List (Str × Nat)} (h : BlkOk Γ.N Γ.sc scope own) : BlkOk X.N X.env.scope scope own := by
  rw [ok.hN]
  exact ⟨h.kind, h.uniq, h.ix, fun y hy e => ok.fr _ (h.free y hy e), h.own⟩
theorem lamS_of (ok : XOk X Z Γ Fs Eo) {scope : Scope} (h : LamX.lamSB Γ.sc scope = true) : LamX.LamS X.env.scope scope := by
  have L := LamX.lamS_by h
  exact ⟨L.kind, L.co, L.gen, L.own, fun y hy e => ok.fr _ (L.free y hy e)⟩
/-- inside a lambda -/
theorem XOk.lam (ok : XOk X Z Γ Fs Eo) {scope : Scope} (L : LamX.LamS X.env.scope scope) {A : Around} {outer : List Env} {s : Shared} {H : Hp} {E : XK} {f c' : Addr} (hr : Room (Γ.lv - 2) (A.deeper (LamX.lamEnv X scope s.heap.objs.size f c'))) (hg : A.guards = some []) :
    XOk (LamX.lamCx X A outer s H E scope f c') Z (Γ.inL scope) Fs E := by
  have own : ∀ x k, scope.names.lookup x = some k → k = .local ∨ k = .cell → False := fun x k h hk => by
    have w := L.own _ (PySem.mem_of_lookup h)
    rcases hk with hk | hk
    · exact w.1 hk
    · exact w.2 hk
  refine ⟨ok.hK, rfl, hr.hd, by have := hr.un; show (A.deeper _).units + 70 < cLine; omega, hg, ok.hN, ok.nd, fun x h => ?_, fun x h => ?_, ?_, fun x h => ?_, ok.fl, fun x k h hk => (own x k h hk).elim, fun x h => h, ok.gv, hr, ok.fns, ?_, (fun h => nomatch h), ok.er⟩
  · unfold visB at h
    simp only [Bool.or_eq_true, beq_iff_eq] at h
    rcases h with (h | h) | h
    · exact .inl h
    · exact .inr (.inl h)
    · exact .inr (.inr h)
  · rcases h with h | h
    · exact (own x _ h (.inl rfl)).elim
    · exact (own x _ h (.inr rfl)).elim
  · show (if scope.kind.isAnnotationScope then ScopeKind.function else scope.kind) = .function
    rw [L.kind]
    rfl
  · exact h
  · exact passes_call (takes_of (E := E) rfl rfl rfl rfl) fun _ _ _ _ h => h
end
/-! ### the check -/
/-- a test that is looked at by its value -/
def plainT : Expr → Bool
  | .Name _ _ => true
  | .Call _ _ _ _ => true
  | .Subscript _ _ _ => true
  | .BinOp _ _ _ _ => true
  | .Tuple _ _ _ => true
  | .List _ _ => true
  | _ => false
mutual
def tstOk : Expr → Bool
  | .BoolOp _ es _ => tstAll es
  | .UnaryOp .Not e _ => tstOk e
  | .Compare _ _ _ _ => true
  | e => plainT e
def tstAll : List Expr → Bool
  | [] => true
  | e :: es => tstOk e && tstAll es
end
def noSetI : Expr → Bool
  | .Set _ _ _ => false
  | _ => true
theorem noSetI_ok {e : Expr} {env : Env} (h : noSetI e = true) : ∀ x, foldedSetIterable e env x = pure x := by
  cases e <;> first | (intro x; rfl) | cases h
def tupTg : Expr → Bool
  | .Tuple _ _ _ => true
  | _ => false
/-- a term whose field is read by its value -/
def nmB : Expr → Bool
  | .Subscript _ _ _ => true
  | .Name _ _ => true
  | _ => false
theorem nmB_ok {e : Expr} {env : Env} {n : Str} (h : nmB e = true) : attributeBase e n env (eval e env) = eval e env := by
  cases e <;> first | rfl | cases h
mutual
def ckE (Γ : Gam) : E → Expr → Bool
  | .no, _ => false
  | .lit p, e => litOk p e
  | .gli x i, e => (match e with
    | .Name y _ => decide (x = y) && glB Γ x (.int i)
    | _ => false)
  | .gls x s, e => (match e with
    | .Name y _ => decide (x = y) && glB Γ x (.str s)
    | _ => false)
  | .glf k, e => (match e with
    | .Name y _ => glB Γ y (.fn k)
    | _ => false)
  | .var i, e => (match e with
    | .Name y _ => varOk Γ i y
    | _ => false)
  | .tup es, e => (match e with
    | .Tuple as _ _ => ckL Γ es as
    | _ => false)
  | .lst es, e => (match e with
    | .List as _ => ckL Γ es as
    | _ => false)
  | .cell es, e => (match e with
    | .List as _ => ckL Γ es as
    | _ => false)
  | .bin o a b, e => (match e with
    | .BinOp x op y _ => decide (op = opE o) && ckE Γ a x && ckE Γ b y
    | _ => false)
  | .neg a, e => (match e with
    | .UnaryOp .USub x _ => ckE Γ a x
    | _ => false)
  | .not a, e => (match e with
    | .UnaryOp .Not x _ => ckE Γ a x
    | _ => false)
  | .bop k es, e => (match e with
    | .BoolOp o as _ => decide (o = if k = true then BoolOp.And else BoolOp.Or) && ckB Γ es as
    | _ => false)
  | .cmp a os es, e => (match e with
    | .Compare x ops as _ => ckE Γ a x && ckC Γ os es ops as
    | _ => false)
  | .ite c a b, e => (match e with
    | .IfExp t x y _ => tstOk t && ckE Γ c t && ckE Γ a x && ckE Γ b y
    | _ => false)
  | .ix a b, e => (match e with
    | .Subscript x y _ => noSlice y && ckE Γ a x && ckE Γ b y
    | _ => false)
  | .slc a lo hi, e => (match e with
    | .Subscript x (.Slice l h none _) _ => ckE Γ a x && (match l with
      | none => isNo lo
      | some y => !isNo lo && ckE Γ lo y) && (match h with
      | none => isNo hi
      | some y => !isNo hi && ckE Γ hi y)
    | _ => false)
  | .rev a, e => (match e with
    | .Subscript x (.Slice none none (some (.UnaryOp .USub (.Constant (.int 1) _ _) _)) _) _ => ckE Γ a x
    | _ => false)
  | .call k es, e => (match e with
    | .Call (.Name f _) (x :: xs) [] _ => glB Γ f (.fn k) && lvB Γ k && unst x && xs.all unst && ckL Γ es (x :: xs)
    | _ => false)
  | .bi b es, e => (match e with
    | .Call (.Name f _) (x :: xs) [] _ => decide (f = biN b) && glB Γ (biN b) .free && unst x && xs.all unst && ckL Γ es (x :: xs)
    | _ => false)
  | .attr a, e => (match e with
    | .Attribute x f _ => decide (f = valK) && decide (0 < Γ.nc) && nmB x && ckE Γ a x
    | _ => false)
  | .isi (.exc c) a, e => (match e with
    | .Call (.Name f _) [x, .Name g _] [] _ => decide (f = "isinstance") && decide (c < Γ.nc) && glB Γ "isinstance" .free && glB Γ g (.cls c) && unst x && ckE Γ a x
    | _ => false)
  | .isi .verr a, e => (match e with
    | .Call (.Name f _) [x, .Name g _] [] _ => decide (f = "isinstance") && decide (g = "ValueError") && decide (0 < Γ.nc) && glB Γ "isinstance" .free && glB Γ "ValueError" .free && unst x && ckE Γ a x
    | _ => false)
  | .isi t a, e => (match e, tyS t with
    | .Call (.Name f _) [x, .Name g _] [] _, some s => decide (f = "isinstance") && decide (g = tyB s) && glB Γ "isinstance" .free && glB Γ (tyB s) .free && unst x && ckE Γ a x
    | _, _ => false)
  | .comp own t src cond elt, e => (match e with
    | .ListComp x [⟨tg, it, ifs, as⟩] sc _ => decide (as = 0) && noSetI it && ckSrc Γ src tg it && blkC Γ.N Γ.sc sc own && (slotsT t).all (fun j => (own.map (·.2)).contains j) && ckT (Γ.at sc) t tg && (match ifs with
      | [] => isNo cond
      | [c] => !isNo cond && tstOk c && ckE (Γ.at sc) cond c
      | _ => false) && ckE (Γ.at sc) elt x
    | _ => false)
  | .lsrc src, e => (match src, e with
    | .rng1 b, .Call (.Name f _) [.Call (.Name g _) [y] [] _] [] _ => decide (f = "list") && decide (g = "range") && glB Γ "list" .free && glB Γ "range" .free && unst y && ckE Γ b y
    | .rng2 a b, .Call (.Name f _) [.Call (.Name g _) [x, y] [] _] [] _ => decide (f = "list") && decide (g = "range") && glB Γ "list" .free && glB Γ "range" .free && unst x && unst y && ckE Γ a x && ckE Γ b y
    | _, _ => false)
  | .cv ks f es, e => (match f, e with
    | .var i, .Call (.Name x _) (y :: ys) [] _ => ks.all (lvB Γ) && varOk Γ i x && unst y && ys.all unst && ckL Γ es (y :: ys)
    | _, _ => false)
  | .hearL a, e => (match e with
    | .Call (.Name f _) [.Lambda ⟨[], [], none, [], [], none, []⟩ body sc _] [] _ => decide (f = "_law_heard") && Γ.lam && decide (2 ≤ Γ.lv) && decide (Γ.sc.names.lookup ("_law_heard" : Str) = some .globalImplicit) && LamX.lamSB Γ.sc sc && ckE (Γ.inL sc) a body
    | _ => false)
  | _, _ => false
def ckL (Γ : Gam) : Es → List Expr → Bool
  | .nil, as => as.isEmpty
  | .cons s a es, as => (match as with
    | x :: xs => (if s = true then (match x with
        | .Starred y _ => ckE Γ a y
        | _ => false) else unst x && ckE Γ a x) && ckL Γ es xs
    | [] => false)
def ckB (Γ : Gam) : Es → List Expr → Bool
  | .nil, _ => false
  | .cons _ a es, as => (match es, as with
    | .nil, [x] => ckE Γ a x
    | .cons s b es, x :: y :: ys => ckE Γ a x && ckB Γ (.cons s b es) (y :: ys)
    | _, _ => false)
def ckC (Γ : Gam) (os : List Cm) : Es → List CmpOp → List Expr → Bool
  | .cons _ a es, ops, as => (match os, es, ops, as with
    | [o], .nil, [op], [x] => decide (op = cmE o) && noSet x && ckE Γ a x
    | [o, o'], .cons _ b .nil, [op, op'], [x, y] => decide (op = cmE o) && decide (op' = cmE o') && noSet y && ckE Γ a x && ckE Γ b y
    | _, _, _, _ => false)
  | .nil, _, _ => false
def ckSrc (Γ : Gam) : Src → Expr → Expr → Bool
  | .it a, _, e => ckE Γ a e
  | .rng1 b, _, e => (match e with
    | .Call (.Name f _) [y] [] _ => decide (f = "range") && glB Γ "range" .free && unst y && ckE Γ b y
    | _ => false)
  | .rng2 a b, _, e => (match e with
    | .Call (.Name f _) [x, y] [] _ => decide (f = "range") && glB Γ "range" .free && unst x && unst y && ckE Γ a x && ckE Γ b y
    | _ => false)
  | .rng3 a b c, _, e => (match e with
    | .Call (.Name f _) [x, y, z] [] _ => decide (f = "range") && glB Γ "range" .free && unst x && unst y && unst z && ckE Γ a x && ckE Γ b y && ckE Γ c z
    | _ => false)
  | .enu a, tg, e => (match tg, e with
    | .Tuple _ _ _, .Call (.Name f _) [x] [] _ => decide (f = "enumerate") && glB Γ "enumerate" .free && unst x && ckE Γ a x
    | _, _ => false)
  | .zip a b, tg, e => (match tg, e with
    | .Tuple _ _ _, .Call (.Name f _) [x, y] [] _ => decide (f = "zip") && glB Γ "zip" .free && unst x && unst y && ckE Γ a x && ckE Γ b y
    | _, _ => false)
end
end Ev

/-! Checked terms keep the evaluator's word. -/
namespace Ev
open L2 PyProof.Rows PySem PySem.Spec
section
variable {X : Cx} {Z : Zt} {Γ : Gam} {Fs : List Fn} {C : Nv → Clo} {Eo : XK}
theorem ba2 {a b : Bool} (h : (a && b) = true) : a = true ∧ b = true := Bool.and_eq_true_iff.mp h
theorem plain_is {e : Expr} {env : Env} (h : plainT e = true) : ∀ whole, isTrue e env whole = (do let v ← whole; standAt e.pos; holding [v] (truthy v)) := by
  cases e <;> first | (intro w; rfl) | cases h
/-- a term that is looked at by its value alone -/
theorem tst_val (hK : X.K = Z.K) {e : Expr} {f : Nv → Mem → RE} (he : PE X e (tE Z Eo f)) (hp : plainT e = true) : PT X e (tT Z Eo f) := pt_of hK he (plain_is hp)
theorem def_at (ok : XOk X Z Γ Fs Eo) {k : Nat} (h : lvB Γ k = true) : ∃ f, Fs[k]? = some f := by
  unfold lvB at h
  split at h
  · rename_i l e
    have h1 := (List.getElem?_eq_some_iff.mp e).1
    have h2 := ok.fl
    exact ⟨Fs[k]'(by omega), List.getElem?_eq_getElem (by omega)⟩
  · cases h
theorem litOk_tst {p : PyData} {e : Expr} (h : litOk p e = true) (ht : tstOk e = true) : False := by
  cases e <;> first
    | (cases p <;> cases h; done)
    | (cases ht; done)
theorem tIfs (hK : X.K = Z.K) : PTs X [] (tT Z Eo (evE Fs C .no)) := ⟨fun pins s σ H Q I q => pts_nil.run pins s σ H Q I (by
  obtain ⟨p, rfl, sp, r, hr, d⟩ := q
  unfold evE at hr
  rw [vl_some hr] at d
  obtain ⟨b, e, d⟩ := d
  have e : some true = some b := e
  cases e
  exact d p rfl rfl Via.refl sp)⟩
theorem opE_inj {o : Op2} {op : Operator} (h : op = opE o) : op = opE o := h
end
section
variable {Z : Zt} {Fs : List Fn} {C : Nv → Clo}
mutual
theorem sE : ∀ (a : E) {X : Cx} {Γ : Gam} {Eo : XK}, XOk X Z Γ Fs Eo → ∀ (e : Expr), ckE Γ a e = true → PE X e (tE Z Eo (evE Fs C a)) ∧ (tstOk e = true → PT X e (tT Z Eo (evE Fs C a)))
  | .no, _, _, _, ok, e, h => by unfold ckE at h; cases h
  | .lit p, _, _, _, ok, e, h => by
    unfold ckE at h
    exact ⟨s_lit h, fun ht => (litOk_tst h ht).elim⟩
  | .gli x i, X, Γ, Eo, ok, e, h => by
    unfold ckE at h
    split at h
    · rename_i y pos
      obtain ⟨h1, h2⟩ := ba2 h
      cases of_decide_eq_true h1
      have w := s_gli (pos := pos) (C := C) ok h2
      exact ⟨w, fun ht => tst_val ok.hK w rfl⟩
    · cases h
  | .gls x s, X, Γ, Eo, ok, e, h => by
    unfold ckE at h
    split at h
    · rename_i y pos
      obtain ⟨h1, h2⟩ := ba2 h
      cases of_decide_eq_true h1
      have w := s_gls (pos := pos) (C := C) ok h2
      exact ⟨w, fun ht => tst_val ok.hK w rfl⟩
    · cases h
  | .glf k, X, Γ, Eo, ok, e, h => by
    unfold ckE at h
    split at h
    · rename_i y pos
      have w := s_glf (pos := pos) (C := C) ok h
      exact ⟨w, fun ht => tst_val ok.hK w rfl⟩
    · cases h
  | .var i, X, Γ, Eo, ok, e, h => by
    unfold ckE at h
    split at h
    · rename_i y pos
      have w := s_var (pos := pos) (Fs := Fs) (C := C) ok h
      exact ⟨w, fun ht => tst_val ok.hK w rfl⟩
    · cases h
  | .tup es, X, Γ, Eo, ok, e, h => by
    unfold ckE at h
    split at h
    · rename_i as k pos
      have w := s_tup (k := k) (pos := pos) (sL es ok _ h)
      exact ⟨w, fun ht => tst_val ok.hK w rfl⟩
    · cases h
  | .lst es, X, Γ, Eo, ok, e, h => by
    unfold ckE at h
    split at h
    · rename_i as pos
      have w := s_lst (pos := pos) (sL es ok _ h)
      exact ⟨w, fun ht => tst_val ok.hK w rfl⟩
    · cases h
  | .cell es, X, Γ, Eo, ok, e, h => by
    unfold ckE at h
    split at h
    · rename_i as pos
      have w := s_cell (pos := pos) (sL es ok _ h)
      exact ⟨w, fun ht => tst_val ok.hK w rfl⟩
    · cases h
  | .bin o a b, X, Γ, Eo, ok, e, h => by
    unfold ckE at h
    split at h
    · rename_i x op y pos
      obtain ⟨h1, h3⟩ := ba2 h
      obtain ⟨h1, h2⟩ := ba2 h1
      cases of_decide_eq_true h1
      obtain ⟨r, o1, o2⟩ := s_op2 X Z o
      have w := s_bin (Eo := Eo) (pos := pos) o1 o2 (sE a ok _ h2).1 (sE b ok _ h3).1
      exact ⟨w, fun ht => tst_val ok.hK w rfl⟩
    · cases h
  | .neg a, X, Γ, Eo, ok, e, h => by
    unfold ckE at h
    split at h
    · exact ⟨s_neg (sE a ok _ h).1, fun ht => by cases ht⟩
    · cases h
  | .not a, X, Γ, Eo, ok, e, h => by
    unfold ckE at h
    split at h
    · exact ⟨s_not ok.hK (sE a ok _ h).1, fun ht => t_not ((sE a ok _ h).2 (by unfold tstOk at ht; exact ht))⟩
    · cases h
  | .bop k es, X, Γ, Eo, ok, e, h => by
    unfold ckE at h
    split at h
    · rename_i o as pos
      obtain ⟨h1, h2⟩ := ba2 h
      have e1 := of_decide_eq_true h1
      have hk : (k = true ∧ o = BoolOp.And) ∨ (k = false ∧ o = BoolOp.Or) := by
        cases k with
        | true => exact .inl ⟨rfl, e1⟩
        | false => exact .inr ⟨rfl, e1⟩
      obtain ⟨w1, w2⟩ := sB es ok k _ hk _ _ h2
      have e0 : evE Fs C (.bop k es) = evB Fs C k es := by
        funext ρ M
        unfold evE
        rfl
      rw [e0]
      refine ⟨?_, fun ht => ?_⟩
      · exact w1
      · exact (w2 (by unfold tstOk at ht; exact ht)).pt
    · cases h
  | .cmp a os es, X, Γ, Eo, ok, e, h => by
    unfold ckE at h
    split at h
    · obtain ⟨h1, h2⟩ := ba2 h
      exact sC es a os ok _ (sE a ok _ h1).1 _ _ _ h2
    · cases h
  | .ite c a b, X, Γ, Eo, ok, e, h => by
    unfold ckE at h
    split at h
    · obtain ⟨h1, h4⟩ := ba2 h
      obtain ⟨h1, h3⟩ := ba2 h1
      obtain ⟨h1, h2⟩ := ba2 h1
      exact ⟨s_ite ((sE c ok _ h2).2 h1) (sE a ok _ h3).1 (sE b ok _ h4).1, fun ht => by cases ht⟩
    · cases h
  | .ix a b, X, Γ, Eo, ok, e, h => by
    unfold ckE at h
    split at h
    · rename_i x y pos
      obtain ⟨h1, h3⟩ := ba2 h
      obtain ⟨h1, h2⟩ := ba2 h1
      have w := s_ix (pos := pos) ok.hK h1 (sE a ok _ h2).1 (sE b ok _ h3).1
      exact ⟨w, fun ht => tst_val ok.hK w rfl⟩
    · cases h
  | .slc a lo hi, X, Γ, Eo, ok, e, h => by
    unfold ckE at h
    split at h
    · rename_i x l hh p2 pos
      obtain ⟨h1, h3⟩ := ba2 h
      obtain ⟨h1, h2⟩ := ba2 h1
      have k1 : isNo lo = l.isNone ∧ ∀ y, l = some y → PE X y (tE Z Eo (evE Fs C lo)) := by
        cases l with
        | none => exact ⟨h2, fun y e => by cases e⟩
        | some y =>
          obtain ⟨g1, g2⟩ := ba2 h2
          exact ⟨by simpa using g1, fun y' e => by cases e; exact (sE lo ok _ g2).1⟩
      have k2 : isNo hi = hh.isNone ∧ ∀ y, hh = some y → PE X y (tE Z Eo (evE Fs C hi)) := by
        cases hh with
        | none => exact ⟨h3, fun y e => by cases e⟩
        | some y =>
          obtain ⟨g1, g2⟩ := ba2 h3
          exact ⟨by simpa using g1, fun y' e => by cases e; exact (sE hi ok _ g2).1⟩
      have w := s_slc (pos := pos) (p2 := p2) ok.hK k1.1 k2.1 (sE a ok _ h1).1 k1.2 k2.2
      exact ⟨w, fun ht => tst_val ok.hK w rfl⟩
    · cases h
  | .rev a, X, Γ, Eo, ok, e, h => by
    unfold ckE at h
    split at h
    · rename_i x k p1 p2 p3 pos
      have w := s_rev (k := k) (p1 := p1) (p2 := p2) (p3 := p3) (pos := pos) ok.hK (sE a ok _ h).1
      exact ⟨w, fun ht => tst_val ok.hK w rfl⟩
    · cases h
  | .call k es, X, Γ, Eo, ok, e, h => by
    unfold ckE at h
    split at h
    · rename_i f p x xs pos
      obtain ⟨h1, h5⟩ := ba2 h
      obtain ⟨h1, h4⟩ := ba2 h1
      obtain ⟨h1, h3⟩ := ba2 h1
      obtain ⟨h1, h2⟩ := ba2 h1
      obtain ⟨f, hf⟩ := def_at ok h2
      have w := s_call (p := p) (pos := pos) ok hf h2 h1 h3 h4 (sL es ok _ h5)
      exact ⟨w, fun ht => tst_val ok.hK w rfl⟩
    · cases h
  | .bi b es, X, Γ, Eo, ok, e, h => by
    unfold ckE at h
    split at h
    · rename_i f p x xs pos
      obtain ⟨h1, h5⟩ := ba2 h
      obtain ⟨h1, h4⟩ := ba2 h1
      obtain ⟨h1, h3⟩ := ba2 h1
      obtain ⟨h1, h2⟩ := ba2 h1
      cases of_decide_eq_true h1
      have w := s_biC (p := p) (pos := pos) ok h2 h3 h4 (sL es ok _ h5)
      exact ⟨w, fun ht => tst_val ok.hK w rfl⟩
    · cases h
  | .isi (.exc c) a, X, Γ, Eo, ok, e, h => by
    unfold ckE at h
    split at h
    · rename_i f p x g p2 pos
      obtain ⟨h1, h6⟩ := ba2 h
      obtain ⟨h1, h5⟩ := ba2 h1
      obtain ⟨h1, h4⟩ := ba2 h1
      obtain ⟨h1, h3⟩ := ba2 h1
      obtain ⟨h1, h2⟩ := ba2 h1
      have e1 := of_decide_eq_true h1
      subst e1
      have lt := of_decide_eq_true h2
      have w := s_isE (p := p) (p2 := p2) (pos := pos) ok (ok.er (Nat.lt_of_le_of_lt (Nat.zero_le _) lt)) lt h3 h4 h5 (sE a ok _ h6).1
      exact ⟨w, fun ht => tst_val ok.hK w rfl⟩
    · cases h
  | .isi .verr a, X, Γ, Eo, ok, e, h => by
    unfold ckE at h
    split at h
    · rename_i f p x g p2 pos
      obtain ⟨h1, h7⟩ := ba2 h
      obtain ⟨h1, h6⟩ := ba2 h1
      obtain ⟨h1, h5⟩ := ba2 h1
      obtain ⟨h1, h4⟩ := ba2 h1
      obtain ⟨h1, h3⟩ := ba2 h1
      obtain ⟨h1, h2⟩ := ba2 h1
      have e1 := of_decide_eq_true h1
      subst e1
      have e2 := of_decide_eq_true h2
      subst e2
      have w := s_isV (p := p) (p2 := p2) (pos := pos) ok (ok.er (of_decide_eq_true h3)) h4 h5 h6 (sE a ok _ h7).1
      exact ⟨w, fun ht => tst_val ok.hK w rfl⟩
    · cases h
  | .isi .tup a, X, Γ, Eo, ok, e, h => by
    unfold ckE at h
    split at h
    · rename_i f p x g p2 pos s hs
      obtain ⟨h1, h6⟩ := ba2 h
      obtain ⟨h1, h5⟩ := ba2 h1
      obtain ⟨h1, h4⟩ := ba2 h1
      obtain ⟨h1, h3⟩ := ba2 h1
      obtain ⟨h1, h2⟩ := ba2 h1
      cases of_decide_eq_true h1
      cases of_decide_eq_true h2
      have w := s_isi (p := p) (p2 := p2) (pos := pos) ok hs h3 h4 h5 (sE a ok _ h6).1
      exact ⟨w, fun ht => tst_val ok.hK w rfl⟩
    · cases h
  | .isi .int a, X, Γ, Eo, ok, e, h => by
    unfold ckE at h
    split at h
    · rename_i f p x g p2 pos s hs
      obtain ⟨h1, h6⟩ := ba2 h
      obtain ⟨h1, h5⟩ := ba2 h1
      obtain ⟨h1, h4⟩ := ba2 h1
      obtain ⟨h1, h3⟩ := ba2 h1
      obtain ⟨h1, h2⟩ := ba2 h1
      cases of_decide_eq_true h1
      cases of_decide_eq_true h2
      have w := s_isi (p := p) (p2 := p2) (pos := pos) ok hs h3 h4 h5 (sE a ok _ h6).1
      exact ⟨w, fun ht => tst_val ok.hK w rfl⟩
    · cases h
  | .isi .bool a, X, Γ, Eo, ok, e, h => by
    unfold ckE at h
    split at h
    · rename_i f p x g p2 pos s hs
      obtain ⟨h1, h6⟩ := ba2 h
      obtain ⟨h1, h5⟩ := ba2 h1
      obtain ⟨h1, h4⟩ := ba2 h1
      obtain ⟨h1, h3⟩ := ba2 h1
      obtain ⟨h1, h2⟩ := ba2 h1
      cases of_decide_eq_true h1
      cases of_decide_eq_true h2
      have w := s_isi (p := p) (p2 := p2) (pos := pos) ok hs h3 h4 h5 (sE a ok _ h6).1
      exact ⟨w, fun ht => tst_val ok.hK w rfl⟩
    · cases h
  | .isi .str a, X, Γ, Eo, ok, e, h => by
    unfold ckE at h
    split at h
    · rename_i f p x g p2 pos s hs
      obtain ⟨h1, h6⟩ := ba2 h
      obtain ⟨h1, h5⟩ := ba2 h1
      obtain ⟨h1, h4⟩ := ba2 h1
      obtain ⟨h1, h3⟩ := ba2 h1
      obtain ⟨h1, h2⟩ := ba2 h1
      cases of_decide_eq_true h1
      cases of_decide_eq_true h2
      have w := s_isi (p := p) (p2 := p2) (pos := pos) ok hs h3 h4 h5 (sE a ok _ h6).1
      exact ⟨w, fun ht => tst_val ok.hK w rfl⟩
    · cases h
  | .isi .lst a, X, Γ, Eo, ok, e, h => by
    unfold ckE at h
    split at h
    · rename_i f p x g p2 pos s hs
      obtain ⟨h1, h6⟩ := ba2 h
      obtain ⟨h1, h5⟩ := ba2 h1
      obtain ⟨h1, h4⟩ := ba2 h1
      obtain ⟨h1, h3⟩ := ba2 h1
      obtain ⟨h1, h2⟩ := ba2 h1
      cases of_decide_eq_true h1
      cases of_decide_eq_true h2
      have w := s_isi (p := p) (p2 := p2) (pos := pos) ok hs h3 h4 h5 (sE a ok _ h6).1
      exact ⟨w, fun ht => tst_val ok.hK w rfl⟩
    · cases h
  | .hearL a, X, Γ, Eo, ok, e, h => by
    unfold ckE at h
    split at h
    · rename_i f p body sc lpos pos
      obtain ⟨h1, h6⟩ := ba2 h
      obtain ⟨h1, h5⟩ := ba2 h1
      obtain ⟨h1, h4⟩ := ba2 h1
      obtain ⟨h1, h3⟩ := ba2 h1
      obtain ⟨h1, h2⟩ := ba2 h1
      have e1 := of_decide_eq_true h1
      subst e1
      have L := lamS_of ok h5
      obtain ⟨hd, c, P, TB, hc, hm, hu⟩ := ok.lm h2
      have hr : Room ((Γ.lv - 2) + 2) X.A := by
        have h3 := of_decide_eq_true h3
        have e : Γ.lv - 2 + 2 = Γ.lv := by omega
        rw [e]
        exact ok.room
      have w := s_hearL (params := ⟨[], [], none, [], [], none, []⟩) (C := C) (Fs := Fs) (Eo := Eo) (a := a) (p := p) (lpos := lpos) (pos := pos) hd (ok.gl _ (of_decide_eq_true h4)) ok.hg TB hc hm hu hr L (by rfl) (fun _ _ _ _ _ => by rfl) (fun A outer s H E f c' hr2 hg => (sE a (ok.lam L hr2 hg) _ h6).1)
      exact ⟨w, fun ht => tst_val ok.hK w rfl⟩
    · cases h
  | .comp own t src cond elt, X, Γ, Eo, ok, e, h => by
    unfold ckE at h
    split at h
    · rename_i x tg it ifs as sc pos
      obtain ⟨h1, h8⟩ := ba2 h
      obtain ⟨h1, h7⟩ := ba2 h1
      obtain ⟨h1, h6⟩ := ba2 h1
      obtain ⟨h1, h5⟩ := ba2 h1
      obtain ⟨h1, h4⟩ := ba2 h1
      obtain ⟨h1, h3⟩ := ba2 h1
      obtain ⟨h1, h2⟩ := ba2 h1
      cases of_decide_eq_true h1
      have B := blkOk_by h4
      have okb := fun (s : Shared) (H : Hp) (Ca : Addr) (cl : List (Str × Addr)) (fp : List Addr) => ok.blk B.kind s H Ca cl fp
      have hsl : ∀ j ∈ slotsT t, j ∈ own.map (·.2) := fun j hj => by
        rw [List.all_eq_true] at h5
        exact List.contains_iff_mem.mp (h5 j hj)
      refine ⟨s_comp ok (sSrc src ok tg it h3) (blk_of ok B) hsl (fun s H Ca cl fp => s_tgt (okb s H Ca cl fp) t tg h6) (fun s H Ca cl fp => ?_) (fun s H Ca cl fp => (sE elt (okb s H Ca cl fp) _ h8).1) (noSetI_ok h2), fun ht => by cases ht⟩
      split at h7
      · have e : cond = .no := by
          revert h7
          cases cond <;> intro h <;> first | rfl | cases h
        subst e
        exact tIfs (okb s H Ca cl fp).hK
      · rename_i c
        obtain ⟨g1, g3⟩ := ba2 h7
        obtain ⟨g1, g2⟩ := ba2 g1
        exact pts_one ((sE cond (okb s H Ca cl fp) _ g3).2 g2)
      · cases h7
    · cases h
  | .lsrc src, X, Γ, Eo, ok, e, h => by
    unfold ckE at h
    split at h
    · rename_i b f p2 g p y pos pos2
      obtain ⟨h1, h6⟩ := ba2 h
      obtain ⟨h1, h5⟩ := ba2 h1
      obtain ⟨h1, h4⟩ := ba2 h1
      obtain ⟨h1, h3⟩ := ba2 h1
      obtain ⟨h1, h2⟩ := ba2 h1
      cases of_decide_eq_true h1
      cases of_decide_eq_true h2
      have w := s_lsr1 (p := p) (p2 := p2) (pos := pos) (pos2 := pos2) ok h3 h4 h5 (sE b ok _ h6).1
      exact ⟨w, fun ht => tst_val ok.hK w rfl⟩
    · rename_i a b f p2 g p x y pos pos2
      obtain ⟨h1, h8⟩ := ba2 h
      obtain ⟨h1, h7⟩ := ba2 h1
      obtain ⟨h1, h6⟩ := ba2 h1
      obtain ⟨h1, h5⟩ := ba2 h1
      obtain ⟨h1, h4⟩ := ba2 h1
      obtain ⟨h1, h3⟩ := ba2 h1
      obtain ⟨h1, h2⟩ := ba2 h1
      cases of_decide_eq_true h1
      cases of_decide_eq_true h2
      have w := s_lsr2 (p := p) (p2 := p2) (pos := pos) (pos2 := pos2) ok h3 h4 h5 h6 (sE a ok _ h7).1 (sE b ok _ h8).1
      exact ⟨w, fun ht => tst_val ok.hK w rfl⟩
    · cases h
  | .me m a es, X, Γ, Eo, ok, e, h => by unfold ckE at h; cases h
  | .attr a, X, Γ, Eo, ok, e, h => by
    unfold ckE at h
    split at h
    · rename_i x f pos
      obtain ⟨h1, h4⟩ := ba2 h
      obtain ⟨h1, h3⟩ := ba2 h1
      obtain ⟨h1, h2⟩ := ba2 h1
      have e1 := of_decide_eq_true h1
      subst e1
      exact ⟨s_attr (ok.er (of_decide_eq_true h2)) (nmB_ok h3) (sE a ok _ h4).1, fun ht => nomatch ht⟩
    · cases h
  | .hear a, X, Γ, Eo, ok, e, h => by unfold ckE at h; cases h
  | .cv ks f es, X, Γ, Eo, ok, e, h => by
    unfold ckE at h
    split at h
    · rename_i i x p y ys pos
      obtain ⟨h1, h5⟩ := ba2 h
      obtain ⟨h1, h4⟩ := ba2 h1
      obtain ⟨h1, h3⟩ := ba2 h1
      obtain ⟨h1, h2⟩ := ba2 h1
      have w := s_cv (p := p) (pos := pos) ok h1 h2 h3 h4 (sL es ok _ h5)
      exact ⟨w, fun ht => tst_val ok.hK w rfl⟩
    · cases h
theorem sL : ∀ (es : Es) {X : Cx} {Γ : Gam} {Eo : XK}, XOk X Z Γ Fs Eo → ∀ (as : List Expr), ckL Γ es as = true → PA X as (tL Z Eo (evL Fs C es))
  | .nil, X, Γ, Eo, ok, as, h => by
    unfold ckL at h
    cases as with
    | nil => exact s_nil
    | cons _ _ => cases h
  | .cons s a es, X, Γ, Eo, ok, as, h => by
    unfold ckL at h
    cases as with
    | nil => cases h
    | cons x xs =>
      obtain ⟨h1, h2⟩ := ba2 h
      cases s with
      | false =>
        obtain ⟨g1, g2⟩ := ba2 (show (unst x && ckE Γ a x) = true from h1)
        exact s_cons g1 (sE a ok _ g2).1 (sL es ok _ h2)
      | true =>
        rw [if_pos rfl] at h1
        split at h1
        · exact s_star ok.hK (sE a ok _ h1).1 (sL es ok _ h2)
        · cases h1
theorem sB : ∀ (es : Es) {X : Cx} {Γ : Gam} {Eo : XK}, XOk X Z Γ Fs Eo → ∀ (k : Bool) (o : BoolOp), (k = true ∧ o = .And) ∨ (k = false ∧ o = .Or) → ∀ (as : List Expr) (pos : Pos), ckB Γ es as = true →
    PE X (.BoolOp o as pos) (tE Z Eo (evB Fs C k es)) ∧ (tstAll as = true → PW X (.BoolOp o as pos) (tT Z Eo (evB Fs C k es)))
  | .nil, X, Γ, Eo, ok, k, o, hk, as, pos, h => by unfold ckB at h; cases h
  | .cons s a .nil, X, Γ, Eo, ok, k, o, hk, as, pos, h => by
    unfold ckB at h
    split at h
    · exact ⟨s_bopN (sE a ok _ h).1, fun ht => t_bopN ((sE a ok _ h).2 (by unfold tstAll at ht; exact (ba2 ht).1))⟩
    · contradiction
    · cases h
  | .cons s a (.cons s' b es), X, Γ, Eo, ok, k, o, hk, as, pos, h => by
    unfold ckB at h
    split at h
    · contradiction
    · rename_i e1
      cases e1
      obtain ⟨h1, h2⟩ := ba2 h
      obtain ⟨w1, w2⟩ := sB (.cons s' b es) ok k o hk _ pos h2
      refine ⟨s_bop1 ok.hK hk (sE a ok _ h1).1 w1, fun ht => ?_⟩
      unfold tstAll at ht
      obtain ⟨t1, t2⟩ := ba2 ht
      exact t_bop1 hk ((sE a ok _ h1).2 t1) (w2 t2)
    · cases h
theorem sC : ∀ (es : Es) (a : E) (os : List Cm) {X : Cx} {Γ : Gam} {Eo : XK}, XOk X Z Γ Fs Eo → ∀ (x : Expr), PE X x (tE Z Eo (evE Fs C a)) → ∀ (ops : List CmpOp) (as : List Expr) (pos : Pos), ckC Γ os es ops as = true →
    PE X (.Compare x ops as pos) (tE Z Eo (evE Fs C (.cmp a os es))) ∧ (tstOk (.Compare x ops as pos) = true → PT X (.Compare x ops as pos) (tT Z Eo (evE Fs C (.cmp a os es))))
  | .nil, a, os, X, Γ, Eo, ok, x, hx, ops, as, pos, h => by unfold ckC at h; cases h
  | .cons s b es, a, os, X, Γ, Eo, ok, x, hx, ops, as, pos, h => by
    unfold ckC at h
    split at h
    · obtain ⟨h1, h3⟩ := ba2 h
      obtain ⟨h1, h2⟩ := ba2 h1
      cases of_decide_eq_true h1
      obtain ⟨r, c1, c2⟩ := s_cm X Z ok.hK (by have := ok.hu; omega) _
      exact ⟨s_cmp1 c1 c2 h2 hx (sE b ok _ h3).1, fun _ => t_cmp1 c1 c2 h2 hx (sE b ok _ h3).1⟩
    · obtain ⟨h1, h5⟩ := ba2 h
      obtain ⟨h1, h4⟩ := ba2 h1
      obtain ⟨h1, h3⟩ := ba2 h1
      obtain ⟨h1, h2⟩ := ba2 h1
      cases of_decide_eq_true h1
      cases of_decide_eq_true h2
      obtain ⟨r, c1, c2⟩ := s_cm X Z ok.hK (by have := ok.hu; omega) _
      obtain ⟨r', c1', c2'⟩ := s_cm X Z ok.hK (by have := ok.hu; omega) _
      exact ⟨s_cmp2 c1 c2 c1' c2' h3 hx (sE b ok _ h4).1 (sE _ ok _ h5).1, fun _ => t_cmp2 c1 c2 c1' c2' h3 hx (sE b ok _ h4).1 (sE _ ok _ h5).1⟩
    · cases h
theorem sSrc : ∀ (src : Src) {X : Cx} {Γ : Gam} {Eo : XK}, XOk X Z Γ Fs Eo → ∀ (tg e : Expr), ckSrc Γ src tg e = true → PI X tg e (iS Z Eo (evSrc Fs C src))
  | .it a, X, Γ, Eo, ok, tg, e, h => by
    unfold ckSrc at h
    exact s_srcIt ok.hK (sE a ok _ h).1
  | .rng1 b, X, Γ, Eo, ok, tg, e, h => by
    unfold ckSrc at h
    split at h
    · obtain ⟨h1, h4⟩ := ba2 h
      obtain ⟨h1, h3⟩ := ba2 h1
      obtain ⟨h1, h2⟩ := ba2 h1
      cases of_decide_eq_true h1
      exact s_rng1 ok h2 h3 (sE b ok _ h4).1
    · cases h
  | .rng2 a b, X, Γ, Eo, ok, tg, e, h => by
    unfold ckSrc at h
    split at h
    · obtain ⟨h1, h6⟩ := ba2 h
      obtain ⟨h1, h5⟩ := ba2 h1
      obtain ⟨h1, h4⟩ := ba2 h1
      obtain ⟨h1, h3⟩ := ba2 h1
      obtain ⟨h1, h2⟩ := ba2 h1
      cases of_decide_eq_true h1
      exact s_rng2 ok h2 h3 h4 (sE a ok _ h5).1 (sE b ok _ h6).1
    · cases h
  | .rng3 a b c, X, Γ, Eo, ok, tg, e, h => by
    unfold ckSrc at h
    split at h
    · obtain ⟨h1, h8⟩ := ba2 h
      obtain ⟨h1, h7⟩ := ba2 h1
      obtain ⟨h1, h6⟩ := ba2 h1
      obtain ⟨h1, h5⟩ := ba2 h1
      obtain ⟨h1, h4⟩ := ba2 h1
      obtain ⟨h1, h3⟩ := ba2 h1
      obtain ⟨h1, h2⟩ := ba2 h1
      cases of_decide_eq_true h1
      exact s_rng3 ok h2 h3 h4 h5 (sE a ok _ h6).1 (sE b ok _ h7).1 (sE c ok _ h8).1
    · cases h
  | .enu a, X, Γ, Eo, ok, tg, e, h => by
    unfold ckSrc at h
    split at h
    · obtain ⟨h1, h4⟩ := ba2 h
      obtain ⟨h1, h3⟩ := ba2 h1
      obtain ⟨h1, h2⟩ := ba2 h1
      cases of_decide_eq_true h1
      exact s_srcEn ok h2 h3 (sE a ok _ h4).1
    · cases h
  | .zip a b, X, Γ, Eo, ok, tg, e, h => by
    unfold ckSrc at h
    split at h
    · obtain ⟨h1, h6⟩ := ba2 h
      obtain ⟨h1, h5⟩ := ba2 h1
      obtain ⟨h1, h4⟩ := ba2 h1
      obtain ⟨h1, h3⟩ := ba2 h1
      obtain ⟨h1, h2⟩ := ba2 h1
      cases of_decide_eq_true h1
      exact s_srcZp ok h2 h3 h4 (sE a ok _ h5).1 (sE b ok _ h6).1
    · cases h
end
end
end Ev

/-! Checked statements. -/
namespace Ev
open L2 PyProof.Rows PySem PySem.Spec
def isLC : Expr → Option (Scope × Pos)
  | .ListComp _ _ sc pos => some (sc, pos)
  | _ => none
def ckPar (Γ : Gam) (is : List Nat) (es : List Expr) (vs : List Expr) : Bool := match is, es with
  | [i, j], [.Name x px, .Name y py] => vs.length == 2 && locB Γ i x && locB Γ j y && decide (i ≠ j) && parOk Γ [(x, px), (y, py)] vs
  | [i, j, l], [.Name x px, .Name y py, .Name z pz] => vs.length == 3 && locB Γ i x && locB Γ j y && locB Γ l z && decide (i ≠ j) && decide (i ≠ l) && decide (j ≠ l) && parOk Γ [(x, px), (y, py), (z, pz)] vs
  | _, _ => false
mutual
def ckS (Γ : Gam) (rz : List Nat) : S → Stmt → Bool
  | .asg t a, s => (match t, s with
    | .nm i, .Assign [.Name x px] v pos => locB Γ i x && (match isLC v with
      | none => noComp v
      | some _ => true) && ckE Γ a v
    | .tp ts, .Assign [.Tuple es k tp] v pos => ckT Γ (.tp ts) (.Tuple es k tp) && plainV es v && ckE Γ a v
    | _, _ => false)
  | .par is as, s => (match s with
    | .Assign [.Tuple es k tp] (.Tuple vs k2 p2) pos => ckPar Γ is es vs && ckL Γ as vs
    | _ => false)
  | .set i b a, s => (match s with
    | .Assign [.Subscript (.Name x px) ix sp] v pos => varOk Γ i x && noSlice ix && ckE Γ a v && ckE Γ b ix
    | _ => false)
  | .app i a, s => (match s with
    | .Expr (.Call (.Attribute (.Name x px) m ap) [y] [] cp) pos => decide (m = "append") && varOk Γ i x && unst y && (ap.endLine == cp.line) && ckE Γ a y
    | _ => false)
  | .ext i a, s => (match s with
    | .Expr (.Call (.Attribute (.Name x px) m ap) [y] [] cp) pos => decide (m = "extend") && varOk Γ i x && unst y && (ap.endLine == cp.line) && ckE Γ a y
    | _ => false)
  | .ex a, s => (match s with
    | .Expr v pos => noComp v && ckE Γ a v
    | _ => false)
  | .ret a, s => (match s with
    | .Return (some v) pos => ckE Γ a v
    | _ => false)
  | .retn, s => (match s with
    | .Return none pos => true
    | _ => false)
  | .ifs c a b, s => (match s with
    | .If t x y pos => tstOk t && ckE Γ c t && ckSs Γ rz a x && ckSs Γ rz b y
    | _ => false)
  | .for_ t src body, s => (match s with
    | .For tg it bs [] pos => noSetI it && ckSrc Γ src tg it && ckT Γ t tg && ckSs Γ rz body bs
    | _ => false)
  | .whl c body, s => (match s with
    | .While t bs [] pos => tstOk t && ckE Γ c t && ckSs Γ rz body bs
    | _ => false)
  | .rai c a, s => (match s with
    | .Raise (some (.Call (.Name x p1) [y] [] p2)) none pos => rz.contains c && glB Γ x (.cls c) && unst y && ckE Γ a y
    | _ => false)
  | .pas, s => (match s with
    | .Pass pos => true
    | _ => false)
  | .brk, s => (match s with
    | .Break pos => true
    | _ => false)
  | .cnt, s => (match s with
    | .Continue pos => true
    | _ => false)
  | _, _ => false
def ckSs (Γ : Gam) (rz : List Nat) : Ss → List Stmt → Bool
  | .nil, ss => ss.isEmpty
  | .cons a as, ss => (match ss with
    | s :: ss => ckS Γ rz a s && ckSs Γ rz as ss
    | [] => false)
end
section
variable {Z : Zt} {Γ : Gam} {Fs : List Fn} {C : Nv → Clo} {Eo : XK} {F0 : Addr → Prop} {φ0 : List Addr} {rz : List Nat} {X : Cx}
/-- name = [..] -/
theorem s_asgC {i : Nat} {a : E} {x : Str} {px spos : Pos} {v : Expr} {sc : Scope} {vp : Pos} (ok : XOk X Z Γ Fs Eo) (hl : locB Γ i x = true) (hv : isLC v = some (sc, vp)) (h : ckE Γ a v = true) : PS X (.Assign [.Name x px] v spos) (tS Z Eo F0 φ0 (evS Fs C (.asg (.nm i) a))) := by
  have hloc : Γ.sc.names.lookup x = some .local ∨ Γ.sc.names.lookup x = some .cell := by
    unfold locB at hl
    simp only [Bool.and_eq_true, Bool.or_eq_true, decide_eq_true_eq] at hl
    exact hl.2
  have hpe := (sE (C := C) a ok v h).1
  unfold isLC at hv
  split at hv
  · rename_i elt gens sc' pos
    cases hv
    cases hsw : swB Γ sc x px.line vp.line with
    | false => exact s_asgN ok hl (by rw [sw_lc ok hloc, hsw]) hpe
    | true =>
      cases a with
      | comp own t src cond el =>
        unfold ckE at h
        split at h
        · rename_i x' tg it ifs as sc' pos' e
          cases e
          obtain ⟨h1, h8⟩ := ba2 h
          obtain ⟨h1, h7⟩ := ba2 h1
          obtain ⟨h1, h6⟩ := ba2 h1
          obtain ⟨h1, h5⟩ := ba2 h1
          obtain ⟨h1, h4⟩ := ba2 h1
          obtain ⟨h1, h3⟩ := ba2 h1
          obtain ⟨h1, h2⟩ := ba2 h1
          cases of_decide_eq_true h1
          have B := blkOk_by h4
          have okb := fun (s : Shared) (H : Hp) (Ca : Addr) (cl : List (Str × Addr)) (fp : List Addr) => ok.blk B.kind s H Ca cl fp
          have hsl : ∀ j ∈ slotsT t, j ∈ own.map (·.2) := fun j hj => by
            rw [List.all_eq_true] at h5
            exact List.contains_iff_mem.mp (h5 j hj)
          refine s_asgL ok hl hsw (sSrc src ok tg it h3) (blk_of ok B) hsl (fun s H Ca cl fp => s_tgt (okb s H Ca cl fp) t tg h6) (fun s H Ca cl fp => ?_) (fun s H Ca cl fp => (sE el (okb s H Ca cl fp) _ h8).1) (noSetI_ok h2)
          split at h7
          · have e : cond = .no := by
              revert h7
              cases cond <;> intro h <;> first | rfl | cases h
            subst e
            exact tIfs (okb s H Ca cl fp).hK
          · rename_i c
            obtain ⟨g1, g3⟩ := ba2 h7
            obtain ⟨g1, g2⟩ := ba2 g1
            exact pts_one ((sE cond (okb s H Ca cl fp) _ g3).2 g2)
          · cases h7
        · cases h
      | lit p =>
        unfold ckE at h
        cases p <;> cases h
      | slc _ _ _ => unfold ckE at h; cases h
      | isi t a =>
        unfold ckE at h
        cases t <;> cases h
      | cv ks f es =>
        unfold ckE at h
        cases f <;> cases h
      | lsrc src =>
        unfold ckE at h
        cases src <;> cases h
      | _ => unfold ckE at h; cases h
  · cases hv
mutual
theorem sS (xs : XSt X Z Γ Fs Eo rz) : ∀ (a : S) (s : Stmt), ckS Γ rz a s = true → PS X s (tS Z Eo F0 φ0 (evS Fs C a))
  | .asg t a, s, h => by
    unfold ckS at h
    split at h
    · rename_i i x px v pos
      obtain ⟨h1, h3⟩ := ba2 h
      obtain ⟨h1, h2⟩ := ba2 h1
      split at h2
      · exact s_asgN xs.ok h1 (noComp_sw h2) (sE a xs.ok _ h3).1
      · rename_i q hq
        exact s_asgC xs.ok h1 hq h3
    · obtain ⟨h1, h3⟩ := ba2 h
      obtain ⟨h1, h2⟩ := ba2 h1
      exact s_asgT xs.ok h1 h2 (sE a xs.ok _ h3).1
    · cases h
  | .par is as, s, h => by
    unfold ckS at h
    split at h
    · rename_i es k tp vs k2 p2 pos
      obtain ⟨h1, h2⟩ := ba2 h
      unfold ckPar at h1
      split at h1
      · obtain ⟨h1, g5⟩ := ba2 h1
        obtain ⟨h1, g4⟩ := ba2 h1
        obtain ⟨h1, g3⟩ := ba2 h1
        obtain ⟨g1, g2⟩ := ba2 h1
        match vs, beq_iff_eq.mp g1 with
        | [a, b], _ => exact s_par2 (pt2 := p2) xs.ok g2 g3 (of_decide_eq_true g4) g5 (sL as xs.ok _ h2)
      · obtain ⟨h1, g8⟩ := ba2 h1
        obtain ⟨h1, g7⟩ := ba2 h1
        obtain ⟨h1, g6⟩ := ba2 h1
        obtain ⟨h1, g5⟩ := ba2 h1
        obtain ⟨h1, g4⟩ := ba2 h1
        obtain ⟨h1, g3⟩ := ba2 h1
        obtain ⟨g1, g2⟩ := ba2 h1
        match vs, beq_iff_eq.mp g1 with
        | [a, b, c], _ => exact s_par3 (pt2 := p2) xs.ok g2 g3 g4 (of_decide_eq_true g5) (of_decide_eq_true g6) (of_decide_eq_true g7) g8 (sL as xs.ok _ h2)
      · cases h1
    · cases h
  | .set i b a, s, h => by
    unfold ckS at h
    split at h
    · obtain ⟨h1, h4⟩ := ba2 h
      obtain ⟨h1, h3⟩ := ba2 h1
      obtain ⟨h1, h2⟩ := ba2 h1
      exact s_set xs.ok h1 h2 (sE a xs.ok _ h3).1 (sE b xs.ok _ h4).1
    · cases h
  | .app i a, s, h => by
    unfold ckS at h
    split at h
    · obtain ⟨h1, h5⟩ := ba2 h
      obtain ⟨h1, h4⟩ := ba2 h1
      obtain ⟨h1, h3⟩ := ba2 h1
      obtain ⟨h1, h2⟩ := ba2 h1
      cases of_decide_eq_true h1
      exact s_app xs.ok h2 h3 h4 (sE a xs.ok _ h5).1
    · cases h
  | .ext i a, s, h => by
    unfold ckS at h
    split at h
    · obtain ⟨h1, h5⟩ := ba2 h
      obtain ⟨h1, h4⟩ := ba2 h1
      obtain ⟨h1, h3⟩ := ba2 h1
      obtain ⟨h1, h2⟩ := ba2 h1
      cases of_decide_eq_true h1
      exact s_ext xs.ok h2 h3 h4 (sE a xs.ok _ h5).1
    · cases h
  | .pop t i e, s, h => by unfold ckS at h; cases h
  | .appPop j i e, s, h => by unfold ckS at h; cases h
  | .ex a, s, h => by
    unfold ckS at h
    split at h
    · obtain ⟨h1, h2⟩ := ba2 h
      exact s_ex h1 (sE a xs.ok _ h2).1
    · cases h
  | .ret a, s, h => by
    unfold ckS at h
    split at h
    · exact s_ret (sE a xs.ok _ h).1
    · cases h
  | .retn, s, h => by
    unfold ckS at h
    split at h
    · exact s_retn
    · cases h
  | .ifs c a b, s, h => by
    unfold ckS at h
    split at h
    · obtain ⟨h1, h4⟩ := ba2 h
      obtain ⟨h1, h3⟩ := ba2 h1
      obtain ⟨h1, h2⟩ := ba2 h1
      exact s_ifs ((sE c xs.ok _ h2).2 h1) (sSs xs a _ h3) (sSs xs b _ h4)
    · cases h
  | .for_ t src body, s, h => by
    unfold ckS at h
    split at h
    · obtain ⟨h1, h4⟩ := ba2 h
      obtain ⟨h1, h3⟩ := ba2 h1
      obtain ⟨h1, h2⟩ := ba2 h1
      exact s_for xs (sSrc src xs.ok _ _ h2) (s_tgt xs.ok t _ h3) (sSs xs body _ h4) (noSetI_ok h1)
    · cases h
  | .whl c body, s, h => by
    unfold ckS at h
    split at h
    · obtain ⟨h1, h3⟩ := ba2 h
      obtain ⟨h1, h2⟩ := ba2 h1
      exact s_whl xs ((sE c xs.ok _ h2).2 h1) (sSs xs body _ h3)
    · cases h
  | .rai c a, s, h => by
    unfold ckS at h
    split at h
    · obtain ⟨h1, h4⟩ := ba2 h
      obtain ⟨h1, h3⟩ := ba2 h1
      obtain ⟨h1, h2⟩ := ba2 h1
      exact s_rai xs (List.contains_iff_mem.mp h1) h2 h3 (sE a xs.ok _ h4).1
    · cases h
  | .pas, s, h => by
    unfold ckS at h
    split at h
    · exact s_pas
    · cases h
  | .brk, s, h => by
    unfold ckS at h
    split at h
    · exact s_brk
    · cases h
  | .cnt, s, h => by
    unfold ckS at h
    split at h
    · exact s_cnt
    · cases h
theorem sSs (xs : XSt X Z Γ Fs Eo rz) : ∀ (as : Ss) (ss : List Stmt), ckSs Γ rz as ss = true → PSs X ss (tS Z Eo F0 φ0 (evSs Fs C as))
  | .nil, ss, h => by
    unfold ckSs at h
    cases ss with
    | nil => exact s_snil
    | cons _ _ => cases h
  | .cons a as, ss, h => by
    unfold ckSs at h
    cases ss with
    | nil => cases h
    | cons s ss =>
      obtain ⟨h1, h2⟩ := ba2 h
      exact s_scons (sS xs a s h1) (sSs xs as ss h2)
end
end
end Ev

/-! Defs. -/
namespace Ev
open L2 PyProof.Rows PySem PySem.Spec
/-- the same but for the entry's heap -/
structure SameZ (Z Z' : Zt) : Prop where
  K : Z.K = Z'.K
  fa : Z.fa = Z'.fa
  ca : Z.ca = Z'.ca
  T : Z.T = Z'.T
theorem SameZ.symm {Z Z' : Zt} (e : SameZ Z Z') : SameZ Z' Z := ⟨e.K.symm, e.fa.symm, e.ca.symm, e.T.symm⟩
theorem sameZ (Z : Zt) (H : Hp) : SameZ Z { Z with H0 := H } := ⟨rfl, rfl, rfl, rfl⟩
section
variable {Z Z' : Zt} {F F' : Addr → Prop} {φ φ' : List Addr} {H H' : Hp}
mutual
theorem Rep.z (e : SameZ Z Z') : ∀ {v : V} {d : Ev.D}, Rep Z F φ H v d → Rep Z' F φ H v d
  | _, _, .py h => .py h
  | _, _, .mt h1 h2 => .mt h1 (Reps.z e h2)
  | _, _, .ml h1 h2 h3 => .ml h1 h2 (Reps.z e h3)
  | _, _, .fn k => by
    rw [e.fa]
    exact .fn k
  | _, _, .exc h1 h2 h3 h4 h5 => .exc h1 h2 (by rw [← e.ca]; exact h3) h4 h5
  | _, _, .cel h => .cel h
  | _, _, .scr h => .scr (by rw [← e.K]; exact h)
theorem Reps.z (e : SameZ Z Z') : ∀ {vs : List V} {ds : List Ev.D}, Reps Z F φ H vs ds → Reps Z' F φ H vs ds
  | _, _, .nil => .nil
  | _, _, .cons h1 h2 => .cons (Rep.z e h1) (Reps.z e h2)
end
theorem OwnR.z (e : SameZ Z Z') {a : Addr} : ∀ {d : Ev.D}, OwnR Z F φ H a d → OwnR Z' F φ H a d
  | .py (.list _), h => h
  | .ml _, h => let ⟨vs, h1, r⟩ := h; ⟨vs, h1, r.z e⟩
  | .py .none, h => h.elim
  | .py (.bool _), h => h.elim
  | .py (.int _), h => h.elim
  | .py (.str _), h => h.elim
  | .py (.tuple _), h => h.elim
  | .py (.dict _), h => h.elim
  | .mt _, h => h.elim
  | .fn _, h => h.elim
  | .exc _ _, h => h.elim
  | .cel _, h => h.elim
  | .clo _, h => h.elim
  | .scr _, h => h.elim
theorem GSim.z {M : Mem} (e : SameZ Z Z') (g : GSim Z M F φ H) : GSim Z' M F φ H := ⟨g.dom, g.len, g.cell, g.nd, by rw [← e.T]; exact g.tab⟩
theorem RepO.z {H0 : Hp} {fr : Bool} {v : V} {d : Ev.D} (e : SameZ Z Z') (r : RepO Z H0 F φ H fr v d) : RepO Z' H0 F φ H fr v d := by
  unfold RepO at r ⊢
  split
  · rename_i h
    rw [if_pos h] at r
    obtain ⟨a, h1, h2, h3⟩ := r
    exact ⟨a, h1, h2.z e, h3⟩
  · rename_i h
    rw [if_neg h] at r
    exact r.z e
theorem Err.z {c : Nat} {v : PyData} {M : Mem} {q : Pt} {da : Addr} (e : SameZ Z Z') (r : Err Z c v M q da) : Err Z' c v M q da := ⟨r.g.z e, r.fd, r.at_⟩
theorem DoneF.z {Q : VK} {E : XK} {r : Rz Ov} (e : SameZ Z Z') (d : DoneF Z F φ H Q E r) : DoneF Z' F φ H Q E r := by
  cases r with
  | ok o => exact fun F' φ' H' v po g ro => d F' φ' H' v po (g.z e.symm) (ro.z e.symm)
  | er c v M =>
    intro q da po er
    have w := d q da po (er.z e.symm)
    rw [← e.ca]
    exact w
theorem spF_z {f : Fn} {vs : List V} {Q : VK} {E : XK} (e : SameZ Z Z') (h : spF Z f vs H Q E) : spF Z' f vs H Q E := by
  obtain ⟨ds, M, F, φ, g, r, z, h1, d⟩ := h
  exact ⟨ds, M, F, φ, g.z e, r.z e, z, h1, d.z e⟩
end
theorem FnX.z {P : Program} {w : World} {K : PySem.W.Frag} {mg : Str → Option Value} {base : Heap} {Z Z' : Zt} {l k : Nat} {f : Fn} (e : SameZ Z Z') (F : FnX P w K mg base Z l k f) : FnX P w K mg base Z' l k f := by
  obtain ⟨⟨fd, ps, G, hb⟩, kp⟩ := F
  refine ⟨⟨fd, ps, ⟨fun vs H Q E h => G.len vs H Q E (spF_z e.symm h), fun A outer s H args us vs Q E hr hg he hbd hv hs => ?_⟩, hb⟩, by rw [← e.fa]; exact kp⟩
  rw [← e.fa]
  exact G.run A outer s H args us vs Q E hr hg he hbd hv (spF_z e.symm hs)
/-- what is told of a module's name -/
def GvOk (mg : Str → Option Value) (Z : Zt) (x : Str) : Gv → Prop
  | .int i => ∃ t, mg x = some (.int i t)
  | .str s => ∃ t, mg x = some (.str s t)
  | .fn k => mg x = some (.ref (Z.fa k))
  | .cls c => mg x = some (.ref (Z.ca c))
  | .free => mg x = none
/-- the module as it stands behind the top -/
structure Modu (P : Program) (w : World) (K : PySem.W.Frag) (mg : Str → Option Value) (base : Heap) (Z : Zt) (G : List (Str × Gv)) (rz : List Nat) (li nc : Nat) : Prop where
  hK : K = Z.K
  gv : ∀ x g, G.lookup x = some g → GvOk mg Z x g
  rz : ∀ c ∈ rz, Raz P w K mg base (Z.ca c) li
  er : 0 < nc → ErrD K Z nc
section
variable {P : Program} {w : World} {K : PySem.W.Frag} {mg : Str → Option Value} {base : Heap} {Z : Zt} {G : List (Str × Gv)} {rz : List Nat} {li nc : Nat}
theorem start_sim {N : List Str} {ds : List Ev.D} {vs : List V} {M : Mem} {F : Addr → Prop} {φ : List Addr} {H : Hp} (g : GSim Z M F φ H) (r : Reps Z F φ H vs ds) (hl : ds.length ≤ N.length) : Sim { Z with H0 := H } (startN N.length ds) M F φ (L2.start N vs) H := by
  have e := sameZ Z H
  have lv := r.len
  have at_ : ∀ (i : Nat) (d : Ev.D) (fl : Bool), (startN N.length ds)[i]? = some (some (d, fl)) → ds[i]? = some d ∧ fl = false := fun i d fl h => by
    unfold startN at h
    by_cases hi : i < ds.length
    · rw [List.getElem?_append_left (by simpa using hi), List.getElem?_map] at h
      cases q : ds[i]? with
      | none =>
        rw [q] at h
        cases h
      | some x =>
        rw [q] at h
        cases h
        exact ⟨rfl, rfl⟩
    · rw [List.getElem?_append_right (by simpa using hi), List.getElem?_replicate] at h
      split at h <;> cases h
  refine ⟨g.z e, ?_, fun i d h => ?_, fun i d h => ?_, fun b h => h, fun i j d e a h => ?_⟩
  · unfold startN L2.start
    simp
    omega
  · obtain ⟨h1, _⟩ := at_ i d false h
    obtain ⟨v, h2, r2⟩ := r.get h1
    refine ⟨v, ?_, r2.z e⟩
    unfold L2.start
    have hi := (List.getElem?_eq_some_iff.mp h2).1
    rw [List.getElem?_append_left (by simpa using hi), List.getElem?_map, h2]
    rfl
  · obtain ⟨_, h2⟩ := at_ i d true h
    cases h2
  · obtain ⟨_, h2⟩ := at_ i d true h
    cases h2
/-- what a def that makes lambdas must bring -/
structure LmD (K : PySem.W.Frag) (mg : Str → Option Value) (base : Heap) (Z : Zt) (fd : FuncData) (qual : Str) : Prop where
  hd : HearD K mg Z
  ex : ∃ c P : Addr, LamX.TabB base mg c P ∧ fd.code = .ref c ∧ (P, qual ++ ".<locals>." ++ "<lambda>") ∈ Z.T ∧ ∀ p ∈ Z.T, p.1 = P → p.2 = qual ++ ".<locals>." ++ "<lambda>"
theorem HearD.z {Z' : Zt} (e : SameZ Z Z') (h : HearD K mg Z) : HearD K mg Z' := by
  obtain ⟨g, CS, fd, prm, q, h1, h2, h3, h4, h5, h6⟩ := h.ex
  exact ⟨g, CS, fd, prm, q, h1, h2, h3, h4, fun c => by rw [← e.ca]; exact h5 c, h6⟩
theorem _root_.Ev.ErrD.z {Z' : Zt} {n : Nat} (e : SameZ Z Z') (h : ErrD K Z n) : ErrD K Z' n := by
  obtain ⟨h1, h2, h3, h4, h5, h6⟩ := h
  rw [e.ca] at h1 h2 h3 h4 h5 h6
  exact ⟨h1, h2, h3, h4, h5, h6⟩
/-- a def's promise: its text is what was checked -/
theorem def_fnG {x qual : Str} {params : Arguments} {body : List Stmt} {scope : Scope} {fd : FuncData} {N ps : List Str} {d : Def} {Fs : List Fn} {lv n : Nat} {lvl : List Nat} {lam : Bool} (Mo : Modu P w K mg base Z G rz li nc) (Fu : FunD K x qual params body scope [] [] (Z.fa n) fd)
    (hb : Binds K fd ps []) (hsc : C8.scC N ps scope = true) (hfl : lvl.length ≤ Fs.length) (hns : ∀ k f l, Fs[k]? = some f → lvl[k]? = some l → FnX P w K mg base Z l k f) (hlm : lam = true → LmD K mg base Z fd qual) (hli : li + 1 ≤ lv) (hn : d.n = N.length) (hp : d.ps = ps.length) (hpn : ps.length ≤ N.length)
    (hck : ckSs ⟨N, scope, G, lv, lvl, lam, nc⟩ rz d.body body = true) : FnG P w K mg base (lv + 1) (Z.fa n) fd ps (spF Z (runF Fs d)) := by
  obtain ⟨⟨oc, od, dV, kV, doc, pm, an, cdv, ct, osl, rfl, lk, hcd, _, _⟩, kp⟩ := Fu
  have S := C8.fnScope_by hsc
  have hlen : ∀ vs H Q E, spF Z (runF Fs d) vs H Q E → vs.length = ps.length := fun vs H Q E h => by
    obtain ⟨ds, M, F, φ, g, r, z, h1, _⟩ := h
    unfold runF at h1
    obtain ⟨h2, _⟩ := if_some h1
    rw [r.len, h2, hp]
  refine ⟨hlen, fun A outer s H args us vs Q E hr hg he hbd hv hs => ?_⟩
  refine LamX.run_ofS lk hcd S hr he hbd hv (hlen vs H Q E hs) fun hr2 => ?_
  obtain ⟨ds, M, F, φ, g, r, z, h1, dn⟩ := hs
  unfold runF at h1
  obtain ⟨h2, h1⟩ := if_some h1
  have e := sameZ Z H
  have tk : Takes (cxOf (L2.CX P w) P w K mg base N qual scope (Z.fa n) cdv A outer s H E) fun cls d _ H => E cls d H := takes_of rfl rfl rfl rfl
  have ok : XOk (cxOf (L2.CX P w) P w K mg base N qual scope (Z.fa n) cdv A outer s H E) { Z with H0 := H } ⟨N, scope, G, lv, lvl, lam, nc⟩ Fs E := by
    refine ⟨Mo.hK, rfl, hr2.hd, by have := hr2.un; show (A.deeper _).units + 70 < cLine; omega, hg, rfl, S.nd, fun x h => ?_, fun x h => ?_, ?_, fun x h => h, hfl, fun x k h _ => h, fun x h => h, fun x g h => ?_, hr2, fun k f l h3 h4 => (hns k f l h3 h4).z e, passes_call tk (fun _ _ _ _ h => h), fun h => ?_, fun h => (Mo.er h).z e⟩
    · unfold visB at h
      simp only [Bool.or_eq_true, beq_iff_eq] at h
      rcases h with (h | h) | h
      · exact .inl h
      · exact .inr (.inl h)
      · exact .inr (.inr h)
    · rcases h with h | h
      · exact ⟨.inl h, .inr h⟩
      · exact ⟨.inr h, .inl rfl⟩
    · show (if scope.kind.isAnnotationScope then ScopeKind.function else scope.kind) = .function
      rw [S.kind]
      rfl
    · have w := Mo.gv x g h
      cases g <;> exact w
    · obtain ⟨h1, c, P, h2, h3, h4, h5⟩ := hlm h
      exact ⟨h1.z e, c, P, h2, h3, h4, h5⟩
  have xs : XSt (cxOf (L2.CX P w) P w K mg base N qual scope (Z.fa n) cdv A outer s H E) { Z with H0 := H } ⟨N, scope, G, lv, lvl, lam, nc⟩ Fs E rz := ⟨ok, tk, passes_of rfl, fun c hc => ⟨li, hli, Mo.rz c hc⟩⟩
  refine ⟨_, sSs (F0 := F) (φ0 := φ) (C := fun _ => noClo) xs d.body body hck, ⟨startN d.n ds, M, F, φ, H⟩, rfl, ⟨?_, Post.refl⟩, ?_⟩
  · rw [hn]
    exact start_sim g r (by rw [h2, hp]; exact hpn)
  · cases hz : evSs Fs (fun _ => noClo) d.body (startN d.n ds) M with
    | none =>
      rw [hz] at h1
      cases h1
    | some y =>
      rw [hz] at h1
      refine ⟨y, rfl, ?_⟩
      cases y with
      | er c v M2 =>
        have ez : z = .er c v M2 := (Option.some.inj h1).symm
        subst ez
        exact fun q da po er => dn q da po (er.z e.symm)
      | ok f =>
        cases f with
        | nx ρ M2 =>
          have ez : z = .ok ⟨.py .none, false, M2⟩ := (Option.some.inj h1).symm
          subst ez
          intro σ' q e1 e2 I st
          exact dn q.F q.φ q.H .non I.po (by have w := I.s.g; rw [e2] at w; exact w.z e.symm) (.py .non)
        | rt o =>
          have ez : z = .ok o := (Option.some.inj h1).symm
          subst ez
          exact fun F' φ' H' v po g' ro => dn F' φ' H' v po (g'.z e.symm) (ro.z e.symm)
        | br ρ M2 => cases h1
        | ct ρ M2 => cases h1
/-- THE RULE for a def -/
theorem def_sound {x qual : Str} {params : Arguments} {body : List Stmt} {scope : Scope} {fd : FuncData} {N ps : List Str} {d : Def} {Fs : List Fn} {lv n : Nat} {lvl : List Nat} {lam : Bool} (Mo : Modu P w K mg base Z G rz li nc) (Fu : FunD K x qual params body scope [] [] (Z.fa n) fd)
    (hb : Binds K fd ps []) (hsc : C8.scC N ps scope = true) (hfl : lvl.length ≤ Fs.length) (hns : ∀ k f l, Fs[k]? = some f → lvl[k]? = some l → FnX P w K mg base Z l k f) (hlm : lam = true → LmD K mg base Z fd qual) (hli : li + 1 ≤ lv) (hn : d.n = N.length) (hp : d.ps = ps.length) (hpn : ps.length ≤ N.length)
    (hck : ckSs ⟨N, scope, G, lv, lvl, lam, nc⟩ rz d.body body = true) : FnX P w K mg base Z (lv + 1) n (runF Fs d) :=
  ⟨⟨fd, ps, def_fnG Mo Fu hb hsc hfl hns hlm hli hn hp hpn hck, hb⟩, Fu.kp⟩
end
end Ev

/-! A law's end: the caller stands without guards. -/
namespace Ev
open L2 PyProof.Rows PySem PySem.Spec
section
variable {K : PySem.W.Frag} {cs : List (Addr × Addr)} {h : Heap} {a : Addr} {lo : Obj} {ns : List Int}
/-- what is told of at the law's call: the script, where it isn't in the written part, and the tables -/
def endH (K : PySem.W.Frag) (cs : List (Addr × Addr)) (a : Addr) (lo : Obj) (ns : List Int) : Hp := fun b =>
  if b = a ∧ K.lookup a = none then some (.frz lo (.lst (ns.map V.int))) else if b ∈ cs.map (·.2) then some (.tbl #[]) else none
theorem endH_is {b : Addr} {u : HO} (e : endH K cs a lo ns b = some u) : (b = a ∧ K.lookup a = none ∧ u = .frz lo (.lst (ns.map V.int))) ∨ (∃ p ∈ cs, p.2 = b) ∧ u = .tbl #[] := by
  unfold endH at e
  split at e
  · rename_i c
    cases e
    exact .inl ⟨c.1, c.2, rfl⟩
  · split at e
    · rename_i c
      cases e
      obtain ⟨p, hp, ep⟩ := List.mem_map.mp c
      exact .inr ⟨⟨p, hp, ep⟩, rfl⟩
    · cases e
theorem endH_tab (na : ∀ p ∈ cs, p.2 ≠ a) : ∀ p ∈ cs, endH K cs a lo ns p.2 = some (.tbl #[]) := fun p hp => by
  unfold endH
  rw [if_neg fun c => na p hp c.1, if_pos (List.mem_map.mpr ⟨p, hp, rfl⟩)]
/-- an object of another kind isn't told of -/
theorem endH_no (ha : h.get? a = some lo) (hT : ∀ p ∈ cs, h.get? p.2 = some { cls := .none, data := .fields #[] }) {b : Addr} {o : Obj} (e : h.get? b = some o) (n1 : o.data ≠ lo.data) (n2 : o.data ≠ .fields #[]) : endH K cs a lo ns b = none := by
  cases q : endH K cs a lo ns b with
  | none => rfl
  | some u =>
    rcases endH_is q with ⟨rfl, _, _⟩ | ⟨⟨p, hp, rfl⟩, _⟩
    · rw [ha] at e
      cases e
      exact (n1 rfl).elim
    · rw [hT p hp] at e
      cases e
      exact (n2 rfl).elim
end
theorem law_endG {P : Program} {w : World} {K : PySem.W.Frag} {mg mb : Str → Option Value} {k : Nat} {fa a : Addr} {cs : List (Addr × Addr)} {fd : FuncData} {x : Str} {sp : Sp} {s : Shared} {vs : List Value} {ns : List Int} (kin : K.In s.heap) (gl : s.heap.Ns mainGlobals mg) (bl : s.heap.Ns builtinsNs mb)
    (boot : ∀ x : Str, x ≠ "__name__" → mb x = bootBuiltins x) (lim : s.heap.NoLimit) (gen : s.gens = #[]) (hT : ∀ p ∈ cs, s.heap.get? p.2 = some { cls := .none, data := .fields #[] }) (out : ∀ p ∈ cs, K.lookup p.2 = none) (heads : ∀ p ∈ cs, PySem.W.CodeHd s.heap p.1 p.2)
    (bm : ∃ (bm : Addr) (ob : Obj), mg "__builtins__" = some (.ref bm) ∧ bm ≠ builtinsNs ∧ s.heap.get? bm = some ob ∧ ob.cls = .type "module" ∧ ob.dict = some builtinsNs ∧ ob.data = .plain) (ha : s.heap.get? a = some { cls := .type "list", data := .seq vs.toArray }) (itz : IntsAre vs ns) (len : ns.length ≤ sizeLine)
    (room : Room k callerA) (F : ∀ base : Heap, K.In base → base.Ns mainGlobals mg → (∀ p ∈ cs, LamX.TabB base mg p.1 p.2) → FnG P w K mg base k fa fd [x] sp) (bind : ∀ (s : Shared) (u : Value), BindsTo s fd ⟨[u], []⟩ [(x, u)])
    (want : ∀ H : Hp, (∀ p ∈ cs, H p.2 = some (.tbl #[])) → (∀ b ps, H b = some (.tbl ps) → ∃ p ∈ cs, p.2 = b) → SqL K H a (ns.map V.int) → sp [.ref a] H (fun v _ => v = .bl true) fun _ _ _ => False) :
    codeAny (model P w) callerA (.call (.ref fa) ⟨[.ref a], []⟩) (fun r s' => r = .ok (.ret (.bool true)) ∧ OldK s.heap s'.heap ∧ s'.os = s.os ∧ AllBare s'.gens) s := by
  generalize elo : ({ cls := .type "list", data := .seq vs.toArray } : Obj) = lo at ha
  have dlo : lo.data = .seq vs.toArray := by rw [← elo]
  have rel := vals_ints itz
  have na : ∀ p ∈ cs, p.2 ≠ a := fun p hp z => by
    have e := hT p hp
    rw [z, ha] at e
    have z' := congrArg Obj.data (Option.some.inj e)
    rw [dlo] at z'
    cases z'
  let H : Hp := endH K cs a lo ns
  have no : ∀ {b : Addr} {o : Obj}, s.heap.get? b = some o → o.data ≠ lo.data → o.data ≠ .fields #[] → (hidT s.heap H).get? b = some o := fun e n1 n2 => hidT_get e (endH_no ha hT e n1 n2)
  have dicts : ∀ {b : Addr} {m : Str → Option Value}, s.heap.Ns b m → (hidT s.heap H).Ns b m := fun ⟨o, es, ep, e, d, r⟩ => ⟨o, es, ep, no e (by rw [d, dlo]; exact fun z => nomatch z) (by rw [d]; exact fun z => nomatch z), d, r⟩
  have kinB : K.In (hidT s.heap H) := fun b o e => hidT_get (kin b o e) (by
    cases q : H b with
    | none => rfl
    | some u =>
      rcases endH_is q with ⟨rfl, c, _⟩ | ⟨⟨p, hp, rfl⟩, _⟩
      · rw [c] at e
        cases e
      · rw [out p hp] at e
        cases e)
  have tabs : ∀ p ∈ cs, LamX.TabB (hidT s.heap H) mg p.1 p.2 := fun p hp => by
    obtain ⟨o, us, file, tf, flags, tg, inF, text, tt, e1, r1, r2, r3, r⟩ := heads p hp
    obtain ⟨bm, ob, b1, b2, b3, b4, b5, b6⟩ := bm
    obtain ⟨og, es, ep, g1, g2, _⟩ := gl
    refine ⟨⟨o, us, file, tf, flags, tg, inF, text, tt, no e1 (by rw [r2, dlo]; exact fun z => nomatch z) (fun z => ?_), r1, r2, r3, r⟩, ⟨bm, ob, b1, b2, fun q => ?_, fun q => ?_, no b3 (by rw [b6, dlo]; exact fun z => nomatch z) (by rw [b6]; exact fun z => nomatch z), b4, b5, b6⟩, fun z => ?_⟩
    · rw [r2] at z
      cases z
      simp at r3
    · rw [q, g1] at b3
      cases b3
      rw [g2] at b6
      cases b6
    · rw [q, hT p hp] at b3
      cases b3
      cases b6
    · rw [z, hT p hp] at g1
      cases g1
      cases g2
  have hok : HOk P w H s.heap := fun b u e => by
    rcases endH_is e with ⟨rfl, _, rfl⟩ | ⟨⟨p, hp, rfl⟩, rfl⟩
    · have hb := ha
      rw [← elo] at hb
      exact ⟨ha, by rw [List.length_map]; exact len, vs, _, rel, hb⟩
    · exact hT p hp
  have sq : SqL K H a (ns.map V.int) := by
    cases q : K.lookup a with
    | none => exact .inl (.inr ⟨lo, if_pos ⟨rfl, q⟩⟩)
    | some o =>
      have e := kin a o q
      rw [ha, ← elo] at e
      cases e
      exact .inr ⟨_, vs.toArray, _, q, rfl, rfl, rfl, by rw [List.size_toArray, itz.length]; exact len, by simpa using rel⟩
  have e0 : Env0 P w K mg (hidT s.heap H) callerA [] s H :=
    ⟨rfl, ⟨kinB, dicts gl, ⟨mb, dicts bl, boot⟩, let ⟨mc, h1, h2⟩ := lim; ⟨mc, dicts h1, h2⟩⟩, fun b o e => of_hidT e, Nat.le_of_eq (hidT_size _ _), trivial, (fun b hb => nomatch hb), hok, .of_eq gen⟩
  refine codeAny_mono ((F _ kinB (dicts gl) tabs).run callerA [] s H ⟨[.ref a], []⟩ [.ref a] [.ref a] _ _ room rfl e0 (bind s (.ref a)) (.cons rfl .nil) (want H (endH_tab na) (fun b ps e => ?_) sq)) fun r s' res => ?_
  · rcases endH_is e with ⟨_, _, z⟩ | ⟨z, _⟩
    · cases z
    · exact z
  · cases r with
    | error e =>
      obtain ⟨_, _, _, _, _, _, _, _, _, _, _, _, z⟩ := res
      exact z.elim
    | ok fl =>
      cases fl with
      | next => exact res.elim
      | brk => exact res.elim
      | cont => exact res.elim
      | ret u =>
        obtain ⟨v, H', os, bare, un, hok', rv, rfl⟩ := res
        cases rv
        have tab : ∀ p ∈ cs, ∃ more : Array Value, s'.heap.get? p.2 = some { cls := .none, data := .fields more } := fun p hp => by
          obtain ⟨more, z⟩ := un.tbls p.2 #[] (endH_tab na p hp)
          exact ⟨_, hok' p.2 _ z⟩
        have kept : ∀ b o, (∀ p ∈ cs, p.2 ≠ b) → s.heap.get? b = some o → s'.heap.get? b = some o := fun b o nb e => by
          cases q : H b with
          | none => exact un.keep b o e q (fun z => nomatch (show b ∈ ([] : List Addr) from z)) fun z => nomatch z
          | some u =>
            rcases endH_is q with ⟨rfl, _, rfl⟩ | ⟨⟨p, hp, z⟩, _⟩
            · obtain ⟨e2, _⟩ := hok' b _ (un.frzs b lo _ q)
              rw [ha] at e
              cases e
              exact e2
            · exact (nb p hp z).elim
        refine ⟨rfl, ⟨fun b o e => ?_, fun b o e => ?_⟩, os, bare⟩
        · by_cases c : ∃ p ∈ cs, p.2 = b
          · obtain ⟨p, hp, rfl⟩ := c
            obtain ⟨more, z⟩ := tab p hp
            rw [hT p hp] at e
            cases e
            exact .inr (.inl ⟨((heads p hp).tab (hT p hp)).isCodeTable, rfl, #[], more, rfl, by rw [Array.empty_append]; exact z⟩)
          · exact .inl (kept b o (fun p hp z => c ⟨p, hp, z⟩) e)
        · by_cases c : ∃ p ∈ cs, p.2 = b
          · obtain ⟨p, hp, rfl⟩ := c
            obtain ⟨more, z⟩ := tab p hp
            exact ⟨_, z⟩
          · exact ⟨o, kept b o (fun p hp z => c ⟨p, hp, z⟩) e⟩
end Ev

/-! A whole law: defs one behind another, the head's facts, the walk. -/
namespace Ev
open L2 PyProof.Rows PySem PySem.Spec
def topAt (b : List Stmt) (i : Nat) : Stmt := b.getD i (.Pass ⟨0, 0, 0, 0⟩)
/-- a def of the module: its place, its name, what it is in our terms, its names, its parameters, its level, whether it makes lambdas -/
structure Rec where
  i : Nat
  name : Str
  d : Def
  N : List Str
  ps : List Str
  lv : Nat
  lam : Bool
section
variable (b : List Stmt)
def Rec.args (r : Rec) : Arguments := defArgs (topAt b r.i)
def Rec.body (r : Rec) : List Stmt := defBody (topAt b r.i)
def Rec.sc (r : Rec) : Scope := defScope (topAt b r.i)
def Rec.dd (r : Rec) : He.DefD := ⟨(r.name, none), r.name, r.name, r.args b, r.body b, r.sc b, [], []⟩
structure RecOk (G : List (Str × Gv)) (rz : List Nat) (nc li : Nat) (tf : List He.Defn) (lvl : List Nat) (r : Rec) : Prop where
  bi : ∀ (kV doc pm : Value) (an : Option Addr) (cdv ct : Value) (us : List Value), us.length = r.ps.length → bindArgs (PySem.W.fnOf r.name r.name (r.args b) (r.body b) (r.sc b) .none kV doc pm an cdv ct) ⟨us, []⟩ = pure (r.ps.zip us)
  sc : C8.scC r.N r.ps (r.sc b) = true
  ck : ckSs ⟨r.N, r.sc b, G, r.lv, lvl, r.lam, nc⟩ rz r.d.body (r.body b) = true
  n : r.d.n = r.N.length
  p : r.d.ps = r.ps.length
  pn : r.ps.length ≤ r.N.length
  li : li + 1 ≤ r.lv
  lm : r.lam = true → (r.name, none) ∈ tf
inductive RecsOk (G : List (Str × Gv)) (rz : List Nat) (nc li : Nat) (tf : List He.Defn) : List Nat → List Rec → Prop where
  | nil {lvl : List Nat} : RecsOk G rz nc li tf lvl []
  | cons {lvl : List Nat} {r : Rec} {rs : List Rec} : RecOk b G rz nc li tf lvl r → RecsOk G rz nc li tf (lvl ++ [r.lv + 1]) rs → RecsOk G rz nc li tf lvl (r :: rs)
end
def fnsOf : List Rec → List Fn → List Fn
  | [], Fs => Fs
  | r :: rs, Fs => fnsOf rs (Fs ++ [runF Fs r.d])
theorem fnsOf_len : ∀ (rs : List Rec) (Fs : List Fn), (fnsOf rs Fs).length = Fs.length + rs.length
  | [], Fs => rfl
  | r :: rs, Fs => by
    unfold fnsOf
    rw [fnsOf_len rs, List.length_append, List.length_cons]
    simp
    omega
def lvls : List Rec → List Nat → List Nat
  | [], l => l
  | r :: rs, l => lvls rs (l ++ [r.lv + 1])
theorem lvls_len : ∀ (rs : List Rec) (l : List Nat), (lvls rs l).length = l.length + rs.length
  | [], l => rfl
  | r :: rs, l => by
    unfold lvls
    rw [lvls_len rs, List.length_append, List.length_cons]
    simp
    omega
def lamQ (x : Str) : Str := x ++ ".<locals>." ++ "<lambda>"
/-- addresses by names -/
def zOf (K : PySem.W.Frag) (fns cl : List Str) (tf : List He.Defn) : Zt := { K := K, fa := fun k => He.ga K (fns.getD k "law"), ca := fun c => He.ga K (cl.getD c "WashError"), T := tf.map fun p => ((He.cT K p).2, lamQ p.1) }
/-! ### classes -/
def oexB (K : PySem.W.Frag) (C : Addr) : Bool := match K.lookup C with
  | some ⟨.type "type", _, .cls cd, sl⟩ => (match cd.mro, sl.toList with
    | .ref C' :: bm, [_, _, _, _, some (.builtin n), _] => C' == C && n == "ValueError.__new__" && !cd.hasDel && cd.hasDict && PySem.HandSPX.refsVE bm
    | _, _ => false)
  | _ => false
theorem oexB_ok {K : PySem.W.Frag} {C : Addr} (q : oexB K C = true) : ∃ nm q N bs bm sn sub ab col dd k0 k1 k2 k3 k5, K.lookup C = some (excClassObj nm q C N bs bm true sn sub ab col dd k0 k1 k2 k3 k5 "ValueError.__new__") ∧ PySem.HandSPX.refsVE bm = true := by
  unfold oexB at q
  split at q
  · rename_i dd cd sl ho
    split at q
    · rename_i C' bm k0 k1 k2 k3 n k5 hm hs
      simp only [Bool.and_eq_true, beq_iff_eq, Bool.not_eq_true'] at q
      obtain ⟨⟨⟨⟨rfl, rfl⟩, hdel⟩, hdct⟩, hr⟩ := q
      obtain ⟨nm, bs, mro, ns, qn, hd, sn, sub, ab, col, del⟩ := cd
      dsimp only at hm hdel hdct
      subst hm hdel hdct
      have hsl : sl = #[k0, k1, k2, k3, some (.builtin "ValueError.__new__"), k5] := by
        obtain ⟨l⟩ := sl
        simp only at hs
        rw [hs]
      subst hsl
      exact ⟨nm, qn, ns, bs, bm, sn, sub, ab, col, dd, k0, k1, k2, k3, k5, ho, hr⟩
    · cases q
  · cases q
def claB (K : PySem.W.Frag) (W C : Addr) : Bool :=
  oexB K C && (He.eqO (PySem.W.findIn K (.ref C) "__setattr__") (some (some (.builtin "object.__setattr__"))) && (decide (PySem.W.subIn K (.ref C) (.type "BaseException") = some true) && (decide (PySem.W.typeIn K (.ref C) = some (.type "type")) && (PySem.W.keepIn K (.ref C) &&
  (He.eqO (PySem.W.findIn K (.ref C) valK) (some none) && (He.eqO (PySem.W.findIn K (.ref C) "__getattribute__") (some (some (.builtin "BaseException.__getattribute__"))) && (He.eqO (PySem.W.findIn K (.ref C) "__getattr__") (some none) && (PySem.W.hasDictIn K C &&
  (He.eqO (PySem.W.findIn K (.ref C) "__class__") (some (some (.builtin "object.__class__"))) && (decide (PySem.W.mroIn K C (.type "object") = some true) && (decide (PySem.W.kitOne K (.ref C) (.type "ValueError") = some true) && (decide (PySem.W.exmOne K (.ref C) (.ref W) = some true) &&
  (He.eqO (PySem.W.findIn K (.ref C) "__init__") (some (some (.ref (He.ma K W "__init__")))) && decide (PySem.W.kitOne K (.type "NoneType") (.ref C) = some false))))))))))))))
def getsB (K : PySem.W.Frag) : Bool :=
  He.eqO (PySem.W.specialIn K (.builtin "object.__class__") "__get__") (some (some (.builtin "getset_descriptor.__get__"))) && decide (PySem.W.takesIn K (.builtin "object.__class__") = some true)
structure ClaD (K : PySem.W.Frag) (W C : Addr) : Prop where
  ox : OexC K C
  nv : PySem.W.findIn K (.ref C) valK = some none
  ec : ExcC K C
  xf : XfC K C
  kv : PySem.W.kitOne K (.ref C) (.type "ValueError") = some true
  xm : PySem.W.exmOne K (.ref C) (.ref W) = some true
  ini : PySem.W.findIn K (.ref C) "__init__" = some (some (.ref (He.ma K W "__init__")))
  kn : PySem.W.kitOne K (.type "NoneType") (.ref C) = some false
theorem claB_ok {K : PySem.W.Frag} {W C : Addr} (g : getsB K = true) (h : claB K W C = true) : ClaD K W C := by
  obtain ⟨g1, g2⟩ := He.ba g
  obtain ⟨h1, h⟩ := He.ba h
  obtain ⟨h2, h⟩ := He.ba h
  obtain ⟨h3, h⟩ := He.ba h
  obtain ⟨h4, h⟩ := He.ba h
  obtain ⟨h5, h⟩ := He.ba h
  obtain ⟨h6, h⟩ := He.ba h
  obtain ⟨h7, h⟩ := He.ba h
  obtain ⟨h8, h⟩ := He.ba h
  obtain ⟨h9, h⟩ := He.ba h
  obtain ⟨h10, h⟩ := He.ba h
  obtain ⟨h11, h⟩ := He.ba h
  obtain ⟨h12, h⟩ := He.ba h
  obtain ⟨h13, h⟩ := He.ba h
  obtain ⟨h14, h15⟩ := He.ba h
  exact ⟨⟨oexB_ok h1, He.eqO_ok h2, of_decide_eq_true h3, of_decide_eq_true h4, h5⟩, He.eqO_ok h6,
    ⟨He.eqO_ok h7, He.eqO_ok h8, of_decide_eq_true h3, h9, He.eqO_ok h10, He.eqO_ok g1, of_decide_eq_true g2, of_decide_eq_true h11⟩,
    ⟨He.eqO_ok h7, He.eqO_ok h8, of_decide_eq_true h3, h9⟩, of_decide_eq_true h12, of_decide_eq_true h13, He.eqO_ok h14, of_decide_eq_true h15⟩
def kitB (K : PySem.W.Frag) (cl : List Str) : Bool := (List.range cl.length).all fun e => (List.range cl.length).all fun c => decide (PySem.W.kitOne K (.ref (He.ga K (cl.getD e "WashError"))) (.ref (He.ga K (cl.getD c "WashError"))) = some (e == c || c == 0))
def veiB (K : PySem.W.Frag) : Bool := match PySem.W.findCls K (.type "ValueError") (.type "type") "__init__" with
  | some (.val (.builtin x)) => x == "ValueError.__init__"
  | _ => false
theorem veiB_ok {K : PySem.W.Frag} (h : veiB K = true) : PySem.W.findCls K (.type "ValueError") (.type "type") "__init__" = some (.val (.builtin "ValueError.__init__")) := by
  unfold veiB at h
  split at h
  · rename_i x e
    rw [e, beq_iff_eq.mp h]
  · cases h
/-- what the head's hook looks at besides: the classes, the tables -/
def exOf (cl : List Str) (tf : List He.Defn) (K : PySem.W.Frag) : Bool :=
  getsB K && (cl.all (fun x => claB K (He.ga K "WashError") (He.ga K x)) && (kitB K cl && (veiB K && (decide (PySem.W.typeIn K (.ref (He.ma K (He.ga K "WashError") "__init__")) = some (.type "function")) && decide ((tf.map fun p => (He.cT K p).2).Nodup)))))
structure ExD (cl : List Str) (tf : List He.Defn) (K : PySem.W.Frag) : Prop where
  cla : ∀ x ∈ cl, ClaD K (He.ga K "WashError") (He.ga K x)
  kit : ∀ e c, e < cl.length → c < cl.length → PySem.W.kitOne K (.ref (He.ga K (cl.getD e "WashError"))) (.ref (He.ga K (cl.getD c "WashError"))) = some (e == c || c == 0)
  vei : PySem.W.findCls K (.type "ValueError") (.type "type") "__init__" = some (.val (.builtin "ValueError.__init__"))
  fty : PySem.W.typeIn K (.ref (He.ma K (He.ga K "WashError") "__init__")) = some (.type "function")
  nd : (tf.map fun p => (He.cT K p).2).Nodup
theorem exOf_ok {cl : List Str} {tf : List He.Defn} {K : PySem.W.Frag} (h : exOf cl tf K = true) : ExD cl tf K := by
  obtain ⟨h1, h⟩ := He.ba h
  obtain ⟨h2, h⟩ := He.ba h
  obtain ⟨h3, h⟩ := He.ba h
  obtain ⟨h4, h⟩ := He.ba h
  obtain ⟨h5, h6⟩ := He.ba h
  refine ⟨fun x hx => claB_ok h1 (List.all_eq_true.mp h2 x hx), fun e c he hc => ?_, veiB_ok h4, of_decide_eq_true h5, of_decide_eq_true h6⟩
  have := List.all_eq_true.mp (List.all_eq_true.mp h3 e (List.mem_range.mpr he)) c (List.mem_range.mpr hc)
  exact of_decide_eq_true this
theorem errD_of {cl fns : List Str} {tf : List He.Defn} {K : PySem.W.Frag} (D : ExD cl tf K) (h0 : cl.getD 0 "" = "WashError") : ErrD K (zOf K fns cl tf) cl.length := by
  have hl : 0 < cl.length := by
    cases cl with
    | nil => cases h0
    | cons _ _ => simp
  have e0 : cl.getD 0 "WashError" = "WashError" := by
    cases cl with
    | nil => rfl
    | cons _ _ => exact h0
  have mem : ∀ e, cl.getD e "WashError" ∈ cl := fun e => by
    by_cases he : e < cl.length
    · rw [List.getD_eq_getElem?_getD, List.getElem?_eq_getElem he]
      exact List.getElem_mem he
    · rw [List.getD_eq_getElem?_getD, List.getElem?_eq_none (Nat.le_of_not_lt he)]
      show ("WashError" : Str) ∈ cl
      rw [← e0, List.getD_eq_getElem?_getD, List.getElem?_eq_getElem hl]
      exact List.getElem_mem hl
  refine ⟨fun e => (D.cla _ (mem e)).ec, fun e => (D.cla _ (mem e)).xf, fun e => (D.cla _ (mem e)).nv, fun e c hc => ?_, fun e => (D.cla _ (mem e)).kv, fun c hc => (D.cla _ (mem c)).kn⟩
  by_cases he : e < cl.length
  · exact D.kit e c he hc
  · have z : cl.getD e "WashError" = cl.getD 0 "WashError" := by
      rw [e0, List.getD_eq_getElem?_getD, List.getElem?_eq_none (Nat.le_of_not_lt he)]
      rfl
    show PySem.W.kitOne K (.ref (He.ga K (cl.getD e "WashError"))) (.ref (He.ga K (cl.getD c "WashError"))) = _
    rw [z, D.kit 0 c hl hc]
    have q1 : (e == c) = false := by
      rw [beq_eq_false_iff_ne]
      omega
    rw [q1]
    cases c with
    | zero => rfl
    | succ c => rfl
/-! ### names -/
def faOf : Str × Gv → He.Fa
  | (x, .int i) => .int x i
  | (x, .str s) => .str x s
  | (x, .fn _) => .glo x
  | (x, .cls _) => .glo x
  | (x, .free) => .free x
def gOk (fns cl : List Str) : Str × Gv → Bool
  | (x, .fn k) => decide (fns.getD k "law" = x)
  | (x, .cls c) => decide (cl.getD c "WashError" = x)
  | _ => true
theorem lkMem {α : Type} {x : Str} {o : α} : ∀ {l : List (Str × α)}, l.lookup x = some o → (x, o) ∈ l
  | [], h => by cases h
  | (y, u) :: r, h => by
    rw [List.lookup_cons] at h
    cases q : (x == y) with
    | true =>
      rw [q] at h
      cases h
      rw [beq_iff_eq.mp q]
      exact List.mem_cons_self
    | false =>
      rw [q] at h
      exact List.mem_cons_of_mem _ (lkMem h)
theorem gv_of {K : PySem.W.Frag} {h : Heap} {mg : Str → Option Value} {G : List (Str × Gv)} {fns cl : List Str} {tf : List He.Defn} (X : K.In h) (N : h.Ns mainGlobals mg) (hf : ∀ p ∈ G, (faOf p).ok K = true) (hg : G.all (gOk fns cl) = true) :
    ∀ x g, G.lookup x = some g → GvOk mg (zOf K fns cl tf) x g := fun x g e => by
  have m : (x, g) ∈ G := lkMem e
  have f := hf _ m
  have q := List.all_eq_true.mp hg _ m
  cases g with
  | int i => exact He.int_ok X N f
  | str s => exact He.str_ok X N f
  | fn k =>
    have z : fns.getD k "law" = x := of_decide_eq_true q
    have y := He.glo_ok X N f
    show mg x = some (.ref (He.ga K (fns.getD k "law")))
    rw [z]
    exact y
  | cls c =>
    have z : cl.getD c "WashError" = x := of_decide_eq_true q
    have y := He.glo_ok X N f
    show mg x = some (.ref (He.ga K (cl.getD c "WashError")))
    rw [z]
    exact y
  | free => exact He.free_ok X N f
end Ev

/-! A whole law: the records one behind another, the walk. -/
namespace Ev
open L2 PyProof.Rows PySem PySem.Spec
theorem nodup_inj {α β : Type} {f : α → β} : ∀ {l : List α}, (l.map f).Nodup → ∀ a ∈ l, ∀ b ∈ l, f a = f b → a = b
  | [], _, a, ha, _, _, _ => by cases ha
  | x :: l, h, a, ha, b, hb, e => by
    rw [List.map_cons, List.nodup_cons] at h
    obtain ⟨h1, h2⟩ := h
    rcases List.mem_cons.mp ha with ea | ha2
    · rcases List.mem_cons.mp hb with eb | hb2
      · rw [ea, eb]
      · exact (h1 (by rw [← ea, e]; exact List.mem_map.mpr ⟨b, hb2, rfl⟩)).elim
    · rcases List.mem_cons.mp hb with eb | hb2
      · exact (h1 (by rw [← eb, ← e]; exact List.mem_map.mpr ⟨a, ha2, rfl⟩)).elim
      · exact nodup_inj h2 a ha2 b hb2 e
section
variable {P : Program} {w : World} {K : PySem.W.Frag} {mg : Str → Option Value} {base : Heap} {Z : Zt} {G : List (Str × Gv)} {rz : List Nat} {li nc : Nat} {tf : List He.Defn} {b : List Stmt}
abbrev Fu (K : PySem.W.Frag) (b : List Stmt) (r : Rec) (fd : FuncData) : Prop := FunD K r.name r.name (r.args b) (r.body b) (r.sc b) [] [] (He.ga K r.name) fd
theorem rec_binds {lvl : List Nat} {r : Rec} {fd : FuncData} (o : RecOk b G rz nc li tf lvl r) (F : Fu K b r fd) : Binds K fd r.ps [] := F.bindsN o.bi
theorem recs_go (Mo : Modu P w K mg base Z G rz li nc) : ∀ (rs : List Rec) (Fs : List Fn) (lvl : List Nat), RecsOk b G rz nc li tf lvl rs → (∀ r ∈ rs, ∃ fd, Fu K b r fd) → (∀ r ∈ rs, r.lam = true → (r.name, none) ∈ tf → ∀ fd, Fu K b r fd → LmD K mg base Z fd r.name) →
    lvl.length = Fs.length → (∀ (i : Nat) r, rs[i]? = some r → Z.fa (Fs.length + i) = He.ga K r.name) → (∀ (k : Nat) f l, Fs[k]? = some f → lvl[k]? = some l → FnX P w K mg base Z l k f) →
    ∀ (k : Nat) f l, (fnsOf rs Fs)[k]? = some f → (lvls rs lvl)[k]? = some l → FnX P w K mg base Z l k f
  | [], Fs, lvl, _, _, _, _, _, h => h
  | r :: rs, Fs, lvl, .cons o os, hF, hL, hl, hz, h => by
    unfold fnsOf lvls
    obtain ⟨fd, F⟩ := hF r List.mem_cons_self
    have ez : Z.fa Fs.length = He.ga K r.name := by
      have := hz 0 r rfl
      rw [Nat.add_zero] at this
      exact this
    have F' : FunD K r.name r.name (r.args b) (r.body b) (r.sc b) [] [] (Z.fa Fs.length) fd := by
      rw [ez]
      exact F
    have X := def_sound (n := Fs.length) Mo F' (rec_binds o F) o.sc (Nat.le_of_eq hl) h (fun e => hL r List.mem_cons_self e (o.lm e) fd F) o.li o.n o.p o.pn o.ck
    refine recs_go Mo rs (Fs ++ [runF Fs r.d]) (lvl ++ [r.lv + 1]) os (fun r' hr => hF r' (List.mem_cons_of_mem _ hr)) (fun r' hr => hL r' (List.mem_cons_of_mem _ hr)) (by simp [hl]) (fun i r' hr => ?_) (fun k f l h1 h2 => ?_)
    · have := hz (i + 1) r' (by rw [List.getElem?_cons_succ]; exact hr)
      rw [List.length_append, List.length_singleton, Nat.add_assoc, Nat.add_comm 1 i]
      exact this
    · by_cases hk : k < Fs.length
      · rw [List.getElem?_append_left hk] at h1
        rw [List.getElem?_append_left (by rw [hl]; exact hk)] at h2
        exact h k f l h1 h2
      · have hk1 : k < (Fs ++ [runF Fs r.d]).length := (List.getElem?_eq_some_iff.mp h1).1
        rw [List.length_append, List.length_singleton] at hk1
        have e : k = Fs.length := by omega
        subst e
        rw [List.getElem?_append_right (Nat.le_refl _), Nat.sub_self] at h1
        rw [List.getElem?_append_right (by rw [hl]; exact Nat.le_refl _), hl, Nat.sub_self] at h2
        cases h1
        cases h2
        exact X
/-! ### what a law's head tells -/
/-- the def that hears; the class's __init__ -/
structure LD where
  b : List Stmt
  G : List (Str × Gv)
  rz : List Nat
  cl : List Str
  recs : List Rec
  law : Rec
  tf : List He.Defn
  fns : List Str
  hI : Nat
  hQ : Nat → Pos
  iI : Nat
  iQ : Nat → Pos
def LD.hd (L : LD) : He.DefD := ⟨("_law_heard", none), "_law_heard", "_law_heard", defArgs (topAt L.b L.hI), defBody (topAt L.b L.hI), defScope (topAt L.b L.hI), [], []⟩
def LD.id (L : LD) : He.DefD := ⟨("WashError", some "__init__"), "__init__", "WashError.__init__", defArgs (inClass (topAt L.b L.iI) 0), defBody (inClass (topAt L.b L.iI) 0), defScope (inClass (topAt L.b L.iI) 0), [], []⟩
def LD.fa (L : LD) : List He.Fa := .glo "_law_heard" :: .glo "WashError" :: .free "ValueError" :: .glo "law" :: L.G.map faOf
def LD.fn (L : LD) : List He.DefD := L.law.dd L.b :: L.hd :: L.id :: L.recs.map (Rec.dd L.b)
def LD.ex (L : LD) : PySem.W.Frag → Bool := exOf L.cl L.tf
abbrev LD.hk (L : LD) : PySem.W.Hook := He.hookX 5 L.fa L.fn [] L.tf L.ex
def LD.z (L : LD) (K : PySem.W.Frag) : Zt := zOf K L.fns L.cl L.tf
structure LOk (L : LD) : Prop where
  recs : RecsOk L.b L.G L.rz L.cl.length 1 L.tf [] L.recs
  law : RecOk L.b L.G L.rz L.cl.length 1 L.tf (lvls L.recs []) L.law
  fns : L.fns = L.recs.map (·.name)
  lawN : L.law.name = "law"
  lawP : L.law.ps = (["script"] : List Str)
  g : L.G.all (gOk L.fns L.cl) = true
  cl : L.cl.getD 0 "" = "WashError"
  hb : defBody (topAt L.b L.hI) = heBody L.hQ
  hs : defScope (topAt L.b L.hI) = heSc
  hl : (L.hQ 1).line = (L.hQ 0).line
  ha : ∀ (kV doc pm : Value) (an : Option Addr) (cdv ct : Value) (us : List Value), us.length = 1 → bindArgs (PySem.W.fnOf "_law_heard" "_law_heard" (defArgs (topAt L.b L.hI)) (defBody (topAt L.b L.hI)) (defScope (topAt L.b L.hI)) .none kV doc pm an cdv ct) ⟨us, []⟩ = pure ((["call"] : List Str).zip us)
  ib : defBody (inClass (topAt L.b L.iI) 0) = inBody L.iQ
  is : defScope (inClass (topAt L.b L.iI) 0) = inSc
  ip : InPos L.iQ
  ia : ∀ (kV doc pm : Value) (an : Option Addr) (cdv ct : Value) (us : List Value), us.length = 2 → bindArgs (PySem.W.fnOf "__init__" "WashError.__init__" (defArgs (inClass (topAt L.b L.iI) 0)) (defBody (inClass (topAt L.b L.iI) 0)) (defScope (inClass (topAt L.b L.iI) 0)) .none kV doc pm an cdv ct) ⟨us, []⟩ = pure ((["self", "value"] : List Str).zip us)
  room : Room (L.law.lv + 1) callerA
section
variable {L : LD}
theorem LOk.zfa (o : LOk L) {i : Nat} {r : Rec} (h : L.recs[i]? = some r) : (L.z K).fa i = He.ga K r.name := by
  show He.ga K (L.fns.getD i "law") = _
  rw [o.fns, List.getD_eq_getElem?_getD, List.getElem?_map, h]
  rfl
theorem LOk.zlaw (o : LOk L) : (L.z K).fa L.recs.length = He.ga K L.law.name := by
  show He.ga K (L.fns.getD L.recs.length "law") = _
  rw [o.fns, o.lawN, List.getD_eq_getElem?_getD, List.getElem?_eq_none (by simp)]
  rfl
theorem LOk.fu (o : LOk L) (c : He.SaysD L.fa L.fn K) {r : Rec} (h : r ∈ L.recs) : ∃ fd, Fu K L.b r fd := by
  obtain ⟨fd, F⟩ := c.defs (d := r.dd L.b) (List.mem_cons_of_mem _ (List.mem_cons_of_mem _ (List.mem_cons_of_mem _ (List.mem_map.mpr ⟨r, h, rfl⟩))))
  exact ⟨fd, F⟩
theorem LOk.fl (o : LOk L) (c : He.SaysD L.fa L.fn K) : ∃ fd, Fu K L.b L.law fd := by
  obtain ⟨fd, F⟩ := c.defs (d := L.law.dd L.b) List.mem_cons_self
  exact ⟨fd, F⟩
theorem LOk.mem (o : LOk L) (e : Nat) : L.cl.getD e "WashError" ∈ L.cl := by
  have h0 := o.cl
  by_cases he : e < L.cl.length
  · rw [List.getD_eq_getElem?_getD, List.getElem?_eq_getElem he]
    exact List.getElem_mem he
  · rw [List.getD_eq_getElem?_getD, List.getElem?_eq_none (Nat.le_of_not_lt he)]
    show ("WashError" : Str) ∈ L.cl
    cases hc : L.cl with
    | nil =>
      rw [hc] at h0
      cases h0
    | cons x xs =>
      rw [hc] at h0
      have : x = "WashError" := h0
      rw [this]
      exact List.mem_cons_self
theorem LOk.hear (o : LOk L) (X : K.In base) (N : base.Ns mainGlobals mg) (c : He.SaysD L.fa L.fn K) (D : ExD L.cl L.tf K) : HearD K mg (L.z K) := by
  obtain ⟨fd, F⟩ := c.defs (d := L.hd) (List.mem_cons_of_mem _ List.mem_cons_self)
  have F' : FunD K "_law_heard" "_law_heard" (defArgs (topAt L.b L.hI)) (heBody L.hQ) heSc [] [] (He.ga K "_law_heard") fd := by
    rw [← o.hb, ← o.hs]
    exact F
  have hb : Binds K fd ["call"] [] := FunD.bindsN (ps := ["call"]) F (fun kV doc pm an cdv ct us hl => o.ha kV doc pm an cdv ct us hl)
  exact ⟨He.ga K "_law_heard", He.ga K "WashError", fd, _, L.hQ, F', hb, He.glo_ok X N (c.facts List.mem_cons_self), He.glo_ok X N (c.facts (List.mem_cons_of_mem _ List.mem_cons_self)), fun e => (D.cla _ (o.mem e)).xm, o.hl⟩
theorem LOk.lm (o : LOk L) (X : K.In base) (N : base.Ns mainGlobals mg) (c : He.SaysD L.fa L.fn K) (D : ExD L.cl L.tf K) (tb : ∀ p ∈ L.tf.map (He.cT K), LamX.TabB base mg p.1 p.2) {r : Rec} {fd : FuncData} (ht : (r.name, none) ∈ L.tf) (F : Fu K L.b r fd) : LmD K mg base (L.z K) fd r.name := by
  refine ⟨o.hear X N c D, (He.cT K (r.name, none)).1, (He.cT K (r.name, none)).2, tb _ (List.mem_map.mpr ⟨_, ht, rfl⟩), ?_, List.mem_map.mpr ⟨_, ht, rfl⟩, fun p hp e => ?_⟩
  · obtain ⟨oc, od, dV, kV, doc, pm, an, cdv, ct, osl, rfl, lk, hcd, _, _⟩ := F.ex
    obtain ⟨c', rfl⟩ := He.codeIn_ref hcd
    have z := He.codeOf_eq (p := (r.name, none)) lk rfl
    show Value.ref c' = .ref (He.codeOf K (r.name, none))
    rw [z]
  · obtain ⟨t, h1, rfl⟩ := List.mem_map.mp hp
    have z : t = (r.name, none) := nodup_inj D.nd t h1 _ ht e
    subst z
    rfl
theorem LOk.modu (o : LOk L) (X : K.In base) (N : base.Ns mainGlobals mg) (c : He.SaysD L.fa L.fn K) (D : ExD L.cl L.tf K) : Modu P w K mg base (L.z K) L.G L.rz 1 L.cl.length := by
  refine ⟨rfl, gv_of X N (fun p hp => c.facts (List.mem_cons_of_mem _ (List.mem_cons_of_mem _ (List.mem_cons_of_mem _ (List.mem_cons_of_mem _ (List.mem_map.mpr ⟨p, hp, rfl⟩)))))) o.g, fun e _ => ?_, fun _ => errD_of D o.cl⟩
  obtain ⟨fd, F⟩ := c.defs (d := L.id) (List.mem_cons_of_mem _ (List.mem_cons_of_mem _ List.mem_cons_self))
  have F' : FunD K "__init__" "WashError.__init__" (defArgs (inClass (topAt L.b L.iI) 0)) (inBody L.iQ) inSc [] [] (He.ma K (He.ga K "WashError") "__init__") fd := by
    rw [← o.ib, ← o.is]
    exact F
  have hb : Binds K fd ["self", "value"] [] := FunD.bindsN (ps := ["self", "value"]) F (fun kV doc pm an cdv ct us hl => o.ia kV doc pm an cdv ct us hl)
  have C := D.cla _ (o.mem e)
  exact raz_of (k := 0) F' hb o.ip (He.free_ok X N (c.facts (List.mem_cons_of_mem _ (List.mem_cons_of_mem _ List.mem_cons_self)))) D.vei C.ox C.nv C.ini D.fty
theorem LOk.fns_ok (o : LOk L) (X : K.In base) (N : base.Ns mainGlobals mg) (c : He.SaysD L.fa L.fn K) (D : ExD L.cl L.tf K) (tb : ∀ p ∈ L.tf.map (He.cT K), LamX.TabB base mg p.1 p.2) :
    ∀ (k : Nat) f l, (fnsOf L.recs [])[k]? = some f → (lvls L.recs [])[k]? = some l → FnX P w K mg base (L.z K) l k f :=
  recs_go (o.modu X N c D) L.recs [] [] o.recs (fun r hr => o.fu c hr) (fun r hr _ ht fd F => o.lm X N c D tb ht F) rfl (fun i r hr => by rw [List.length_nil, Nat.zero_add]; exact o.zfa hr) (fun k f l h => by cases h)
theorem LOk.law_ok (o : LOk L) (X : K.In base) (N : base.Ns mainGlobals mg) (c : He.SaysD L.fa L.fn K) (D : ExD L.cl L.tf K) (tb : ∀ p ∈ L.tf.map (He.cT K), LamX.TabB base mg p.1 p.2) {fd : FuncData} (F : Fu K L.b L.law fd) :
    FnG P w K mg base (L.law.lv + 1) (He.ga K L.law.name) fd ["script"] (spF (L.z K) (runF (fnsOf L.recs []) L.law.d)) := by
  have F' : FunD K L.law.name L.law.name (L.law.args L.b) (L.law.body L.b) (L.law.sc L.b) [] [] ((L.z K).fa L.recs.length) fd := by
    rw [o.zlaw]
    exact F
  have hb := rec_binds o.law F
  have q := def_fnG (Fs := fnsOf L.recs []) (n := L.recs.length) (o.modu (P := P) (w := w) X N c D) F' hb o.law.sc (by rw [lvls_len, fnsOf_len]; exact Nat.le_refl _) (o.fns_ok X N c D tb) (fun e => o.lm X N c D tb (o.law.lm e) F) o.law.li o.law.n o.law.p o.law.pn o.law.ck
  rw [o.zlaw, o.lawP] at q
  exact q
theorem law_go (o : LOk L) {l : PySem.W.OpenLaw} {q : Program} {loose : List Str} {XP : (Str → Option Value) → Heap → Prop} {d : DefRec} (hn : l.most = some 63) (hdn : d.name = "law") (hdf : d.params.defaults = [])
    (h : ∀ ns : List Int, ns.length ≤ 63 → (∀ z ∈ ns, Builtin.Int.intBits z ≤ 1048576) → ∃ M, runF (fnsOf L.recs []) L.law.d noClo [.scr ns] [] = some (.ok ⟨.py (.bool true), false, M⟩)) :
    PySem.W.WalkO q loose XP L.hk.says l.row.toRowW d [] (fun f vs => PySem.call f vs) := by
  refine Att.attach_callB hn hdf fun w s₀ s₁ mg mb fa ob pm cd doc a vs ns G Y ho hd hcd hmg hobj hints hlen hbits hg => ?_
  obtain ⟨K, KX, S⟩ := Y
  have c : He.SaysD L.fa L.fn K := S.t.d
  have D : ExD L.cl L.tf K := exOf_ok S.more
  obtain ⟨fd, F⟩ := o.fl c
  have efa : fa = He.ga K L.law.name := by
    obtain ⟨oc, od, dV, kV, doc, pm, an, cdv, ct, osl, rfl, lk, hcd2, _, _⟩ := F.ex
    have z : mg L.law.name = some (.ref (He.ga K L.law.name)) := by
      rw [o.lawN]
      exact He.glo_ok KX G.T.g (c.facts (f := .glo "law") (List.mem_cons_of_mem _ (List.mem_cons_of_mem _ (List.mem_cons_of_mem _ List.mem_cons_self))))
    rw [hdn, ← o.lawN] at hmg
    rw [z] at hmg
    cases hmg
    rfl
  subst efa
  have hz : (63 : Nat) ≤ sizeLine := by decide
  have hb : ∀ (s : Shared) (u : Value), BindsTo s fd ⟨[u], []⟩ [("script", u)] := fun s u => by
    have := FunD.bindsA (ps := L.law.ps) F o.law.bi s [u] (by rw [o.lawP]; rfl)
    rw [o.lawP] at this
    exact this
  refine law_endG (cs := L.tf.map (He.cT K)) KX G.T.g G.T.b G.T.builtins G.T.nolimit hg (fun p hp => ?_) (fun p hp => ?_) (fun p hp => ?_) G.T.bmain hobj hints (Nat.le_trans hlen hz) o.room (fun base X N tb => o.law_ok X N c D tb F) hb fun H h1 h2 h3 => ?_
  · obtain ⟨t, ht, rfl⟩ := List.mem_map.mp hp
    exact S.empty t ht
  · obtain ⟨t, ht, rfl⟩ := List.mem_map.mp hp
    exact S.out t ht
  · obtain ⟨t, ht, rfl⟩ := List.mem_map.mp hp
    exact PySem.W.codeHd_of_K KX (S.hd t ht)
  · obtain ⟨M, hM⟩ := h ns hlen hbits
    refine ⟨[.scr ns], [], fun b => b = a ∧ H a = some (.lst (ns.map V.int)), [], ⟨fun b z => ⟨by rw [z.1, z.2]; simp, by simp⟩, rfl, fun n ps z => (by cases z), List.nodup_nil, fun p hp => ?_⟩, .cons (.scr ?_) .nil, _, hM, fun F' φ' H' v po g ro => ?_⟩
    · obtain ⟨t, ht, rfl⟩ := List.mem_map.mp hp
      exact LamX.TabS.nil (h1 _ (List.mem_map.mpr ⟨t, ht, rfl⟩))
    · rcases h3 with (h3 | h3) | h3
      · exact .inr (.inl ⟨⟨rfl, h3⟩, h3⟩)
      · exact .inl h3
      · exact .inr (.inr (.inr h3))
    · have r : Rep (L.z K) F' φ' H' v (.py (.bool true)) := ro
      cases r with
      | py r => cases r; rfl
end
end
end Ev

/-! Places of the common texts. -/
namespace Ev
open L2 PyProof.Rows PySem PySem.Spec
abbrev pos0 : Pos := ⟨0, 0, 0, 0⟩
def posH : List Stmt → List Pos
  | [.Assign [.Tuple [.Name _ q0, .Name _ q1] _ q2] (.Tuple [.Constant _ _ q3, .Constant _ _ q4] _ q5) q6, .Try [.Assign [.Name _ q7] (.Call (.Name _ q8) [] [] q9) q10] [.ExceptHandler (some (.Name _ q11)) _ [.Assign [.Name _ q12] (.Name _ q13) q14] q15] [] [] q16, .Return (some (.Tuple [.Name _ q17, .Name _ q18] _ q19)) q20] =>
    [q0, q1, q2, q3, q4, q5, q6, q7, q8, q9, q10, q11, q12, q13, q14, q15, q16, q17, q18, q19, q20]
  | _ => []
def posI : List Stmt → List Pos
  | [.Expr (.Call (.Attribute (.Name _ q0) _ q1) [.Name _ q2, .Name _ q3] [] q4) q5, .Assign [.Attribute (.Name _ q6) _ q7] (.Name _ q8) q9] => [q0, q1, q2, q3, q4, q5, q6, q7, q8, q9]
  | _ => []
def atP (l : List Pos) (n : Nat) : Pos := l.getD n pos0
/-- a call of a def that is known -/
def callF (f : Fn) (a : Ls) : RE := bz (f noClo (a.ds.map (·.1)) a.M) fun o => some (.ok ⟨o.d, mdOf o.fr, fzs a.ds a.ρ, o.M⟩)
@[simp] theorem callF_d (f : Fn) (a : Ls) : callF f a = bz (f noClo (a.ds.map (·.1)) a.M) fun o => some (.ok ⟨o.d, mdOf o.fr, fzs a.ds a.ρ, o.M⟩) := (rfl)
end Ev

/-! Evaluation by rewriting. -/
namespace Ev
open PySem
section
variable {α β γ : Type} {Fs : List Fn} {C : Nv → Clo} {ρ ρ1 : Nv} {M : Mem}
@[simp] theorem bz_ok (a : α) (k : α → Option (Rz β)) : bz (some (.ok a)) k = k a := (rfl)
@[simp] theorem bz_er (c : Nat) (p : PyData) (M : Mem) (k : α → Option (Rz β)) : bz (some (.er c p M)) k = some (.er c p M) := (rfl)
@[simp] theorem ob_s (a : α) (k : α → Option β) : ob (some a) k = k a := (rfl)
@[simp] theorem vl_d (d : D) (m : Md) : vl d m ρ M = some (.ok ⟨d, m, ρ, M⟩) := (rfl)
@[simp] theorem nx_d : nx ρ M = some (.ok (.nx ρ M)) := (rfl)
@[simp] theorem gi_d (i : Int) (k : Int → Option β) : gi (.py (.int i)) k = k i := (rfl)
@[simp] theorem outOf_rt (o : Ov) : outOf (some (.ok (.rt o))) = some (.ok o) := (rfl)
@[simp] theorem outOf_nx : outOf (some (.ok (.nx ρ M))) = some (.ok ⟨.py .none, false, M⟩) := (rfl)
@[simp] theorem outOf_er (c : Nat) (p : PyData) : outOf (some (.er c p M)) = some (.er c p M) := (rfl)
@[simp] theorem frOf_sh : frOf ρ .sh = false := (rfl)
@[simp] theorem frOf_fr : frOf ρ .fr = true := (rfl)
@[simp] theorem mdOf_t : mdOf true = .fr := (rfl)
@[simp] theorem mdOf_f : mdOf false = .sh := (rfl)
@[simp] theorem fz_sh : fz .sh ρ = ρ := (rfl)
@[simp] theorem fz_fr : fz .fr ρ = ρ := (rfl)
@[simp] theorem fz_bo (i : Nat) : fz (.bo i) ρ = unown ρ i := (rfl)
@[simp] theorem fzs_n : fzs [] ρ = ρ := (rfl)
@[simp] theorem fzs_c (p : D × Md) (ps : List (D × Md)) : fzs (p :: ps) ρ = fzs ps (fz p.2 ρ) := (rfl)
@[simp] theorem liftO_s (p : D × Bool) : liftO (some p) ρ M = some (.ok ⟨p.1, mdOf p.2, ρ, M⟩) := (rfl)
/-! variables -/
theorem var_sh {i : Nat} {d : D} (h : ρ[i]? = some (some (d, false))) : evE Fs C (.var i) ρ M = some (.ok ⟨d, .sh, ρ, M⟩) := by
  unfold evE
  rw [h] <;> rfl
theorem var_ow {i : Nat} {d : D} (h : ρ[i]? = some (some (d, true))) : evE Fs C (.var i) ρ M = some (.ok ⟨d, .bo i, ρ, M⟩) := by
  unfold evE
  rw [h] <;> rfl
theorem unown_ow {i : Nat} {d : D} (h : ρ[i]? = some (some (d, true))) : unown ρ i = ρ.set i (some (d, false)) := by
  unfold unown
  rw [h] <;> rfl
theorem unown_sh {i : Nat} {d : D} (h : ρ[i]? = some (some (d, false))) : unown ρ i = ρ := by
  unfold unown
  rw [h] <;> rfl
theorem owned_ow {i : Nat} {d : D} (h : ρ[i]? = some (some (d, true))) : owned ρ i = some d := by
  unfold owned
  rw [h] <;> rfl
theorem frOf_ow {i : Nat} {d : D} (h : ρ[i]? = some (some (d, true))) : frOf ρ (.bo i) = true := by
  show (match ρ[i]? with
    | some (some (_, true)) => true
    | _ => false) = _
  rw [h] <;> rfl
theorem frOf_bo {i : Nat} {d : D} (h : ρ[i]? = some (some (d, false))) : frOf ρ (.bo i) = false := by
  show (match ρ[i]? with
    | some (some (_, true)) => true
    | _ => false) = _
  rw [h] <;> rfl
def vget (i : Nat) (ρ : Nv) (M : Mem) : Option Slot → RE
  | some (some (d, true)) => some (.ok ⟨d, .bo i, ρ, M⟩)
  | some (some (d, false)) => some (.ok ⟨d, .sh, ρ, M⟩)
  | _ => none
@[simp] theorem vget_t (i : Nat) (d : D) : vget i ρ M (some (some (d, true))) = some (.ok ⟨d, .bo i, ρ, M⟩) := (rfl)
@[simp] theorem vget_f (i : Nat) (d : D) : vget i ρ M (some (some (d, false))) = some (.ok ⟨d, .sh, ρ, M⟩) := (rfl)
@[simp] theorem e_var (i : Nat) : evE Fs C (.var i) ρ M = vget i ρ M ρ[i]? := by
  unfold evE vget
  split <;> simp_all
def uget (i : Nat) (ρ : Nv) : Option Slot → Nv
  | some (some (d, true)) => ρ.set i (some (d, false))
  | _ => ρ
@[simp] theorem uget_t (i : Nat) (d : D) : uget i ρ (some (some (d, true))) = ρ.set i (some (d, false)) := (rfl)
@[simp] theorem uget_f (i : Nat) (d : D) : uget i ρ (some (some (d, false))) = ρ := (rfl)
@[simp] theorem unown_ (i : Nat) : unown ρ i = uget i ρ ρ[i]? := by
  unfold unown uget
  split <;> simp_all
def oget : Option Slot → Option D
  | some (some (d, true)) => some d
  | _ => none
@[simp] theorem oget_t (d : D) : oget (some (some (d, true))) = some d := (rfl)
@[simp] theorem owned_ (i : Nat) : owned ρ i = oget ρ[i]? := by
  unfold owned oget
  split <;> simp_all
def fget : Option Slot → Bool
  | some (some (_, true)) => true
  | _ => false
@[simp] theorem fget_t (d : D) : fget (some (some (d, true))) = true := (rfl)
@[simp] theorem fget_f (d : D) : fget (some (some (d, false))) = false := (rfl)
@[simp] theorem frOf_ (i : Nat) : frOf ρ (.bo i) = fget ρ[i]? := by
  show (match ρ[i]? with
    | some (some (_, true)) => true
    | _ => false) = _
  unfold fget
  split <;> simp_all
/-! terms -/
@[simp] theorem e_no : evE Fs C .no ρ M = some (.ok ⟨.py (.bool true), .sh, ρ, M⟩) := by unfold evE; rfl
@[simp] theorem e_lit (p : PyData) : evE Fs C (.lit p) ρ M = some (.ok ⟨.py p, .sh, ρ, M⟩) := by unfold evE; rfl
@[simp] theorem e_gli (x : Str) (i : Int) : evE Fs C (.gli x i) ρ M = some (.ok ⟨.py (.int i), .sh, ρ, M⟩) := by unfold evE; rfl
@[simp] theorem e_gls (x s : Str) : evE Fs C (.gls x s) ρ M = some (.ok ⟨.py (.str s), .sh, ρ, M⟩) := by unfold evE; rfl
@[simp] theorem e_glf (k : Nat) : evE Fs C (.glf k) ρ M = some (.ok ⟨.fn k, .sh, ρ, M⟩) := by unfold evE; rfl
@[simp] theorem e_tup (es : Es) : evE Fs C (.tup es) ρ M = bz (evL Fs C es ρ M) fun a => if a.ds.length ≤ sizeLine then some (.ok ⟨mkT (a.ds.map (·.1)), .sh, fzs a.ds a.ρ, a.M⟩) else none := (rfl)
@[simp] theorem e_lst (es : Es) : evE Fs C (.lst es) ρ M = bz (evL Fs C es ρ M) fun a => if a.ds.length ≤ sizeLine then some (.ok ⟨mkL (a.ds.map (·.1)), .fr, fzs a.ds a.ρ, a.M⟩) else none := (rfl)
@[simp] theorem e_bin (o : Op2) (a b : E) : evE Fs C (.bin o a b) ρ M = bz (evE Fs C a ρ M) fun x => bz (evE Fs C b x.ρ x.M) fun y => liftO (o2 o x.d y.d) y.ρ y.M := (rfl)
@[simp] theorem e_neg (a : E) : evE Fs C (.neg a) ρ M = bz (evE Fs C a ρ M) fun x => gi x.d fun i => some (.ok ⟨.py (.int (-i)), .sh, x.ρ, x.M⟩) := (rfl)
@[simp] theorem e_not (a : E) : evE Fs C (.not a) ρ M = bz (evE Fs C a ρ M) fun x => ob (tru x.d) fun b => some (.ok ⟨.py (.bool (!b)), .sh, x.ρ, x.M⟩) := (rfl)
@[simp] theorem e_bop (k : Bool) (es : Es) : evE Fs C (.bop k es) ρ M = evB Fs C k es ρ M := (rfl)
@[simp] theorem e_cmp (a : E) (os : List Cm) (es : Es) : evE Fs C (.cmp a os es) ρ M = bz (evE Fs C a ρ M) fun x => evC Fs C os es x.d x.ρ x.M := (rfl)
@[simp] theorem e_ite (c a b : E) : evE Fs C (.ite c a b) ρ M = bz (evE Fs C c ρ M) fun x => ob (tru x.d) fun t => if t = true then evE Fs C a x.ρ x.M else evE Fs C b x.ρ x.M := (rfl)
@[simp] theorem e_ix (a b : E) : evE Fs C (.ix a b) ρ M = bz (evE Fs C a ρ M) fun x => bz (evE Fs C b x.ρ x.M) fun y => ob (ixD y.M x.d y.d) fun d => some (.ok ⟨d, .sh, y.ρ, y.M⟩) := (rfl)
@[simp] theorem e_rev (a : E) : evE Fs C (.rev a) ρ M = bz (evE Fs C a ρ M) fun x => liftO (revD x.d) x.ρ x.M := (rfl)
@[simp] theorem e_call (k : Nat) (es : Es) : evE Fs C (.call k es) ρ M = bz (evL Fs C es ρ M) fun a => callV Fs k a := (rfl)
@[simp] theorem e_bi (b : Bi) (es : Es) : evE Fs C (.bi b es) ρ M = bz (evL Fs C es ρ M) fun a => liftO (bi b (a.ds.map (·.1))) a.ρ a.M := (rfl)
@[simp] theorem e_isi (t : Ty) (e : E) : evE Fs C (.isi t e) ρ M = bz (evE Fs C e ρ M) fun x => ob (isi t x.d) fun b => some (.ok ⟨.py (.bool b), .sh, x.ρ, x.M⟩) := (rfl)
@[simp] theorem e_attr (a : E) : evE Fs C (.attr a) ρ M = bz (evE Fs C a ρ M) fun x => ob (attrD x.d) fun d => some (.ok ⟨d, .sh, x.ρ, x.M⟩) := (rfl)
@[simp] theorem e_lsrc (s : Src) : evE Fs C (.lsrc s) ρ M = bz (evSrc Fs C s ρ M) fun s => ob (items s.d) fun xs => some (.ok ⟨mkL xs, .fr, s.ρ, s.M⟩) := (rfl)
@[simp] theorem l_nil : evL Fs C .nil ρ M = some (.ok ⟨[], ρ, M⟩) := by unfold evL; rfl
@[simp] theorem l_cons (e : E) (es : Es) : evL Fs C (.cons false e es) ρ M = bz (evE Fs C e ρ M) fun x => bz (evL Fs C es x.ρ x.M) fun a => some (.ok ⟨(x.d, x.m) :: a.ds, a.ρ, a.M⟩) := (rfl)
@[simp] theorem l_star (e : E) (es : Es) : evL Fs C (.cons true e es) ρ M = bz (evE Fs C e ρ M) fun x => ob (items x.d) fun xs => bz (evL Fs C es x.ρ x.M) fun a => some (.ok ⟨xs.map (fun x => (x, Md.sh)) ++ a.ds, a.ρ, a.M⟩) := (rfl)
@[simp] theorem b_one (k s : Bool) (e : E) : evB Fs C k (.cons s e .nil) ρ M = evE Fs C e ρ M := by unfold evB; rfl
@[simp] theorem b_two (k s s2 : Bool) (e e2 : E) (es : Es) : evB Fs C k (.cons s e (.cons s2 e2 es)) ρ M = bz (evE Fs C e ρ M) fun x => ob (tru x.d) fun b => if b = k then evB Fs C k (.cons s2 e2 es) x.ρ x.M else some (.ok ⟨x.d, x.m, x.ρ, x.M⟩) := (rfl)
@[simp] theorem c_one (o : Cm) (s : Bool) (e : E) (x : D) : evC Fs C [o] (.cons s e .nil) x ρ M = bz (evE Fs C e ρ M) fun y => ob (cm o x y.d) fun b => some (.ok ⟨.py (.bool b), .sh, y.ρ, y.M⟩) := (rfl)
@[simp] theorem c_two (o : Cm) (os : List Cm) (s s2 : Bool) (e e2 : E) (es : Es) (x : D) : evC Fs C (o :: os) (.cons s e (.cons s2 e2 es)) x ρ M = bz (evE Fs C e ρ M) fun y => ob (cm o x y.d) fun b => if b = true then evC Fs C os (.cons s2 e2 es) y.d y.ρ y.M else some (.ok ⟨.py (.bool false), .sh, y.ρ, y.M⟩) := by
  cases os <;> rfl
@[simp] theorem s_it_ (e : E) : evSrc Fs C (.it e) ρ M = bz (evE Fs C e ρ M) fun x => ob (items x.d) fun _ => some (.ok x) := (rfl)
@[simp] theorem s_r1 (b : E) : evSrc Fs C (.rng1 b) ρ M = bz (evE Fs C b ρ M) fun y => gi y.d fun j => ob (rngL 0 j 1) fun xs => some (.ok ⟨.ml xs, .sh, y.ρ, y.M⟩) := (rfl)
@[simp] theorem s_r2 (a b : E) : evSrc Fs C (.rng2 a b) ρ M = bz (evE Fs C a ρ M) fun x => gi x.d fun i => bz (evE Fs C b x.ρ x.M) fun y => gi y.d fun j => ob (rngL i j 1) fun xs => some (.ok ⟨.ml xs, .sh, y.ρ, y.M⟩) := (rfl)
@[simp] theorem s_en (e : E) : evSrc Fs C (.enu e) ρ M = bz (evE Fs C e ρ M) fun x => ob (items x.d) fun xs => some (.ok ⟨.ml (enuFrom 0 xs), x.m, x.ρ, x.M⟩) := (rfl)
@[simp] theorem s_zp (a b : E) : evSrc Fs C (.zip a b) ρ M = bz (evE Fs C a ρ M) fun x => bz (evE Fs C b x.ρ x.M) fun y => ob (items x.d) fun xs => ob (items y.d) fun ys => if isLst x.d != isLst y.d then none else some (.ok ⟨.ml (zipL xs ys), .sh, fz y.m (fz x.m y.ρ), y.M⟩) := (rfl)
def compE (Fs : List Fn) (C : Nv → Clo) (t : T) (cond elt : E) (own : List Nat) (xs : List D) (ρ : Nv) (M : Mem) : Option Cv := compL (bindT t) (fun ρ M => evE Fs C cond ρ M) (fun ρ M => evE Fs C elt ρ M) own xs ρ M
def forE (Fs : List Fn) (C : Nv → Clo) (t : T) (body : Ss) (xs : List D) (ρ : Nv) (M : Mem) : RS := forL (bindT t) (fun ρ M => evSs Fs C body ρ M) xs ρ M
@[simp] theorem e_comp (own : List (Str × Nat)) (t : T) (src : Src) (cond elt : E) : evE Fs C (.comp own t src cond elt) ρ M = bz (evSrc Fs C src ρ M) fun s => ob (items s.d) fun xs => if xs.length ≤ sizeLine then
      ob (compE Fs C t cond elt (own.map (·.2)) xs (wipeN s.ρ (own.map (·.2))) s.M) fun r => some (.ok ⟨mkL r.xs, .fr, backN s.ρ r.ρ (own.map (·.2)), r.M⟩)
      else none := (rfl)
@[simp] theorem e_hearL (a : E) : evE Fs C (.hearL a) ρ M = (match evE Fs C a (frzAll ρ) M with
    | some (.ok x) => some (.ok ⟨mkT [.py .none, x.d], .sh, fz x.m x.ρ, x.M⟩)
    | some (.er c p M1) => some (.ok ⟨mkT [.exc c p, .py .none], .sh, frzAll ρ, M1⟩)
    | none => none) := (rfl)
@[simp] theorem e_cv (ks : List Nat) (f : E) (es : Es) : evE Fs C (.cv ks f es) ρ M = bz (evE Fs C f ρ M) fun x => (match x.d with
    | .fn k => if ks.contains k = true then ob Fs[k]? fun _ => bz (evL Fs C es x.ρ x.M) fun a => callV Fs k a else none
    | _ => none) := (rfl)
/-! statements -/
@[simp] theorem t_asg (t : T) (e : E) : evS Fs C (.asg t e) ρ M = bz (evE Fs C e ρ M) fun x => ob (store t x.d x.m x.ρ) fun ρ2 => some (.ok (.nx ρ2 x.M)) := (rfl)
@[simp] theorem t_par (is : List Nat) (es : Es) : evS Fs C (.par is es) ρ M = bz (evL Fs C es ρ M) fun a => ob (storeAll is a.ds a.ρ) fun ρ2 => some (.ok (.nx ρ2 a.M)) := (rfl)
@[simp] theorem t_set (i : Nat) (ix v : E) : evS Fs C (.set i ix v) ρ M = ob (hasX ρ i) fun _ => bz (evE Fs C v ρ M) fun x => bz (evE Fs C ix (fz x.m x.ρ) x.M) fun y => gi y.d fun k => putX i k x.d y.ρ y.M := (rfl)
@[simp] theorem t_app (i : Nat) (e : E) : evS Fs C (.app i e) ρ M = ob (owned ρ i) fun _ => bz (evE Fs C e ρ M) fun x => ob (owned (fz x.m x.ρ) i) fun l => ob (appD l x.d) fun l' => some (.ok (.nx ((fz x.m x.ρ).set i (some (l', true))) x.M)) := (rfl)
@[simp] theorem t_ext (i : Nat) (e : E) : evS Fs C (.ext i e) ρ M = ob (owned ρ i) fun _ => bz (evE Fs C e ρ M) fun x => ob (owned (fz x.m x.ρ) i) fun l => ob (extD l x.d) fun l' => some (.ok (.nx ((fz x.m x.ρ).set i (some (l', true))) x.M)) := (rfl)
@[simp] theorem t_ex (e : E) : evS Fs C (.ex e) ρ M = bz (evE Fs C e ρ M) fun x => some (.ok (.nx x.ρ x.M)) := (rfl)
@[simp] theorem t_ret (e : E) : evS Fs C (.ret e) ρ M = bz (evE Fs C e ρ M) fun x => some (.ok (.rt ⟨x.d, frOf x.ρ x.m, x.M⟩)) := (rfl)
@[simp] theorem t_retn : evS Fs C .retn ρ M = some (.ok (.rt ⟨.py .none, false, M⟩)) := by unfold evS; rfl
@[simp] theorem t_ifs (c : E) (a b : Ss) : evS Fs C (.ifs c a b) ρ M = bz (evE Fs C c ρ M) fun x => ob (tru x.d) fun t => if t = true then evSs Fs C a x.ρ x.M else evSs Fs C b x.ρ x.M := (rfl)
@[simp] theorem t_for (t : T) (src : Src) (body : Ss) : evS Fs C (.for_ t src body) ρ M = bz (evSrc Fs C src ρ M) fun s => ob (items s.d) fun xs => forE Fs C t body xs (fz s.m s.ρ) s.M := (rfl)
@[simp] theorem t_rai (c : Nat) (e : E) : evS Fs C (.rai c e) ρ M = bz (evE Fs C e ρ M) fun x => (match x.d with
    | .py p => some (.er c p x.M)
    | _ => none) := (rfl)
@[simp] theorem t_pas : evS Fs C .pas ρ M = some (.ok (.nx ρ M)) := by unfold evS; rfl
@[simp] theorem t_brk : evS Fs C .brk ρ M = some (.ok (.br ρ M)) := by unfold evS; rfl
@[simp] theorem t_cnt : evS Fs C .cnt ρ M = some (.ok (.ct ρ M)) := by unfold evS; rfl
@[simp] theorem ss_nil : evSs Fs C .nil ρ M = some (.ok (.nx ρ M)) := by unfold evSs; rfl
@[simp] theorem ss_cons (s : S) (ss : Ss) : evSs Fs C (.cons s ss) ρ M = bz (evS Fs C s ρ M) fun f => (match f with
    | .nx ρ1 M1 => evSs Fs C ss ρ1 M1
    | f => some (.ok f)) := (rfl)
theorem callV_at {k : Nat} {f : Fn} (h : Fs[k]? = some f) (a : Ls) : callV Fs k a = callF f a := by
  unfold callV
  rw [h] <;> rfl
/-! stores -/
@[simp] theorem st_fr (i : Nat) (d : D) : store (.nm i) d .fr ρ = some (ρ.set i (some (d, true))) := (rfl)
@[simp] theorem st_sh (i : Nat) (d : D) : store (.nm i) d .sh ρ = some (ρ.set i (some (d, false))) := (rfl)
@[simp] theorem st_bo (i j : Nat) (d : D) : store (.nm i) d (.bo j) ρ = some ((unown ρ j).set i (some (d, false))) := (rfl)
@[simp] theorem st_tp (ts : List T) (d : D) (m : Md) : store (.tp ts) d m ρ = bindT (.tp ts) d (fz m ρ) := by
  unfold store
  cases m <;> rfl
@[simp] theorem bd_nm (i : Nat) (d : D) : bindT (.nm i) d ρ = some (ρ.set i (some (d, false))) := (rfl)
@[simp] theorem bd_tp (ts : List T) (d : D) : bindT (.tp ts) d ρ = ob (itemsT d) fun ds => bindTs ts ds ρ := (rfl)
@[simp] theorem bds_nil : bindTs [] [] ρ = some ρ := (rfl)
@[simp] theorem bds_cons (t : T) (ts : List T) (d : D) (ds : List D) : bindTs (t :: ts) (d :: ds) ρ = ob (bindT t d ρ) fun ρ1 => bindTs ts ds ρ1 := (rfl)
@[simp] theorem stA (is : List Nat) (ps : List (D × Md)) : storeAll is ps ρ = setAll is ps (fzs ps ρ) := (rfl)
@[simp] theorem sA_nil : setAll [] [] ρ = some ρ := (rfl)
@[simp] theorem sA_fr (i : Nat) (is : List Nat) (d : D) (ps : List (D × Md)) : setAll (i :: is) ((d, .fr) :: ps) ρ = setAll is ps (ρ.set i (some (d, true))) := (rfl)
@[simp] theorem sA_sh (i : Nat) (is : List Nat) (d : D) (ps : List (D × Md)) : setAll (i :: is) ((d, .sh) :: ps) ρ = setAll is ps (ρ.set i (some (d, false))) := (rfl)
@[simp] theorem sA_bo (i j : Nat) (is : List Nat) (d : D) (ps : List (D × Md)) : setAll (i :: is) ((d, .bo j) :: ps) ρ = setAll is ps (ρ.set i (some (d, false))) := (rfl)
@[simp] theorem wN_nil : wipeN ρ [] = ρ := (rfl)
@[simp] theorem wN_cons (v : Nat) (vs : List Nat) : wipeN ρ (v :: vs) = (wipeN ρ vs).set v none := (rfl)
@[simp] theorem bN_nil : backN ρ1 ρ [] = ρ := (rfl)
@[simp] theorem bN_cons (v : Nat) (vs : List Nat) : backN ρ1 ρ (v :: vs) = (backN ρ1 ρ vs).set v (ρ1.getD v none) := (rfl)
@[simp] theorem frz_nil : frzAll [] = [] := (rfl)
@[simp] theorem frz_n : frzAll (none :: ρ) = none :: frzAll ρ := (rfl)
@[simp] theorem frz_s (d : D) (b : Bool) : frzAll (some (d, b) :: ρ) = some (d, false) :: frzAll ρ := (rfl)
/-! values -/
@[simp] theorem all_nil : allPy [] = some [] := (rfl)
@[simp] theorem all_py (p : PyData) (r : List D) : allPy (.py p :: r) = ob (allPy r) fun ps => some (p :: ps) := by
  rw [show allPy (.py p :: r) = (match allPy r with | some ps => some (p :: ps) | none => none) from rfl]
  cases allPy r <;> rfl
@[simp] theorem all_map : ∀ ps : List PyData, allPy (ps.map .py) = some ps
  | [] => rfl
  | p :: ps => by rw [List.map_cons, all_py, all_map ps]; rfl
@[simp] theorem all_exc (c : Nat) (p : PyData) (r : List D) : allPy (.exc c p :: r) = none := (rfl)
@[simp] theorem all_fn (c : Nat) (r : List D) : allPy (.fn c :: r) = none := (rfl)
@[simp] theorem mkT_py {ds : List D} {ps : List PyData} (h : allPy ds = some ps) : mkT ds = .py (.tuple ps) := by
  unfold mkT
  rw [h]
@[simp] theorem mkL_py {ds : List D} {ps : List PyData} (h : allPy ds = some ps) : mkL ds = .py (.list ps) := by
  unfold mkL
  rw [h]
@[simp] theorem mkT_mt {ds : List D} (h : allPy ds = none) : mkT ds = .mt ds := by
  unfold mkT
  rw [h]
@[simp] theorem mkL_ml {ds : List D} (h : allPy ds = none) : mkL ds = .ml ds := by
  unfold mkL
  rw [h]
@[simp] theorem it_t (ps : List PyData) : items (.py (.tuple ps)) = some (ps.map .py) := (rfl)
@[simp] theorem it_l (ps : List PyData) : items (.py (.list ps)) = some (ps.map .py) := (rfl)
@[simp] theorem it_mt (ds : List D) : items (.mt ds) = some ds := (rfl)
@[simp] theorem it_ml (ds : List D) : items (.ml ds) = some ds := (rfl)
@[simp] theorem itT_t (ps : List PyData) : itemsT (.py (.tuple ps)) = some (ps.map .py) := (rfl)
@[simp] theorem itT_mt (ds : List D) : itemsT (.mt ds) = some ds := (rfl)
@[simp] theorem isL_l (ps : List PyData) : isLst (.py (.list ps)) = true := (rfl)
@[simp] theorem isL_t (ps : List PyData) : isLst (.py (.tuple ps)) = false := (rfl)
@[simp] theorem tru_n : tru (.py .none) = some false := (rfl)
@[simp] theorem tru_b (b : Bool) : tru (.py (.bool b)) = some b := (rfl)
@[simp] theorem tru_i (i : Int) : tru (.py (.int i)) = some (i != 0) := (rfl)
@[simp] theorem tru_t (ps : List PyData) : tru (.py (.tuple ps)) = some (!ps.isEmpty) := (rfl)
@[simp] theorem tru_l (ps : List PyData) : tru (.py (.list ps)) = some (!ps.isEmpty) := (rfl)
@[simp] theorem add_i (i j : Int) : o2 .add (.py (.int i)) (.py (.int j)) = some (.py (.int (i + j)), false) := (rfl)
@[simp] theorem sub_i (i j : Int) : o2 .sub (.py (.int i)) (.py (.int j)) = some (.py (.int (i - j)), false) := (rfl)
@[simp] theorem add_t (xs ys : List PyData) : o2 .add (.py (.tuple xs)) (.py (.tuple ys)) = if xs.length + ys.length ≤ sizeLine then some (.py (.tuple (xs ++ ys)), false) else none := by
  have e : oTup (.py (.tuple xs)) (.py (.tuple ys)) = if xs.length + ys.length ≤ sizeLine then some (.py (.tuple (xs ++ ys)), false) else none := (rfl)
  have e2 : o2 .add (.py (.tuple xs)) (.py (.tuple ys)) = orO oTup oLst (.py (.tuple xs)) (.py (.tuple ys)) := (rfl)
  rw [e2]
  unfold orO
  rw [e]
  split
  · rename_i h
    rw [← h]
  · rename_i h
    rw [h] <;> rfl
@[simp] theorem add_l (xs ys : List PyData) : o2 .add (.py (.list xs)) (.py (.list ys)) = if xs.length + ys.length ≤ sizeLine then some (.py (.list (xs ++ ys)), true) else none := (rfl)
@[simp] theorem le_i (i j : Int) : cm .le (.py (.int i)) (.py (.int j)) = some (decide (i ≤ j)) := (rfl)
@[simp] theorem lt_i (i j : Int) : cm .lt (.py (.int i)) (.py (.int j)) = some (decide (i < j)) := (rfl)
@[simp] theorem ge_i (i j : Int) : cm .ge (.py (.int i)) (.py (.int j)) = some (decide (j ≤ i)) := (rfl)
@[simp] theorem gt_i (i j : Int) : cm .gt (.py (.int i)) (.py (.int j)) = some (decide (j < i)) := (rfl)
@[simp] theorem eq_i (i j : Int) : cm .eq (.py (.int i)) (.py (.int j)) = some (i == j) := (rfl)
@[simp] theorem ne_i (i j : Int) : cm .ne (.py (.int i)) (.py (.int j)) = some (!(i == j)) := (rfl)
@[simp] theorem eq_s (i j : Str) : cm .eq (.py (.str i)) (.py (.str j)) = some (decide (i = j)) := (rfl)
@[simp] theorem ne_s (i j : Str) : cm .ne (.py (.str i)) (.py (.str j)) = some (!decide (i = j)) := (rfl)
@[simp] theorem is_n (p : PyData) : cm .is (.py p) (.py .none) = some (match p with | .none => true | _ => false) := by cases p <;> rfl
@[simp] theorem isn_n (p : PyData) : cm .isnot (.py p) (.py .none) = some (match p with | .none => false | _ => true) := by cases p <;> rfl
@[simp] theorem is_e (c : Nat) (p : PyData) : cm .is (.exc c p) (.py .none) = some false := (rfl)
@[simp] theorem isn_e (c : Nat) (p : PyData) : cm .isnot (.exc c p) (.py .none) = some true := (rfl)
@[simp] theorem len_t (xs : List PyData) : bi .len [.py (.tuple xs)] = some (.py (.int xs.length), false) := (rfl)
@[simp] theorem len_l (xs : List PyData) : bi .len [.py (.list xs)] = some (.py (.int xs.length), false) := (rfl)
@[simp] theorem len_mt (xs : List D) : bi .len [.mt xs] = some (.py (.int xs.length), false) := (rfl)
@[simp] theorem len_ml (xs : List D) : bi .len [.ml xs] = some (.py (.int xs.length), false) := (rfl)
@[simp] theorem len_sc (xs : List Int) : bi .len [.scr xs] = some (.py (.int xs.length), false) := (rfl)
@[simp] theorem tup_t (xs : List PyData) : bi .tuple [.py (.tuple xs)] = some (.py (.tuple xs), false) := (rfl)
@[simp] theorem tup_l (xs : List PyData) : bi .tuple [.py (.list xs)] = some (.py (.tuple xs), false) := (rfl)
@[simp] theorem lst_t (xs : List PyData) : bi .list [.py (.tuple xs)] = some (.py (.list xs), true) := (rfl)
@[simp] theorem lst_l (xs : List PyData) : bi .list [.py (.list xs)] = some (.py (.list xs), true) := (rfl)
@[simp] theorem int_i (i : Int) : bi .int [.py (.int i)] = some (.py (.int i), false) := (rfl)
@[simp] theorem int_b (b : Bool) : bi .int [.py (.bool b)] = some (.py (.int (if b then 1 else 0)), false) := (rfl)
@[simp] theorem min_i (i j : Int) : bi .min [.py (.int i), .py (.int j)] = some (.py (.int (if j < i then j else i)), false) := (rfl)
@[simp] theorem max_i (i j : Int) : bi .max [.py (.int i), .py (.int j)] = some (.py (.int (if j > i then j else i)), false) := (rfl)
@[simp] theorem abs_i (i : Int) : bi .abs [.py (.int i)] = some (.py (.int (if i < 0 then -i else i)), false) := (rfl)
@[simp] theorem ext_l (ps qs : List PyData) : extD (.py (.list ps)) (.py (.list qs)) = if ps.length + qs.length ≤ sizeLine then some (.py (.list (ps ++ qs))) else none := (rfl)
@[simp] theorem app_l (ps : List PyData) (p : PyData) : appD (.py (.list ps)) (.py p) = if ps.length < sizeLine then some (.py (.list (ps ++ [p]))) else none := (rfl)
@[simp] theorem eq_b (a b : Bool) : cm .eq (.py (.bool a)) (.py (.bool b)) = some (a == b) := (rfl)
@[simp] theorem ne_b (a b : Bool) : cm .ne (.py (.bool a)) (.py (.bool b)) = some (!(a == b)) := (rfl)
theorem allB_map : ∀ bs : List Bool, allB (bs.map .bool) = some bs
  | [] => rfl
  | b :: bs => by
    rw [List.map_cons]
    unfold allB
    rw [allB_map bs]
theorem allI_map : ∀ bs : List Int, allI (bs.map .int) = some bs
  | [] => rfl
  | b :: bs => by
    rw [List.map_cons]
    unfold allI
    rw [allI_map bs]
@[simp] theorem all_b (bs : List Bool) : bi .all [.py (.list (bs.map .bool))] = some (.py (.bool (bs.all id)), false) := by
  show ob (allB _) _ = _
  rw [allB_map] <;> rfl
@[simp] theorem any_b (bs : List Bool) : bi .any [.py (.list (bs.map .bool))] = some (.py (.bool (bs.any id)), false) := by
  show ob (allB _) _ = _
  rw [allB_map] <;> rfl
@[simp] theorem sum_i (bs : List Int) : bi .sum [.py (.list (bs.map .int))] = some (.py (.int bs.sum), false) := by
  show ob (allI _) _ = _
  rw [allI_map] <;> rfl
theorem rngL_up {n : Nat} (h : n ≤ sizeLine) : rngL 0 (n : Int) 1 = some ((List.range n).map fun (i : Nat) => .py (.int i)) := by
  have hz : sizeLine < 2 ^ 40 := by decide
  have e : rngN 0 (n : Int) 1 = n := by rw [rngN1]; omega
  unfold rngL
  rw [e, if_pos (by simp only [Bool.and_eq_true, decide_eq_true_eq]; omega)]
  congr 1
  refine List.map_congr_left fun i _ => ?_
  rw [Int.mul_one, Int.zero_add]
/-! turns -/
/-- a comprehension whose turns change nothing -/
theorem compL_pure {bind : D → Nv → Option Nv} {cond elt : Nv → Mem → RE} {own : List Nat} {α : Type} (emb : α → D) (P : α → Bool) (g : α → D) (at_ : α → Nv) : ∀ (xs : List α) (ρ : Nv) (M : Mem),
    (∀ x ∈ xs, bind (emb x) ρ = some (at_ x)) → (∀ x ∈ xs, ∃ c, cond (at_ x) M = some (.ok ⟨c, .sh, at_ x, M⟩) ∧ tru c = some (P x)) → (∀ x ∈ xs, P x = true → ∃ m, elt (at_ x) M = some (.ok ⟨g x, m, at_ x, M⟩) ∧ wipeN (fz m (at_ x)) own = ρ) → (∀ x ∈ xs, wipeN (at_ x) own = ρ) →
    compL bind cond elt own (xs.map emb) ρ M = some ⟨(xs.filter P).map g, ρ, M⟩
  | [], _, _, _, _, _, _ => rfl
  | x :: xs, ρ, M, hb, hc, he, hw => by
    have ih := compL_pure emb P g at_ xs ρ M (fun y hy => hb y (List.mem_cons_of_mem _ hy)) (fun y hy => hc y (List.mem_cons_of_mem _ hy)) (fun y hy => he y (List.mem_cons_of_mem _ hy)) (fun y hy => hw y (List.mem_cons_of_mem _ hy))
    obtain ⟨c, h1, h2⟩ := hc x List.mem_cons_self
    rw [List.map_cons]
    unfold compL
    rw [hb x List.mem_cons_self, ob_s, h1]
    simp only
    rw [h2, ob_s]
    cases hp : P x with
    | true =>
      obtain ⟨m, h3, h4⟩ := he x List.mem_cons_self hp
      rw [if_pos rfl, h3]
      simp only
      rw [h4, ih, ob_s, List.filter_cons_of_pos hp, List.map_cons]
    | false =>
      rw [if_neg (by simp), hw x List.mem_cons_self, ih, List.filter_cons_of_neg (by rw [hp]; simp)]
/-- a for with an invariant, no way out -/
theorem forL_inv {bind : D → Nv → Option Nv} {body : Nv → Mem → RS} {α : Type} (emb : α → D) (I : List α → Nv → Mem → Prop) : ∀ (xs done : List α) (ρ : Nv) (M : Mem), I done ρ M →
    (∀ (done : List α) (x : α) (rest : List α) (ρ : Nv) (M : Mem), xs = rest ∨ True → x ∈ xs → I done ρ M → ∃ ρ1, bind (emb x) ρ = some ρ1 ∧ ∃ ρ2 M2, body ρ1 M = some (.ok (.nx ρ2 M2)) ∧ I (done ++ [x]) ρ2 M2) →
    ∃ ρ' M', forL bind body (xs.map emb) ρ M = some (.ok (.nx ρ' M')) ∧ I (done ++ xs) ρ' M'
  | [], done, ρ, M, h, _ => ⟨ρ, M, rfl, by rw [List.append_nil]; exact h⟩
  | x :: xs, done, ρ, M, h, st => by
    obtain ⟨ρ1, h1, ρ2, M2, h2, h3⟩ := st done x xs ρ M (.inr trivial) List.mem_cons_self h
    obtain ⟨ρ', M', h4, h5⟩ := forL_inv emb I xs (done ++ [x]) ρ2 M2 h3 (fun d y r ρ M _ hy => st d y r ρ M (.inr trivial) (List.mem_cons_of_mem _ hy))
    refine ⟨ρ', M', ?_, by rw [List.append_assoc] at h5; exact h5⟩
    rw [List.map_cons]
    unfold forL
    rw [h1, ob_s, h2, bz_ok]
    exact h4
end
end Ev

/-! What is shown; turns that change the memory; pots. -/
namespace Ev
open L2 PyProof.Rows PySem PySem.Spec
/-! ### what is shown -/
structure Rp (d w : Nat) (p : PyData) : Prop where
  sh : p.showable = true
  nd : p.hasDict = false
  dp : p.depth ≤ d
  lv : p.leavesShort 13 = true
  wt : p.weight ≤ w
  cl : p.canLay0 = true
structure Rps (d w : Nat) (ps : List PyData) : Prop where
  sh : PyData.showableAll ps = true
  nd : PyData.hasDictAll ps = false
  dp : PyData.depthAll ps ≤ d
  lv : PyData.leavesShortAll 13 ps = true
  wt : PyData.weightAll ps ≤ w
  cl : PyData.canLayAll0 ps = true
theorem Rp.mono {d w d' w' : Nat} {p : PyData} (h : Rp d w p) (h1 : d ≤ d') (h2 : w ≤ w') : Rp d' w' p := ⟨h.sh, h.nd, Nat.le_trans h.dp h1, h.lv, Nat.le_trans h.wt h2, h.cl⟩
theorem rp_non {d w : Nat} : Rp d w .none := ⟨rfl, rfl, Nat.zero_le _, rfl, Nat.zero_le _, rfl⟩
theorem rp_bool {d w : Nat} (b : Bool) : Rp d w (.bool b) := ⟨rfl, rfl, Nat.zero_le _, rfl, Nat.zero_le _, rfl⟩
theorem rp_int {d w : Nat} {i : Int} (h : i.natAbs < 10 ^ 12) (hw : 40 ≤ w) : Rp d w (.int i) := by
  have h2 : i.natAbs < 2 ^ 40 := Nat.lt_trans h (by decide)
  have h3 : i.natAbs.log2 < 40 := by
    by_cases h0 : i.natAbs = 0
    · rw [h0]; decide
    · exact (Nat.log2_lt h0).mpr h2
  refine ⟨?_, rfl, Nat.zero_le _, ?_, ?_, rfl⟩
  · show decide (i.natAbs.log2 < 1920) = true
    exact decide_eq_true (by omega)
  · show decide ((PyData.shown (.int i)).length ≤ 13) = true
    refine decide_eq_true ?_
    show (Str.ofString (toString i)).length ≤ 13
    rw [PySem.ofString_length]
    exact int_text_length_le10 (k := 12) (by decide) h
  · show (if i == 0 then 0 else i.natAbs.log2 + 1) ≤ w
    split <;> omega
theorem rp_nat {d w n : Nat} (h : n < 10 ^ 12) (hw : 40 ≤ w) : Rp d w (.int (n : Int)) := rp_int (by omega) hw
theorem rps_nil {d w : Nat} : Rps d w [] := ⟨rfl, rfl, Nat.zero_le _, rfl, Nat.zero_le _, rfl⟩
theorem rps_cons {d w w' : Nat} {p : PyData} {ps : List PyData} (h : Rp d w p) (hs : Rps d w' ps) : Rps d (w + 1 + w') (p :: ps) := by
  refine ⟨?_, ?_, ?_, ?_, ?_, ?_⟩
  · show (p.showable && PyData.showableAll ps) = true
    rw [h.sh, hs.sh] <;> rfl
  · show (p.hasDict || PyData.hasDictAll ps) = false
    rw [h.nd, hs.nd] <;> rfl
  · show max p.depth (PyData.depthAll ps) ≤ d
    have a := h.dp
    have b := hs.dp
    omega
  · show (p.leavesShort 13 && PyData.leavesShortAll 13 ps) = true
    rw [h.lv, hs.lv] <;> rfl
  · show p.weight + 1 + PyData.weightAll ps ≤ w + 1 + w'
    have a := h.wt
    have b := hs.wt
    omega
  · show (p.canLay0 && PyData.canLayAll0 ps) = true
    rw [h.cl, hs.cl] <;> rfl
theorem Rps.mono {d w d' w' : Nat} {p : List PyData} (h : Rps d w p) (h1 : d ≤ d') (h2 : w ≤ w') : Rps d' w' p := ⟨h.sh, h.nd, Nat.le_trans h.dp h1, h.lv, Nat.le_trans h.wt h2, h.cl⟩
theorem rps_all {d w : Nat} : ∀ {ps : List PyData}, (∀ p ∈ ps, Rp d w p) → Rps d ((w + 1) * ps.length) ps
  | [], _ => rps_nil
  | p :: ps, h => by
    have := rps_cons (h p List.mem_cons_self) (rps_all fun q hq => h q (List.mem_cons_of_mem _ hq))
    exact this.mono (Nat.le_refl _) (by rw [List.length_cons, Nat.mul_add]; omega)
theorem rps_app {d w w' : Nat} : ∀ {ps qs : List PyData}, Rps d w ps → Rps d w' qs → Rps d (w + w') (ps ++ qs)
  | [], qs, h, h' => h'.mono (Nat.le_refl _) (by omega)
  | p :: ps, qs, h, h' => by
    have e1 : (p.showable && PyData.showableAll ps) = true := h.sh
    have e2 : (p.hasDict || PyData.hasDictAll ps) = false := h.nd
    have e3 : max p.depth (PyData.depthAll ps) ≤ d := h.dp
    have e4 : (p.leavesShort 13 && PyData.leavesShortAll 13 ps) = true := h.lv
    have e5 : p.weight + 1 + PyData.weightAll ps ≤ w := h.wt
    have e6 : (p.canLay0 && PyData.canLayAll0 ps) = true := h.cl
    rw [Bool.and_eq_true] at e1 e4 e6
    rw [Bool.or_eq_false_iff] at e2
    have r1 : Rp d p.weight p := ⟨e1.1, e2.1, by omega, e4.1, Nat.le_refl _, e6.1⟩
    have r2 : Rps d (w - p.weight - 1) ps := ⟨e1.2, e2.2, by omega, e4.2, by omega, e6.2⟩
    exact (rps_cons r1 (rps_app r2 h')).mono (Nat.le_refl _) (by omega)
theorem rp_tup {d w : Nat} {ps : List PyData} (h : Rps d w ps) : Rp (d + 1) w (.tuple ps) := ⟨h.sh, h.nd, by show PyData.depthAll ps + 1 ≤ _; have := h.dp; omega, h.lv, h.wt, h.cl⟩
theorem rp_lst {d w : Nat} {ps : List PyData} (h : Rps d w ps) : Rp (d + 1) w (.list ps) := ⟨h.sh, h.nd, by show PyData.depthAll ps + 1 ≤ _; have := h.dp; omega, h.lv, h.wt, h.cl⟩
theorem repr_ok {d w : Nat} {p : PyData} (h : Rp d w p) (h1 : d ≤ 60) (h2 : w ≤ 2 ^ 20) : bi .repr [.py p] = some (.py (.str p.shown), false) := by
  show (if p.showable && !p.hasDict && decide (p.depth ≤ 60) && decide (p.shown.length ≤ sizeLine) then _ else _) = _
  rw [if_pos]
  · rfl
  · have a := h.dp
    have b := PyData.shown_fits (by decide) (by decide) h.lv (Nat.le_trans h.wt h2)
    rw [h.sh, h.nd, decide_eq_true b, decide_eq_true (show p.depth ≤ 60 by omega)] <;> rfl
theorem Rp.shaped {d w : Nat} {p : PyData} (h : Rp d w p) (h1 : d ≤ 60) : SeqAt.shaped p = true := by
  show (p.canLay0 && decide (p.depth ≤ 64)) = true
  have a := h.dp
  rw [h.cl, decide_eq_true (show p.depth ≤ 64 by omega)] <;> rfl
/-! ### turns that change the memory -/
theorem compL_st {bind : D → Nv → Option Nv} {cond elt : Nv → Mem → RE} {own : List Nat} {α : Type} (emb : α → D) (at_ : α → Nv) (I : List α → List D → Mem → Prop) {ρ : Nv} : ∀ (xs done : List α) (rs : List D) (M : Mem), I done rs M →
    (∀ x ∈ xs, bind (emb x) ρ = some (at_ x)) →
    (∀ (d : List α) (x : α) (rest : List α) (rs : List D) (M : Mem), done ++ xs = d ++ x :: rest → I d rs M → ∃ c M1 b, cond (at_ x) M = some (.ok ⟨c, .sh, at_ x, M1⟩) ∧ tru c = some b ∧
      ((b = true ∧ ∃ y m M2, elt (at_ x) M1 = some (.ok ⟨y, m, at_ x, M2⟩) ∧ wipeN (fz m (at_ x)) own = ρ ∧ I (d ++ [x]) (rs ++ [y]) M2) ∨ (b = false ∧ wipeN (at_ x) own = ρ ∧ I (d ++ [x]) rs M1))) →
    ∃ ys M', compL bind cond elt own (xs.map emb) ρ M = some ⟨ys, ρ, M'⟩ ∧ I (done ++ xs) (rs ++ ys) M'
  | [], done, rs, M, h, _, _ => ⟨[], M, rfl, by rw [List.append_nil, List.append_nil]; exact h⟩
  | x :: xs, done, rs, M, h, hb, st => by
    obtain ⟨c, M1, b, h1, h2, h3⟩ := st done x xs rs M rfl h
    have hb' := fun y hy => hb y (List.mem_cons_of_mem x hy)
    have st' := fun d y r rs M (e : (done ++ [x]) ++ xs = d ++ y :: r) => st d y r rs M (by rw [← e, List.append_assoc]; rfl)
    rw [List.map_cons]
    unfold compL
    rw [hb x List.mem_cons_self, ob_s, h1]
    simp only
    rw [h2, ob_s]
    rcases h3 with ⟨rfl, y, m, M2, h4, h5, h6⟩ | ⟨rfl, h5, h6⟩
    · rw [if_pos rfl, h4]
      simp only
      rw [h5]
      obtain ⟨ys, M', h7, h8⟩ := compL_st emb at_ I xs (done ++ [x]) (rs ++ [y]) M2 h6 hb' st'
      rw [h7, ob_s]
      exact ⟨y :: ys, M', rfl, by rw [List.append_assoc, List.append_assoc] at h8; exact h8⟩
    · rw [if_neg (by simp), h5]
      obtain ⟨ys, M', h7, h8⟩ := compL_st emb at_ I xs (done ++ [x]) rs M1 h6 hb' st'
      exact ⟨ys, M', h7, by rw [List.append_assoc] at h8; exact h8⟩
theorem compE_pure {Fs : List Fn} {C : Nv → Clo} {t : T} {cond elt : E} {own : List Nat} {α : Type} (emb : α → D) (P : α → Bool) (g : α → D) (at_ : α → Nv) (xs : List α) (ρ : Nv) (M : Mem)
    (hb : ∀ x ∈ xs, bindT t (emb x) ρ = some (at_ x)) (hc : ∀ x ∈ xs, ∃ c, evE Fs C cond (at_ x) M = some (.ok ⟨c, .sh, at_ x, M⟩) ∧ tru c = some (P x)) (he : ∀ x ∈ xs, P x = true → ∃ m, evE Fs C elt (at_ x) M = some (.ok ⟨g x, m, at_ x, M⟩) ∧ wipeN (fz m (at_ x)) own = ρ) (hw : ∀ x ∈ xs, wipeN (at_ x) own = ρ) :
    compE Fs C t cond elt own (xs.map emb) ρ M = some ⟨(xs.filter P).map g, ρ, M⟩ := compL_pure emb P g at_ xs ρ M hb hc he hw
theorem compE_map {Fs : List Fn} {C : Nv → Clo} {t : T} {elt : E} {own : List Nat} {α : Type} (emb : α → D) (g : α → D) (at_ : α → Nv) (xs : List α) (ρ : Nv) (M : Mem)
    (hb : ∀ x ∈ xs, bindT t (emb x) ρ = some (at_ x)) (he : ∀ x ∈ xs, ∃ m, evE Fs C elt (at_ x) M = some (.ok ⟨g x, m, at_ x, M⟩) ∧ wipeN (fz m (at_ x)) own = ρ) (hw : ∀ x ∈ xs, wipeN (at_ x) own = ρ) :
    compE Fs C t .no elt own (xs.map emb) ρ M = some ⟨xs.map g, ρ, M⟩ := by
  rw [compE_pure emb (fun _ => true) g at_ xs ρ M hb (fun x _ => ⟨_, e_no, rfl⟩) (fun x hx _ => he x hx) hw, List.filter_eq_self.mpr (fun _ _ => rfl)]
theorem compE_st {Fs : List Fn} {C : Nv → Clo} {t : T} {cond elt : E} {own : List Nat} {α : Type} (emb : α → D) (at_ : α → Nv) (I : List α → List D → Mem → Prop) {ρ : Nv} (xs : List α) (M : Mem) (h : I [] [] M)
    (hb : ∀ x ∈ xs, bindT t (emb x) ρ = some (at_ x))
    (st : ∀ (d : List α) (x : α) (rest : List α) (rs : List D) (M : Mem), xs = d ++ x :: rest → I d rs M → ∃ c M1 b, evE Fs C cond (at_ x) M = some (.ok ⟨c, .sh, at_ x, M1⟩) ∧ tru c = some b ∧
      ((b = true ∧ ∃ y m M2, evE Fs C elt (at_ x) M1 = some (.ok ⟨y, m, at_ x, M2⟩) ∧ wipeN (fz m (at_ x)) own = ρ ∧ I (d ++ [x]) (rs ++ [y]) M2) ∨ (b = false ∧ wipeN (at_ x) own = ρ ∧ I (d ++ [x]) rs M1))) :
    ∃ ys M', compE Fs C t cond elt own (xs.map emb) ρ M = some ⟨ys, ρ, M'⟩ ∧ I xs ys M' := by
  have := compL_st (bind := bindT t) (cond := fun ρ M => evE Fs C cond ρ M) (elt := fun ρ M => evE Fs C elt ρ M) (own := own) emb at_ I xs [] [] M h hb st
  unfold compE
  simpa using this
theorem forL_inv2 {bind : D → Nv → Option Nv} {body : Nv → Mem → RS} {α : Type} (emb : α → D) (I : List α → Nv → Mem → Prop) : ∀ (xs done : List α) (ρ : Nv) (M : Mem), I done ρ M →
    (∀ (d : List α) (x : α) (rest : List α) (ρ : Nv) (M : Mem), done ++ xs = d ++ x :: rest → I d ρ M → ∃ ρ1, bind (emb x) ρ = some ρ1 ∧ ∃ ρ2 M2, body ρ1 M = some (.ok (.nx ρ2 M2)) ∧ I (d ++ [x]) ρ2 M2) →
    ∃ ρ' M', forL bind body (xs.map emb) ρ M = some (.ok (.nx ρ' M')) ∧ I (done ++ xs) ρ' M'
  | [], done, ρ, M, h, _ => ⟨ρ, M, rfl, by rw [List.append_nil]; exact h⟩
  | x :: xs, done, ρ, M, h, st => by
    obtain ⟨ρ1, h1, ρ2, M2, h2, h3⟩ := st done x xs ρ M rfl h
    obtain ⟨ρ', M', h4, h5⟩ := forL_inv2 emb I xs (done ++ [x]) ρ2 M2 h3 (fun d y r ρ M e hI => st d y r ρ M (by rw [← e, List.append_assoc]; rfl) hI)
    refine ⟨ρ', M', ?_, by rw [List.append_assoc] at h5; exact h5⟩
    rw [List.map_cons]
    unfold forL
    rw [h1, ob_s, h2, bz_ok]
    exact h4
theorem forE_inv {Fs : List Fn} {C : Nv → Clo} {t : T} {body : Ss} {α : Type} (emb : α → D) (I : List α → Nv → Mem → Prop) (xs : List α) (ρ : Nv) (M : Mem) (h : I [] ρ M)
    (st : ∀ (done : List α) (x : α) (rest : List α) (ρ : Nv) (M : Mem), xs = done ++ x :: rest → I done ρ M → ∃ ρ1, bindT t (emb x) ρ = some ρ1 ∧ ∃ ρ2 M2, evSs Fs C body ρ1 M = some (.ok (.nx ρ2 M2)) ∧ I (done ++ [x]) ρ2 M2) :
    ∃ ρ' M', forE Fs C t body (xs.map emb) ρ M = some (.ok (.nx ρ' M')) ∧ I xs ρ' M' := by
  have := forL_inv2 (bind := bindT t) (body := fun ρ M => evSs Fs C body ρ M) emb I xs [] ρ M h (fun d x r ρ M e hI => st d x r ρ M e hI)
  unfold forE
  simpa using this
theorem forE_cons {Fs : List Fn} {C : Nv → Clo} {t : T} {body : Ss} (d : D) (ds : List D) (ρ : Nv) (M : Mem) : forE Fs C t body (d :: ds) ρ M = ob (bindT t d ρ) fun ρ1 => bz (evSs Fs C body ρ1 M) fun f => (match f with
      | .nx ρ2 M2 => forE Fs C t body ds ρ2 M2
      | .ct ρ2 M2 => forE Fs C t body ds ρ2 M2
      | .br ρ2 M2 => some (.ok (.nx ρ2 M2))
      | .rt o => some (.ok (.rt o))) := rfl
@[simp] theorem forE_nil {Fs : List Fn} {C : Nv → Clo} {t : T} {body : Ss} (ρ : Nv) (M : Mem) : forE Fs C t body [] ρ M = some (.ok (.nx ρ M)) := (rfl)
@[simp] theorem forL_nil {bind : D → Nv → Option Nv} {body : Nv → Mem → RS} {ρ : Nv} {M : Mem} : forL bind body [] ρ M = some (.ok (.nx ρ M)) := (rfl)
theorem forL_cons {bind : D → Nv → Option Nv} {body : Nv → Mem → RS} {ρ : Nv} {M : Mem} (d : D) (ds : List D) : forL bind body (d :: ds) ρ M = ob (bind d ρ) fun ρ1 => bz (body ρ1 M) fun f => (match f with
      | .nx ρ2 M2 => forL bind body ds ρ2 M2
      | .ct ρ2 M2 => forL bind body ds ρ2 M2
      | .br ρ2 M2 => some (.ok (.nx ρ2 M2))
      | .rt o => some (.ok (.rt o))) := rfl
/-! ### pots -/
def PotAt (M : Mem) (n c : Nat) : Prop := ∃ o s k : Int, M[n]? = some [.int o, .int s, .int k] ∧ 0 ≤ o ∧ o < 2 ^ 1200 ∧ 0 ≤ s ∧ s < 2 ^ 62 ∧ 0 ≤ k ∧ k ≤ c
theorem PotAt.mono {M : Mem} {n c c' : Nat} (h : PotAt M n c) (e : c ≤ c') : PotAt M n c' := by
  obtain ⟨o, s, k, h1, h2, h3, h4, h5, h6, h7⟩ := h
  exact ⟨o, s, k, h1, h2, h3, h4, h5, h6, by omega⟩
theorem bits_of {n : Nat} {i : Int} (h : i.natAbs < 2 ^ n) : bits n i = true := decide_eq_true h
theorem oInt_ok {C : Int → Int → Bool} {g : Int → Int → Int} {i j : Int} (h : C i j = true) : oInt C g (.py (.int i)) (.py (.int j)) = some (.py (.int (g i j)), false) := by
  show (if C i j = true then some (D.py (.int (g i j)), false) else none) = _
  rw [if_pos h]
theorem mul_ok {i j : Int} (h1 : i.natAbs < 2 ^ 4000) (h2 : j.natAbs < 2 ^ 4000) : o2 .mul (.py (.int i)) (.py (.int j)) = some (.py (.int (i * j)), false) := by
  show orO (oInt (fun i j => bits 4000 i && bits 4000 j) fun i j => i * j) (orO oRepT oRepL) _ _ = _
  unfold orO
  rw [oInt_ok (by rw [bits_of h1, bits_of h2]; rfl)]
theorem mod_ok {i j : Int} (h : 0 < j) : o2 .mod (.py (.int i)) (.py (.int j)) = some (.py (.int (i % j)), false) := oInt_ok (C := fun _ j => decide (0 < j)) (g := fun i j => i % j) (decide_eq_true h)
theorem fdiv_ok {i j : Int} (h : 0 < j) (h2 : j < 1073741824) : o2 .fdiv (.py (.int i)) (.py (.int j)) = some (.py (.int (i / j)), false) := oInt_ok (C := fun _ j => decide (0 < j) && decide (j < 1073741824)) (g := fun i j => i / j) (by show (decide (0 < j) && decide (j < 1073741824)) = true; rw [decide_eq_true h, decide_eq_true h2]; rfl)
theorem pow_ok {i : Int} {j : Nat} (h : i.natAbs < 2 ^ 1000) (h2 : j ≤ 1000) : o2 .pow (.py (.int i)) (.py (.int (j : Int))) = some (.py (.int (i ^ j)), false) := by
  have e := oInt_ok (C := fun i j => decide (0 ≤ j) && decide (j ≤ 1000) && bits 1000 i) (g := fun i j => i ^ j.toNat) (i := i) (j := (j : Int)) (by
    show (decide (0 ≤ (j : Int)) && decide ((j : Int) ≤ 1000) && bits 1000 i) = true
    rw [bits_of h, decide_eq_true (by omega), decide_eq_true (by omega)] <;> rfl)
  rw [Int.toNat_natCast] at e
  exact e
theorem put_cel {ρ : Nv} {M : Mem} {i n : Nat} {ps : List PyData} {k : Nat} {p : PyData} (h : ρ[i]? = some (some (.cel n, false))) (hm : M[n]? = some ps) (hk : k < ps.length) : putX i (k : Int) (.py p) ρ M = some (.ok (.nx ρ (M.set n (ps.set k p)))) := by
  unfold putX
  rw [h]
  simp only
  rw [hm, ob_s]
  have : ixN ps.length (k : Int) = some k := by
    unfold ixN
    rw [if_pos (by omega), if_pos (by omega)]
    simp
  rw [this, ob_s]
  rfl
theorem hasX_cel {ρ : Nv} {i n : Nat} (h : ρ[i]? = some (some (.cel n, false))) : hasX ρ i = some () := by
  unfold hasX
  rw [h] <;> rfl
theorem ix_cel {M : Mem} {n : Nat} {ps : List PyData} {k : Nat} {p : PyData} (hm : M[n]? = some ps) (hk : ps[k]? = some p) : ixD M (.cel n) (.py (.int (k : Int))) = some (.py p) := by
  show (match M[n]? with
    | some xs => (atI xs (k : Int)).map D.py
    | none => none) = _
  rw [hm]
  have hl := (List.getElem?_eq_some_iff.mp hk).1
  unfold atI ixN
  simp only
  rw [if_pos (by omega), if_pos (by omega)]
  simp [hk]
end Ev

set_option exponentiation.threshold 5000
/-! The laws' pots. -/
namespace Ev
open L2 PyProof.Rows PySem PySem.Spec
def takeD (a b e f g h : Int) : Def := ⟨5, 2,
    (.cons (.ifs (.cmp (.ix (.var 0) (.lit (.int 0))) [.gt] (.cons false (.lit (.int 0)) .nil))
    (.cons (.asg (.nm 4) (.bin .mod (.bi .int (.cons false (.ix (.var 0) (.lit (.int 0))) .nil)) (.var 1)))
    (.cons (.set 0 (.lit (.int 0)) (.bin .fdiv (.ix (.var 0) (.lit (.int 0))) (.var 1)))
    (.cons (.ret (.var 4))
    .nil)))
    .nil)
    (.cons (.set 0 (.lit (.int 2)) (.bin .add (.ix (.var 0) (.lit (.int 2))) (.lit (.int 1))))
    (.cons (.asg (.nm 2) (.ix (.lst (.cons false (.lit (.int 2147483647)) (.cons false (.lit (.int 2147483629)) (.cons false (.lit (.int 2147483587)) (.cons false (.lit (.int 2147483579)) (.cons false (.lit (.int 2147483563)) .nil)))))) (.bin .mod (.bi .int (.cons false (.ix (.var 0) (.lit (.int 2))) .nil)) (.lit (.int 5)))))
    (.cons (.asg (.nm 3) (.bin .mod (.bi .int (.cons false (.bin .pow (.bi .int (.cons false (.bin .add (.bin .add (.ix (.var 0) (.lit (.int 1))) (.bin .mul (.bin .mul (.lit (.int a)) (.ix (.var 0) (.lit (.int 2)))) (.ix (.var 0) (.lit (.int 2))))) (.lit (.int b))) .nil)) (.lit (.int 3))) .nil)) (.var 2)))
    (.cons (.asg (.nm 3) (.bin .mod (.bi .int (.cons false (.bin .mul (.var 3) (.bin .add (.bin .mod (.bi .int (.cons false (.var 3) .nil)) (.lit (.int e))) (.bin .mul (.lit (.int f)) (.ix (.var 0) (.lit (.int 2)))))) .nil)) (.lit (.int g))))
    (.cons (.ret (.bin .mod (.bi .int (.cons false (.bin .fdiv (.var 3) (.lit (.int h))) .nil)) (.var 1)))
    .nil))))))⟩
theorem runF_eq {Fs : List Fn} {d : Def} {C : Clo} {ds : List D} {M : Mem} (h : ds.length = d.ps) : runF Fs d C ds M = outOf (evSs Fs (fun _ => C) d.body (startN d.n ds) M) := if_pos h
theorem put_cel2 {ρ : Nv} {M : Mem} {i n : Nat} {ps : List PyData} (kk : Int) (k : Nat) {p : PyData} (h : ρ[i]? = some (some (.cel n, false))) (hm : M[n]? = some ps) (hk : k < ps.length) (e : kk = k) : putX i kk (.py p) ρ M = some (.ok (.nx ρ (M.set n (ps.set k p)))) := by
  subst e
  exact put_cel h hm hk
theorem mul_lt {x y : Int} {a b : Nat} (h1 : x.natAbs < 2 ^ a) (h2 : y.natAbs < 2 ^ b) : (x * y).natAbs < 2 ^ (a + b) := by
  rw [Int.natAbs_mul, Nat.pow_add]
  exact Nat.mul_lt_mul'' h1 h2
theorem lt_up {x a b : Nat} (h : x < 2 ^ a) (e : a ≤ b) : x < 2 ^ b := Nat.lt_of_lt_of_le h (Nat.pow_le_pow_right (by decide) e)
theorem s_take {Fs : List Fn} {a b e f g h : Int} (C : Clo) {M : Mem} {n c u : Nat} (hp : PotAt M n c) (hc : c ≤ 10 ^ 9) (hu : 0 < u) (hu2 : u < 2 ^ 30) (ha : 0 ≤ a ∧ a < 2 ^ 40) (hb : 0 ≤ b ∧ b < 2 ^ 40) (he : 0 < e ∧ e < 2 ^ 40) (hf : 0 ≤ f ∧ f < 2 ^ 40) (hg : 0 < g) (hh : 0 < h ∧ h < 2 ^ 30) :
    ∃ (d : Nat) (M' : Mem), runF Fs (takeD a b e f g h) C [.cel n, .py (.int (u : Int))] M = some (.ok ⟨.py (.int (d : Int)), false, M'⟩) ∧ d < u ∧ PotAt M' n (c + 1) := by
  obtain ⟨o, s, k, hm, o1, o2', s1, s2, k1, k2⟩ := hp
  have hl : n < M.length := (List.getElem?_eq_some_iff.mp hm).1
  have i0 : ixD M (.cel n) (.py (.int 0)) = some (.py (.int o)) := ix_cel (k := 0) hm rfl
  by_cases ho : 0 < o
  · have hu' : (0 : Int) < (u : Int) := by omega
    have e1 : o2 .mod (.py (.int o)) (.py (.int (u : Int))) = some (.py (.int (o % u)), false) := mod_ok hu'
    have e2 : o2 .fdiv (.py (.int o)) (.py (.int (u : Int))) = some (.py (.int (o / u)), false) := fdiv_ok hu' (by omega)
    have hx : hasX [some (.cel n, false), some (.py (.int (u : Int)), false), none, none, some (.py (.int (o % u)), false)] 0 = some () := rfl
    have hs : putX 0 0 (.py (.int (o / u))) [some (.cel n, false), some (.py (.int (u : Int)), false), none, none, some (.py (.int (o % u)), false)] M = some (.ok (.nx [some (.cel n, false), some (.py (.int (u : Int)), false), none, none, some (.py (.int (o % u)), false)] (M.set n [.int (o / u), .int s, .int k]))) := put_cel2 0 0 rfl hm (by simp) rfl
    refine ⟨(o % u).toNat, M.set n [.int (o / u), .int s, .int k], ?_, ?_, ?_⟩
    · have h0 := Int.emod_nonneg o (b := (u : Int)) (by omega)
      rw [Int.toNat_of_nonneg h0]
      simp [runF, takeD, startN, i0, ho, e1, e2, hx, hs]
    · have h0 := Int.emod_nonneg o (b := (u : Int)) (by omega)
      have h1 := Int.emod_lt_of_pos o hu'
      omega
    · refine ⟨o / u, s, k, by rw [List.getElem?_set_self hl], Int.ediv_nonneg o1 (by omega), Int.lt_of_le_of_lt (Int.ediv_le_self _ o1) o2', s1, s2, k1, by omega⟩
  · have i1 : ixD (M.set n [.int o, .int s, .int (k + 1)]) (.cel n) (.py (.int 1)) = some (.py (.int s)) := ix_cel (k := 1) (by rw [List.getElem?_set_self hl]) rfl
    have i2 : ixD M (.cel n) (.py (.int 2)) = some (.py (.int k)) := ix_cel (k := 2) hm rfl
    have i3 : ixD (M.set n [.int o, .int s, .int (k + 1)]) (.cel n) (.py (.int 2)) = some (.py (.int (k + 1))) := ix_cel (k := 2) (by rw [List.getElem?_set_self hl]) rfl
    have hx : hasX [some (.cel n, false), some (.py (.int (u : Int)), false), none, none, none] 0 = some () := rfl
    have hs : putX 0 2 (.py (.int (k + 1))) [some (.cel n, false), some (.py (.int (u : Int)), false), none, none, none] M = some (.ok (.nx [some (.cel n, false), some (.py (.int (u : Int)), false), none, none, none] (M.set n [.int o, .int s, .int (k + 1)]))) := put_cel2 2 2 rfl hm (by simp) rfl
    have kk : (k + 1).natAbs < 2 ^ 40 := by omega
    have e1 : o2 .mod (.py (.int (k + 1))) (.py (.int 5)) = some (.py (.int ((k + 1) % 5)), false) := mod_ok (by decide)
    have p5 : ∃ p : Int, 0 < p ∧ p < 2 ^ 31 ∧ ixD (M.set n [.int o, .int s, .int (k + 1)]) (.py (.list [.int 2147483647, .int 2147483629, .int 2147483587, .int 2147483579, .int 2147483563])) (.py (.int ((k + 1) % 5))) = some (.py (.int p)) := by
      have h0 := Int.emod_nonneg (k + 1) (b := 5) (by decide)
      have h1 := Int.emod_lt_of_pos (k + 1) (b := 5) (by decide)
      have : (k + 1) % 5 = 0 ∨ (k + 1) % 5 = 1 ∨ (k + 1) % 5 = 2 ∨ (k + 1) % 5 = 3 ∨ (k + 1) % 5 = 4 := by omega
      rcases this with q | q | q | q | q <;> rw [q]
      · exact ⟨2147483647, by decide, by decide, rfl⟩
      · exact ⟨2147483629, by decide, by decide, rfl⟩
      · exact ⟨2147483587, by decide, by decide, rfl⟩
      · exact ⟨2147483579, by decide, by decide, rfl⟩
      · exact ⟨2147483563, by decide, by decide, rfl⟩
    obtain ⟨p, p1, p2, p3⟩ := p5
    have b1 : (a * (k + 1)).natAbs < 2 ^ (40 + 40) := mul_lt (by omega) kk
    have b2 : (a * (k + 1) * (k + 1)).natAbs < 2 ^ (80 + 40) := mul_lt b1 kk
    have e2 : o2 .mul (.py (.int a)) (.py (.int (k + 1))) = some (.py (.int (a * (k + 1))), false) := mul_ok (lt_up (a := 40) (by omega) (by decide)) (lt_up kk (by decide))
    have e3 : o2 .mul (.py (.int (a * (k + 1)))) (.py (.int (k + 1))) = some (.py (.int (a * (k + 1) * (k + 1))), false) := mul_ok (lt_up b1 (by decide)) (lt_up kk (by decide))
    have b3 : (s + a * (k + 1) * (k + 1) + b).natAbs < 2 ^ 1000 := by
      refine lt_up (a := 122) ?_ (by decide)
      have : (a * (k + 1) * (k + 1)).natAbs < 2 ^ 120 := b2
      omega
    have e4 : o2 .pow (.py (.int (s + a * (k + 1) * (k + 1) + b))) (.py (.int 3)) = some (.py (.int ((s + a * (k + 1) * (k + 1) + b) ^ 3)), false) := pow_ok (j := 3) b3 (by decide)
    generalize hv : (s + a * (k + 1) * (k + 1) + b) = v at e4
    have e5 : o2 .mod (.py (.int (v ^ 3))) (.py (.int p)) = some (.py (.int (v ^ 3 % p)), false) := mod_ok p1
    have w0 := Int.emod_nonneg (v ^ 3) (b := p) (by omega)
    have w1 := Int.emod_lt_of_pos (v ^ 3) p1
    generalize hw : v ^ 3 % p = w at e5 w0 w1
    have e6 : o2 .mod (.py (.int w)) (.py (.int e)) = some (.py (.int (w % e)), false) := mod_ok he.1
    have x0 := Int.emod_nonneg w (b := e) (by omega)
    have x1 := Int.emod_lt_of_pos w he.1
    have e7 : o2 .mul (.py (.int f)) (.py (.int (k + 1))) = some (.py (.int (f * (k + 1))), false) := mul_ok (lt_up (a := 40) (by omega) (by decide)) (lt_up kk (by decide))
    have b4 : (f * (k + 1)).natAbs < 2 ^ (40 + 40) := mul_lt (by omega) kk
    have e8 : o2 .mul (.py (.int w)) (.py (.int (w % e + f * (k + 1)))) = some (.py (.int (w * (w % e + f * (k + 1)))), false) := mul_ok (lt_up (a := 40) (by omega) (by decide)) (lt_up (a := 82) (by
      have : (f * (k + 1)).natAbs < 2 ^ 80 := b4
      omega) (by decide))
    generalize hy : w * (w % e + f * (k + 1)) = y at e8
    have e9 : o2 .mod (.py (.int y)) (.py (.int g)) = some (.py (.int (y % g)), false) := mod_ok hg
    have z0 := Int.emod_nonneg y (b := g) (by omega)
    generalize hz : y % g = z at e9 z0
    have e10 : o2 .fdiv (.py (.int z)) (.py (.int h)) = some (.py (.int (z / h)), false) := fdiv_ok hh.1 (by omega)
    have hu' : (0 : Int) < (u : Int) := by omega
    have e11 : o2 .mod (.py (.int (z / h))) (.py (.int (u : Int))) = some (.py (.int (z / h % u)), false) := mod_ok hu'
    refine ⟨(z / h % u).toNat, M.set n [.int o, .int s, .int (k + 1)], ?_, ?_, ?_⟩
    · have h0 := Int.emod_nonneg (z / h) (b := (u : Int)) (by omega)
      rw [Int.toNat_of_nonneg h0]
      simp [runF, takeD, startN, i0, ho, i2, hx, hs, i3, e1, i1, p3, e2, e3, hv, e4, e5, hw, e6, e7, e8, hy, e9, hz, e10, e11, show (5 : Nat) ≤ sizeLine from by decide]
    · have h0 := Int.emod_nonneg (z / h) (b := (u : Int)) (by omega)
      have h1 := Int.emod_lt_of_pos (z / h) hu'
      omega
    · exact ⟨o, s, k + 1, by rw [List.getElem?_set_self hl], o1, o2', s1, s2, by omega, by omega⟩
def cellE (a b : Int) : E := .ite (.cmp (.var 1) [.lt] (.cons false (.bi .len (.cons false (.var 0) .nil)) .nil)) (.ix (.var 0) (.var 1)) (.bin .add (.bin .add (.bin .mod (.bi .sum (.cons false (.slc (.var 0) .no (.lit (.int 1))) .nil)) (.lit (.int 1000003))) (.bin .mul (.lit (.int a)) (.var 1))) (.lit (.int b)))
def potD (a b p q r t : Int) : Def := ⟨5, 2,
    (.cons (.asg (.nm 2) (cellE a b))
    (.cons (.asg (.nm 3) (.bin .mul (.bin .mod (.bi .int (.cons false (.bi .abs (.cons false (.var 2) .nil)) .nil)) (.bin .pow (.bin .pow (.lit (.int 10)) (.lit (.int 60))) (.lit (.int 5)))) (.bi .int (.cons false (.cmp (.bi .abs (.cons false (.var 2) .nil)) [.ge] (.cons false (.bin .pow (.lit (.int 10)) (.lit (.int 18))) .nil)) .nil))))
    (.cons (.asg (.nm 4) (.bin .mod (.bi .int (.cons false (.var 2) .nil)) (.lit (.int 2305843009213693951))))
    (.cons (.ret (.cell (.cons false (.var 3) (.cons false (.bin .mod (.bi .int (.cons false (.bin .add (.bin .add (.bin .mul (.var 4) (.lit (.int p))) (.bin .mul (.bin .mul (.lit (.int q)) (.var 1)) (.var 1))) (.lit (.int r))) .nil)) (.lit (.int t))) (.cons false (.lit (.int 0)) .nil)))))
    .nil))))⟩
section
variable {Fs : List Fn} {C : Nv → Clo} {ρ : Nv} {M : Mem}
@[simp] theorem isNo_no : isNo .no = true := (rfl)
@[simp] theorem isNo_lit (p : PyData) : isNo (.lit p) = false := (rfl)
@[simp] theorem isNo_var (p : Nat) : isNo (.var p) = false := (rfl)
@[simp] theorem isNo_bin (o : Op2) (a b : E) : isNo (.bin o a b) = false := (rfl)
@[simp] theorem isNo_neg (a : E) : isNo (.neg a) = false := (rfl)
@[simp] theorem isNo_call (k : Nat) (es : Es) : isNo (.call k es) = false := (rfl)
@[simp] theorem isNo_gli (x : Str) (i : Int) : isNo (.gli x i) = false := (rfl)
@[simp] theorem prt_t (r : RE) : prt true r ρ M = some (.ok ⟨.py .none, .sh, ρ, M⟩) := (rfl)
@[simp] theorem prt_f (r : RE) : prt false r ρ M = r := (rfl)
@[simp] theorem part_t : part true (.py .none) = some none := (rfl)
@[simp] theorem part_i (b : Bool) (i : Int) : part b (.py (.int i)) = some (some i) := (rfl)
@[simp] theorem e_slc (a lo hi : E) : evE Fs C (.slc a lo hi) ρ M = bz (evE Fs C a ρ M) fun x => bz (prt (isNo lo) (evE Fs C lo x.ρ x.M) x.ρ x.M) fun l => ob (part (isNo lo) l.d) fun l' => bz (prt (isNo hi) (evE Fs C hi l.ρ l.M) l.ρ l.M) fun h => ob (part (isNo hi) h.d) fun h' => liftO (slD x.d l' h') h.ρ h.M := (rfl)
@[simp] theorem sl_t (xs : List PyData) (lo hi : Option Int) : slD (.py (.tuple xs)) lo hi = some (.py (.tuple (cutL xs lo hi)), false) := (rfl)
@[simp] theorem sl_l (xs : List PyData) (lo hi : Option Int) : slD (.py (.list xs)) lo hi = some (.py (.list (cutL xs lo hi)), true) := (rfl)
@[simp] theorem sl_s (xs : List Int) (lo hi : Option Int) : slD (.scr xs) lo hi = some (.py (.list ((cutL xs lo hi).map .int)), true) := (rfl)
@[simp] theorem cut_from {α : Type} (xs : List α) (k : Nat) : cutL xs (some (k : Int)) none = xs.drop k := by
  unfold cutL
  rw [HT.sIx_nat, HT.sIx_none]
  by_cases h : k ≤ xs.length
  · rw [Nat.min_eq_left h, List.take_of_length_le (by rw [List.length_drop]; omega)]
  · rw [Nat.min_eq_right (by omega), List.drop_of_length_le (by omega), List.drop_of_length_le (by omega)]
    simp
@[simp] theorem cut_to {α : Type} (xs : List α) (k : Nat) : cutL xs none (some (k : Int)) = xs.take k := by
  unfold cutL
  rw [HT.sIx_nat, HT.sIx_none, List.drop_zero, Nat.sub_zero]
  by_cases h : k ≤ xs.length
  · rw [Nat.min_eq_left h]
  · rw [Nat.min_eq_right (by omega), List.take_of_length_le (by omega), List.take_of_length_le (by omega)]
@[simp] theorem cut_1 {α : Type} (xs : List α) : cutL xs (some 1) none = xs.drop 1 := cut_from xs 1
@[simp] theorem cut_t1 {α : Type} (xs : List α) : cutL xs none (some 1) = xs.take 1 := cut_to xs 1
@[simp] theorem e_cell (es : Es) : evE Fs C (.cell es) ρ M = bz (evL Fs C es ρ M) fun a => ob (allPy (a.ds.map (·.1))) fun ps => if ps.length ≤ sizeLine then some (.ok ⟨.cel a.M.length, .sh, fzs a.ds a.ρ, a.M ++ [ps]⟩) else none := (rfl)
end
theorem s_pot {Fs : List Fn} {a b p q r t : Int} (C : Clo) {M : Mem} {ns : List Int} {pl : Nat} (hp : pl ≤ 1000) (ha : 0 ≤ a ∧ a < 2 ^ 40) (hpp : 0 ≤ p ∧ p < 2 ^ 40) (hq : 0 ≤ q ∧ q < 2 ^ 40) (ht : 0 < t ∧ t < 2 ^ 62) :
    ∃ ps, runF Fs (potD a b p q r t) C [.scr ns, .py (.int (pl : Int))] M = some (.ok ⟨.cel M.length, false, M ++ [ps]⟩) ∧ PotAt (M ++ [ps]) M.length 0 := by
  have c1 : ∃ cell : Int, evE Fs (fun _ => C) (cellE a b) [some (.scr ns, false), some (.py (.int (pl : Int)), false), none, none, none] M = some (.ok ⟨.py (.int cell), .sh, [some (.scr ns, false), some (.py (.int (pl : Int)), false), none, none, none], M⟩) := by
    unfold cellE
    by_cases h : pl < ns.length
    · refine ⟨ns[pl], ?_⟩
      have e : ixD M (.scr ns) (.py (.int (pl : Int))) = some (.py (.int ns[pl])) := by
        show (atI ns (pl : Int)).map (fun n => D.py (.int n)) = _
        unfold atI ixN
        rw [if_pos (by omega), if_pos (by omega)]
        simp [h]
      simp [h, e]
    · have e1 : o2 .mod (.py (.int (ns.take 1).sum)) (.py (.int 1000003)) = some (.py (.int ((ns.take 1).sum % 1000003)), false) := mod_ok (by decide)
      have e2 : o2 .mul (.py (.int a)) (.py (.int (pl : Int))) = some (.py (.int (a * pl)), false) := mul_ok (lt_up (a := 40) (by omega) (by decide)) (lt_up (a := 40) (by omega) (by decide))
      exact ⟨_, by simp [h, e1, e2, -List.map_take]; rfl⟩
  obtain ⟨cell, c1⟩ := c1
  have hA : o2 .pow (.py (.int 10)) (.py (.int 60)) = some (.py (.int (10 ^ 60)), false) := pow_ok (j := 60) (lt_up (a := 40) (by decide) (by decide)) (by decide)
  have hB : o2 .pow (.py (.int (10 ^ 60))) (.py (.int 5)) = some (.py (.int ((10 ^ 60) ^ 5)), false) := pow_ok (j := 5) (lt_up (a := 240) (by decide) (by decide)) (by decide)
  have hC : o2 .pow (.py (.int 10)) (.py (.int 18)) = some (.py (.int (10 ^ 18)), false) := pow_ok (j := 18) (lt_up (a := 40) (by decide) (by decide)) (by decide)
  have hm : (0 : Int) < (10 ^ 60) ^ 5 := by decide
  have hD : ∀ x : Int, o2 .mod (.py (.int x)) (.py (.int ((10 ^ 60) ^ 5))) = some (.py (.int (x % (10 ^ 60) ^ 5)), false) := fun x => mod_ok hm
  generalize hx : (if cell < 0 then -cell else cell) = x
  have x0 := Int.emod_nonneg x (b := (10 ^ 60) ^ 5) (by omega)
  have x1 := Int.emod_lt_of_pos x hm
  have big : ((10 : Int) ^ 60) ^ 5 < 2 ^ 1100 := by decide
  generalize hy : x % (10 ^ 60) ^ 5 = y at x0 x1
  have hE : ∀ g : Bool, o2 .mul (.py (.int y)) (.py (.int (if g = true then 1 else 0))) = some (.py (.int (y * if g = true then 1 else 0)), false) := fun g => mul_ok (lt_up (a := 1100) (by omega) (by decide)) (lt_up (a := 2) (by split <;> decide) (by decide))
  have hF : o2 .mod (.py (.int cell)) (.py (.int 2305843009213693951)) = some (.py (.int (cell % 2305843009213693951)), false) := mod_ok (by decide)
  have s0 := Int.emod_nonneg cell (b := 2305843009213693951) (by decide)
  have s1 := Int.emod_lt_of_pos cell (b := 2305843009213693951) (by decide)
  generalize hs : cell % 2305843009213693951 = z at hF s0 s1
  have hG : o2 .mul (.py (.int z)) (.py (.int p)) = some (.py (.int (z * p)), false) := mul_ok (lt_up (a := 70) (by omega) (by decide)) (lt_up (a := 40) (by omega) (by decide))
  have hH : o2 .mul (.py (.int q)) (.py (.int (pl : Int))) = some (.py (.int (q * pl)), false) := mul_ok (lt_up (a := 40) (by omega) (by decide)) (lt_up (a := 40) (by omega) (by decide))
  have b1 : (q * pl).natAbs < 2 ^ (40 + 40) := mul_lt (by omega) (by omega)
  have hI : o2 .mul (.py (.int (q * pl))) (.py (.int (pl : Int))) = some (.py (.int (q * pl * pl)), false) := mul_ok (lt_up b1 (by decide)) (lt_up (a := 40) (by omega) (by decide))
  have hJ : ∀ x : Int, o2 .mod (.py (.int x)) (.py (.int t)) = some (.py (.int (x % t)), false) := fun x => mod_ok ht.1
  generalize hv : z * p + q * pl * pl + r = v
  generalize hg : decide ((10 : Int) ^ 18 ≤ x) = g
  refine ⟨[.int (y * if g = true then 1 else 0), .int (v % t), .int 0], ?_, ?_⟩
  · rw [runF_eq rfl]
    show outOf (evSs Fs (fun _ => C) (.cons (.asg (.nm 2) (cellE a b)) _) [some (.scr ns, false), some (.py (.int (pl : Int)), false), none, none, none] M) = _
    rw [ss_cons, t_asg, c1]
    simp [-Int.reducePow, hA, hB, hC, hx, hD, hy, hg, hE, hF, hs, hG, hH, hI, hv, hJ, show (3 : Nat) ≤ sizeLine from by decide]
  · refine ⟨_, _, _, by rw [List.getElem?_append_right (Nat.le_refl _), Nat.sub_self]; rfl, ?_, ?_, Int.emod_nonneg v (by omega), ?_, by decide, by decide⟩
    · split <;> omega
    · split <;> omega
    · have := Int.emod_lt_of_pos v ht.1
      omega
end Ev

/-! Comprehensions as a whole. -/
namespace Ev
open L2 PyProof.Rows PySem PySem.Spec
section
variable {Fs : List Fn} {C : Nv → Clo} {own : List (Str × Nat)} {t : T} {src : Src} {cond elt : E} {ρ : Nv} {M : Mem} {α : Type}
theorem mkL_map (g : α → PyData) (xs : List α) : mkL (xs.map fun x => .py (g x)) = .py (.list (xs.map g)) := by
  refine mkL_py ?_
  rw [← all_map, List.map_map]
  rfl
theorem comp_filter {sd : D} {sm : Md} {ρ' ρw : Nv} {M' : Mem} (emb : α → D) (P : α → Bool) (g : α → PyData) (at_ : α → Nv) (xs : List α) (hs : evSrc Fs C src ρ M = some (.ok ⟨sd, sm, ρ', M'⟩)) (hi : items sd = some (xs.map emb)) (hz : xs.length ≤ sizeLine)
    (hw0 : wipeN ρ' (own.map (·.2)) = ρw) (hb : ∀ x ∈ xs, bindT t (emb x) ρw = some (at_ x)) (hc : ∀ x ∈ xs, ∃ c, evE Fs C cond (at_ x) M' = some (.ok ⟨c, .sh, at_ x, M'⟩) ∧ tru c = some (P x))
    (he : ∀ x ∈ xs, P x = true → ∃ m, evE Fs C elt (at_ x) M' = some (.ok ⟨.py (g x), m, at_ x, M'⟩) ∧ wipeN (fz m (at_ x)) (own.map (·.2)) = ρw) (hw : ∀ x ∈ xs, wipeN (at_ x) (own.map (·.2)) = ρw) (hk : backN ρ' ρw (own.map (·.2)) = ρ') :
    evE Fs C (.comp own t src cond elt) ρ M = some (.ok ⟨.py (.list ((xs.filter P).map g)), .fr, ρ', M'⟩) := by
  rw [e_comp, hs, bz_ok]
  simp only
  rw [hi, ob_s, if_pos (by rw [List.length_map]; exact hz), hw0, compE_pure emb P (fun x => .py (g x)) at_ xs ρw M' hb hc he hw, ob_s]
  simp only
  rw [hk, mkL_map]
theorem comp_map {sd : D} {sm : Md} {ρ' ρw : Nv} {M' : Mem} (emb : α → D) (g : α → PyData) (at_ : α → Nv) (xs : List α) (hs : evSrc Fs C src ρ M = some (.ok ⟨sd, sm, ρ', M'⟩)) (hi : items sd = some (xs.map emb)) (hz : xs.length ≤ sizeLine)
    (hw0 : wipeN ρ' (own.map (·.2)) = ρw) (hb : ∀ x ∈ xs, bindT t (emb x) ρw = some (at_ x))
    (he : ∀ x ∈ xs, ∃ m, evE Fs C elt (at_ x) M' = some (.ok ⟨.py (g x), m, at_ x, M'⟩) ∧ wipeN (fz m (at_ x)) (own.map (·.2)) = ρw) (hw : ∀ x ∈ xs, wipeN (at_ x) (own.map (·.2)) = ρw) (hk : backN ρ' ρw (own.map (·.2)) = ρ') :
    evE Fs C (.comp own t src .no elt) ρ M = some (.ok ⟨.py (.list (xs.map g)), .fr, ρ', M'⟩) := by
  rw [comp_filter (cond := .no) emb (fun _ => true) g at_ xs hs hi hz hw0 hb (fun x _ => ⟨_, e_no, rfl⟩) (fun x hx _ => he x hx) hw hk, List.filter_eq_self.mpr (fun _ _ => rfl)]
/-- .. whose turns may change the memory -/
theorem comp_st {sd : D} {sm : Md} {ρ' ρw : Nv} {M' : Mem} (emb : α → D) (at_ : α → Nv) (I : List α → List D → Mem → Prop) (xs : List α) (hs : evSrc Fs C src ρ M = some (.ok ⟨sd, sm, ρ', M'⟩)) (hi : items sd = some (xs.map emb)) (hz : xs.length ≤ sizeLine)
    (hw0 : wipeN ρ' (own.map (·.2)) = ρw) (h : I [] [] M') (hb : ∀ x ∈ xs, bindT t (emb x) ρw = some (at_ x))
    (st : ∀ (d : List α) (x : α) (rest : List α) (rs : List D) (M : Mem), xs = d ++ x :: rest → I d rs M → ∃ c M1 b, evE Fs C cond (at_ x) M = some (.ok ⟨c, .sh, at_ x, M1⟩) ∧ tru c = some b ∧
      ((b = true ∧ ∃ y m M2, evE Fs C elt (at_ x) M1 = some (.ok ⟨y, m, at_ x, M2⟩) ∧ wipeN (fz m (at_ x)) (own.map (·.2)) = ρw ∧ I (d ++ [x]) (rs ++ [y]) M2) ∨ (b = false ∧ wipeN (at_ x) (own.map (·.2)) = ρw ∧ I (d ++ [x]) rs M1))) (hk : backN ρ' ρw (own.map (·.2)) = ρ') :
    ∃ ys M2, evE Fs C (.comp own t src cond elt) ρ M = some (.ok ⟨mkL ys, .fr, ρ', M2⟩) ∧ I xs ys M2 := by
  obtain ⟨ys, M2, h1, h2⟩ := compE_st (Fs := Fs) (C := C) (t := t) (cond := cond) (elt := elt) (own := own.map (·.2)) emb at_ I xs M' h hb st
  refine ⟨ys, M2, ?_, h2⟩
  rw [e_comp, hs, bz_ok]
  simp only
  rw [hi, ob_s, if_pos (by rw [List.length_map]; exact hz), hw0, h1, ob_s]
  simp only
  rw [hk]
@[simp] theorem fzs_shs {β : Type} (f : β → D) : ∀ (xs : List β) (ps : List (D × Md)) (ρ : Nv), fzs (xs.map (fun x => (f x, Md.sh)) ++ ps) ρ = fzs ps ρ
  | [], _, _ => rfl
  | x :: xs, ps, ρ => fzs_shs f xs ps ρ
theorem allb (f : α → Bool) (xs : List α) : bi .all [.py (.list (xs.map fun x => .bool (f x)))] = some (.py (.bool (xs.all f)), false) := by
  have := all_b (xs.map f)
  rw [List.map_map] at this
  rw [show (fun x => PyData.bool (f x)) = PyData.bool ∘ f from rfl, this, List.all_map]
  rfl
theorem anyb (f : α → Bool) (xs : List α) : bi .any [.py (.list (xs.map fun x => .bool (f x)))] = some (.py (.bool (xs.any f)), false) := by
  have := any_b (xs.map f)
  rw [List.map_map] at this
  rw [show (fun x => PyData.bool (f x)) = PyData.bool ∘ f from rfl, this, List.any_map]
  rfl
theorem sumi (f : α → Int) (xs : List α) : bi .sum [.py (.list (xs.map fun x => .int (f x)))] = some (.py (.int (xs.map f).sum), false) := by
  have := sum_i (xs.map f)
  rw [List.map_map] at this
  exact this
end
end Ev

namespace k28
open L2 PyProof.Rows PySem PySem.Spec Ev
def c_is_rising_1 : E := .comp [("one", 1), ("other", 2)] (.tp [(.nm 1), (.nm 2)]) (.zip (.var 0) (.slc (.var 0) (.lit (.int 1)) .no)) .no (.cmp (.var 1) [.lt] (.cons false (.var 2) .nil))
def c_is_load_1 : E := .comp [("lot", 2)] (.nm 2) (.it (.var 1)) .no (.call 2 (.cons false (.var 2) (.cons false (.lit (.int 0)) (.cons false (.bin .sub (.var 0) (.lit (.int 1))) .nil))))
def c_check_case_1 : E := .comp [("wash", 4)] (.nm 4) (.it (.var 1)) .no (.call 5 (.cons false (.var 0) (.cons false (.var 4) .nil)))
def c_sets_of_1 : E := .comp [("some", 5)] (.nm 5) (.it (.bi .list (.cons false (.var 3) .nil))) (.cmp (.bi .len (.cons false (.var 5) .nil)) [.lt] (.cons false (.var 2) .nil)) (.tup (.cons true (.var 5) (.cons false (.var 4) .nil)))
def b_sets_of_1 : Ss := (.cons (.ext 3 c_sets_of_1)
    .nil)
def l_sets_of_1 : S := .for_ (.nm 4) (.rng1 (.var 0)) b_sets_of_1
def c_sets_of_2 : E := .comp [("some", 5)] (.nm 5) (.it (.var 3)) (.cmp (.bi .len (.cons false (.var 5) .nil)) [.ge] (.cons false (.var 1) .nil)) (.var 5)
def c_fits_1 : E := .comp [("lot", 2)] (.nm 2) (.it (.ix (.var 1) (.lit (.int 0)))) .no (.cmp (.var 2) [.inn] (.cons false (.var 0) .nil))
def c_left_of_1 : E := .comp [("wash", 5)] (.nm 5) (.it (.var 1)) .no (.call 9 (.cons false (.var 4) (.cons false (.var 5) .nil)))
def c_left_of_2 : E := .comp [("some", 4)] (.nm 4) (.it (.call 8 (.cons false (.var 0) (.cons false (.var 2) (.cons false (.var 3) .nil))))) (.bi .all (.cons false c_left_of_1 .nil)) (.var 4)
def c_words_of_1 : E := .comp [("one", 5)] (.nm 5) (.it (.var 1)) .no (.cmp (.var 3) [.inn] (.cons false (.var 5) .nil))
def b_words_of_1 : Ss := (.cons (.asg (.nm 4) c_words_of_1)
    (.cons (.app 2 (.ite (.bi .all (.cons false (.var 4) .nil)) (.gls "SURE" "sure") (.ite (.bi .any (.cons false (.var 4) .nil)) (.gls "OPEN" "open") (.gls "NEVER" "never"))))
    .nil))
def l_words_of_1 : S := .for_ (.nm 3) (.rng1 (.var 0)) b_words_of_1
def c_next_load_1 : E := .comp [("lot", 11)] (.nm 11) (.it (.var 10)) .no (.bin .shl (.lit (.int 1)) (.var 11))
def c_next_load_2 : E := .comp [("one", 10)] (.nm 10) (.it (.call 10 (.cons false (.var 0) (.cons false (.var 1) (.cons false (.var 2) (.cons false (.var 3) .nil)))))) .no (.bi .sum (.cons false c_next_load_1 .nil))
def c_next_load_3 : E := .comp [("lot", 11)] (.nm 11) (.it (.var 4)) .no (.bin .shl (.lit (.int 1)) (.var 11))
def c_next_load_4 : E := .comp [("one", 10)] (.nm 10) (.it (.var 5)) (.cmp (.bin .band (.var 10) (.var 7)) [.ne] (.cons false (.lit (.int 0)) .nil)) (.var 10)
def b_next_load_1 : Ss := (.cons (.asg (.nm 7) (.bi .sum (.cons false c_next_load_3 .nil)))
    (.cons (.asg (.nm 8) (.bi .len (.cons false c_next_load_4 .nil)))
    (.cons (.asg (.nm 9) (.bi .max (.cons false (.var 8) (.cons false (.bin .sub (.bi .len (.cons false (.var 5) .nil)) (.var 8)) .nil))))
    (.cons (.ifs (.bop false (.cons false (.cmp (.var 6) [.is] (.cons false (.lit .none) .nil)) (.cons false (.cmp (.tup (.cons false (.var 9) (.cons false (.var 4) .nil))) [.lt] (.cons false (.var 6) .nil)) .nil)))
    (.cons (.asg (.nm 6) (.tup (.cons false (.var 9) (.cons false (.var 4) .nil))))
    .nil)
    .nil)
    .nil))))
def l_next_load_1 : S := .for_ (.nm 4) (.it (.call 8 (.cons false (.var 0) (.cons false (.lit (.int 1)) (.cons false (.var 0) .nil))))) b_next_load_1
def c_first_wrong_1 : E := .comp [("one", 7)] (.nm 7) (.it (.var 4)) (.call 9 (.cons false (.var 7) (.cons false (.var 6) .nil))) (.var 7)
def b_first_wrong_1 : Ss := (.cons (.asg (.nm 4) c_first_wrong_1)
    (.cons (.ifs (.cmp (.var 4) [.eq] (.cons false (.lst .nil) .nil))
    (.cons (.ret (.var 5))
    .nil)
    .nil)
    .nil))
def l_first_wrong_1 : S := .for_ (.tp [(.nm 5), (.nm 6)]) (.enu (.var 1)) b_first_wrong_1
def c_law_lots_1 : E := .comp [("some", 5)] (.nm 5) (.it (.var 3)) .no (.bin .add (.var 5) (.tup (.cons false (.var 4) .nil)))
def b_law_lots_1 : Ss := (.cons (.ext 3 c_law_lots_1)
    .nil)
def l_law_lots_1 : S := .for_ (.nm 4) (.rng1 (.var 0)) b_law_lots_1
def c_law_lots_2 : E := .comp [("some", 5)] (.nm 5) (.it (.var 3)) (.cmp (.var 1) [.le, .le] (.cons false (.bi .len (.cons false (.var 5) .nil)) (.cons false (.var 2) .nil))) (.var 5)
def c_law_fits_1 : E := .comp [("lot", 2)] (.nm 2) (.it (.ix (.var 1) (.lit (.int 0)))) .no (.cmp (.var 2) [.inn] (.cons false (.var 0) .nil))
def c_law_washes_1 : E := .comp [("lot", 7)] (.nm 7) (.rng1 (.var 1)) (.cmp (.call 18 (.cons false (.var 0) (.cons false (.lit (.int 2)) .nil))) [.eq] (.cons false (.lit (.int 0)) .nil)) (.var 7)
def c_law_washes_2 : E := .comp [("lot", 7)] (.nm 7) (.it (.var 5)) .no (.cmp (.var 7) [.inn] (.cons false (.var 2) .nil))
def b_law_washes_1 : Ss := (.cons (.asg (.nm 5) (.bi .tuple (.cons false c_law_washes_1 .nil)))
    (.cons (.asg (.nm 5) (.ite (.cmp (.var 5) [.ne] (.cons false (.tup .nil) .nil)) (.var 5) (.tup (.cons false (.call 18 (.cons false (.var 0) (.cons false (.var 1) .nil))) .nil))))
    (.cons (.asg (.nm 6) (.bi .any (.cons false c_law_washes_2 .nil)))
    (.cons (.app 3 (.tup (.cons false (.var 5) (.cons false (.ite (.cmp (.call 18 (.cons false (.var 0) (.cons false (.lit (.int 12)) .nil))) [.gt] (.cons false (.lit (.int 0)) .nil)) (.var 6) (.not (.var 6))) .nil))))
    .nil))))
def l_law_washes_1 : S := .for_ (.nm 4) (.rng1 (.call 18 (.cons false (.var 0) (.cons false (.lit (.int 7)) .nil)))) b_law_washes_1
def c_law_are_refused_1 : E := .comp [("is_kind", 15), ("name", 16)] (.tp [(.nm 15), (.nm 16)]) (.it (.var 14)) (.var 15) (.var 16)
def b_law_are_refused_2 : Ss := (.cons (.asg (.nm 13) (.ix (.hearL (.cv [12, 13, 16, 17] (.var 6) (.cons false (.ix (.var 10) (.lit (.int 0))) (.cons false (.ix (.var 10) (.lit (.int 1))) (.cons false (.ix (.var 10) (.lit (.int 2))) (.cons false (.ix (.var 10) (.lit (.int 3))) .nil)))))) (.lit (.int 0))))
    (.cons (.asg (.nm 14) (.lst (.cons false (.tup (.cons false (.isi (.exc 1) (.var 13)) (.cons false (.lit (.str "lots")) .nil))) (.cons false (.tup (.cons false (.isi (.exc 3) (.var 13)) (.cons false (.lit (.str "washes")) .nil))) .nil))))
    (.cons (.app 14 (.tup (.cons false (.isi (.exc 2) (.var 13)) (.cons false (.lit (.str "number")) .nil))))
    (.cons (.ifs (.bop false (.cons false (.cmp c_law_are_refused_1 [.ne] (.cons false (.lst (.cons false (.var 11) .nil)) .nil)) (.cons false (.cmp (.bi .repr (.cons false (.attr (.var 13)) .nil)) [.ne] (.cons false (.bi .repr (.cons false (.var 12) .nil)) .nil)) .nil)))
    (.cons (.ret (.lit (.bool false)))
    .nil)
    .nil)
    .nil))))
def l_law_are_refused_2 : S := .for_ (.tp [(.nm 10), (.nm 11), (.nm 12)]) (.it (.var 9)) b_law_are_refused_2
def b_law_are_refused_1 : Ss := (.cons (.asg (.nm 9) (.lst (.cons false (.tup (.cons false (.tup (.cons false (.var 3) (.cons false (.var 4) (.cons false (.var 7) (.cons false (.var 8) .nil))))) (.cons false (.lit (.str "lots")) (.cons false (.var 3) .nil)))) (.cons false (.tup (.cons false (.tup (.cons false (.var 1) (.cons false (.var 4) (.cons false (.var 7) (.cons false (.var 8) .nil))))) (.cons false (.lit (.str "washes")) (.cons false (.var 4) .nil)))) .nil))))
    (.cons (.ext 9 (.lst (.cons false (.tup (.cons false (.tup (.cons false (.var 1) (.cons false (.var 2) (.cons false (.var 7) (.cons false (.var 8) .nil))))) (.cons false (.lit (.str "number")) (.cons false (.var 7) .nil)))) (.cons false (.tup (.cons false (.tup (.cons false (.var 1) (.cons false (.var 2) (.cons false (.lit (.int 1)) (.cons false (.var 8) .nil))))) (.cons false (.lit (.str "number")) (.cons false (.var 8) .nil)))) .nil))))
    (.cons (.app 9 (.tup (.cons false (.tup (.cons false (.var 1) (.cons false (.bin .add (.var 2) (.bin .mul (.tup (.cons false (.tup (.cons false (.tup (.cons false (.lit (.int 0)) .nil)) (.cons false (.lit (.bool true)) .nil))) .nil)) (.lit (.int 31)))) (.cons false (.lit (.int 1)) (.cons false (.lit (.int 1)) .nil))))) (.cons false (.lit (.str "washes")) (.cons false (.bin .add (.var 2) (.bin .mul (.tup (.cons false (.tup (.cons false (.tup (.cons false (.lit (.int 0)) .nil)) (.cons false (.lit (.bool true)) .nil))) .nil)) (.lit (.int 31)))) .nil)))))
    (.cons l_law_are_refused_2
    .nil))))
def l_law_are_refused_1 : S := .for_ (.nm 6) (.it (.tup (.cons false (.glf 16) (.cons false (.glf 12) (.cons false (.glf 17) (.cons false (.glf 13) .nil)))))) b_law_are_refused_1
def c_law_right_1 : E := .comp [("one", 17)] (.nm 17) (.it (.var 11)) (.call 21 (.cons false (.var 17) (.cons false (.var 14) .nil))) (.var 17)
def b_law_right_1 : Ss := (.cons (.asg (.nm 11) c_law_right_1)
    (.cons (.asg (.nm 12) (.ite (.bop true (.cons false (.cmp (.var 11) [.eq] (.cons false (.lst .nil) .nil)) (.cons false (.cmp (.var 12) [.is] (.cons false (.lit .none) .nil)) .nil))) (.var 13) (.var 12)))
    .nil))
def l_law_right_1 : S := .for_ (.tp [(.nm 13), (.nm 14)]) (.enu (.var 6)) b_law_right_1
def c_law_right_2 : E := .comp [("one", 17)] (.nm 17) (.it (.var 11)) .no (.cmp (.var 8) [.inn] (.cons false (.var 17) .nil))
def b_law_right_2 : Ss := (.cons (.asg (.nm 15) c_law_right_2)
    (.cons (.app 7 (.ite (.bi .all (.cons false (.var 15) .nil)) (.lit (.str "sure")) (.ite (.bi .any (.cons false (.var 15) .nil)) (.lit (.str "open")) (.lit (.str "never")))))
    .nil))
def l_law_right_2 : S := .for_ (.nm 8) (.rng1 (.var 1)) b_law_right_2
def c_law_right_3 : E := .comp [("one", 17)] (.nm 17) (.it (.var 11)) (.call 21 (.cons false (.var 17) (.cons false (.tup (.cons false (.var 10) (.cons false (.lit (.bool true)) .nil))) .nil))) (.var 17)
def b_law_right_3 : Ss := (.cons (.asg (.nm 16) (.bi .len (.cons false c_law_right_3 .nil)))
    (.cons (.app 9 (.tup (.cons false (.bi .max (.cons false (.var 16) (.cons false (.bin .sub (.bi .len (.cons false (.var 11) .nil)) (.var 16)) .nil))) (.cons false (.var 10) .nil))))
    .nil))
def l_law_right_3 : S := .for_ (.nm 10) (.it (.call 20 (.cons false (.var 1) (.cons false (.lit (.int 1)) (.cons false (.var 1) .nil))))) b_law_right_3
def c_law_1 : E := .comp [("lap", 3)] (.nm 3) (.rng1 (.lit (.int 3))) .no (.call 24 (.cons false (.var 2) .nil))
def b_law_1 : Ss := (.cons (.asg (.nm 2) (.call 14 (.cons false (.var 0) (.cons false (.var 1) .nil))))
    (.cons (.ifs (.not (.bi .all (.cons false c_law_1 .nil)))
    (.cons (.ret (.lit (.bool false)))
    .nil)
    .nil)
    .nil))
def l_law_1 : S := .for_ (.nm 1) (.it (.call 15 (.cons false (.var 0) (.cons false (.lit (.int 4)) .nil)))) b_law_1
def d_is_tuple : Def := ⟨3, 3,
    (.cons (.ret (.bop true (.cons false (.isi .tup (.var 0)) (.cons false (.cmp (.var 1) [.le, .le] (.cons false (.bi .len (.cons false (.var 0) .nil)) (.cons false (.var 2) .nil))) .nil))))
    .nil)⟩
def d_is_whole : Def := ⟨1, 1,
    (.cons (.ret (.bop true (.cons false (.isi .int (.var 0)) (.cons false (.not (.isi .bool (.var 0))) .nil))))
    .nil)⟩
def d_is_integer : Def := ⟨3, 3,
    (.cons (.ret (.bop true (.cons false (.call 1 (.cons false (.var 0) .nil)) (.cons false (.cmp (.var 1) [.le, .le] (.cons false (.var 0) (.cons false (.var 2) .nil))) .nil))))
    .nil)⟩
def d_is_rising : Def := ⟨3, 1,
    (.cons (.ret (.bi .all (.cons false c_is_rising_1 .nil)))
    .nil)⟩
def d_is_load : Def := ⟨3, 2,
    (.cons (.ifs (.bop false (.cons false (.not (.call 0 (.cons false (.var 1) (.cons false (.lit (.int 1)) (.cons false (.var 0) .nil))))) (.cons false (.not (.bi .all (.cons false c_is_load_1 .nil))) .nil)))
    (.cons (.ret (.lit (.bool false)))
    .nil)
    .nil)
    (.cons (.ret (.call 3 (.cons false (.var 1) .nil)))
    .nil))⟩
def d_is_wash : Def := ⟨2, 2,
    (.cons (.ret (.bop true (.cons false (.call 0 (.cons false (.var 1) (.cons false (.gli "PAIR" (2)) (.cons false (.gli "PAIR" (2)) .nil)))) (.cons false (.call 4 (.cons false (.var 0) (.cons false (.ix (.var 1) (.lit (.int 0))) .nil))) (.cons false (.isi .bool (.ix (.var 1) (.lit (.int 1)))) .nil)))))
    .nil)⟩
def d_check_many : Def := ⟨1, 1,
    (.cons (.ifs (.not (.call 2 (.cons false (.var 0) (.cons false (.lit (.int 1)) (.cons false (.gli "MOST_LOTS" (12)) .nil)))))
    (.cons (.rai 1 (.var 0))
    .nil)
    .nil)
    .nil)⟩
def d_check_case : Def := ⟨5, 4,
    (.cons (.ex (.call 6 (.cons false (.var 0) .nil)))
    (.cons (.ifs (.bop false (.cons false (.not (.call 0 (.cons false (.var 1) (.cons false (.lit (.int 0)) (.cons false (.gli "MOST_WASHES" (30)) .nil))))) (.cons false (.not (.bi .all (.cons false c_check_case_1 .nil))) .nil)))
    (.cons (.rai 3 (.var 1))
    .nil)
    .nil)
    (.cons (.ifs (.not (.call 2 (.cons false (.var 2) (.cons false (.lit (.int 0)) (.cons false (.bi .min (.cons false (.var 0) (.cons false (.gli "MOST_RAN" (3)) .nil))) .nil)))))
    (.cons (.rai 2 (.var 2))
    .nil)
    .nil)
    (.cons (.ifs (.not (.call 2 (.cons false (.var 3) (.cons false (.var 2) (.cons false (.bi .min (.cons false (.var 0) (.cons false (.gli "MOST_RAN" (3)) .nil))) .nil)))))
    (.cons (.rai 2 (.var 3))
    .nil)
    .nil)
    .nil))))⟩
def d_sets_of : Def := ⟨6, 3,
    (.cons (.asg (.nm 3) (.lst (.cons false (.tup .nil) .nil)))
    (.cons l_sets_of_1
    (.cons (.ret (.bi .sorted (.cons false c_sets_of_2 .nil)))
    .nil)))⟩
def d_fits : Def := ⟨3, 2,
    (.cons (.ret (.cmp (.bi .any (.cons false c_fits_1 .nil)) [.eq] (.cons false (.ix (.var 1) (.lit (.int 1))) .nil)))
    .nil)⟩
def d_left_of : Def := ⟨6, 4,
    (.cons (.ret c_left_of_2)
    .nil)⟩
def d_words_of : Def := ⟨6, 2,
    (.cons (.asg (.nm 2) (.lst .nil))
    (.cons l_words_of_1
    (.cons (.ret (.bi .tuple (.cons false (.var 2) .nil)))
    .nil)))⟩
def d_told : Def := ⟨5, 4,
    (.cons (.ex (.call 7 (.cons false (.var 0) (.cons false (.var 1) (.cons false (.var 2) (.cons false (.var 3) .nil))))))
    (.cons (.asg (.nm 4) (.call 10 (.cons false (.var 0) (.cons false (.var 1) (.cons false (.var 2) (.cons false (.var 3) .nil))))))
    (.cons (.ret (.ite (.cmp (.var 4) [.ne] (.cons false (.lst .nil) .nil)) (.call 11 (.cons false (.var 0) (.cons false (.var 4) .nil))) (.lit .none)))
    .nil)))⟩
def d_next_load : Def := ⟨12, 4,
    (.cons (.ex (.call 7 (.cons false (.var 0) (.cons false (.var 1) (.cons false (.var 2) (.cons false (.var 3) .nil))))))
    (.cons (.par [5, 6] (.cons false c_next_load_2 (.cons false (.lit .none) .nil)))
    (.cons l_next_load_1
    (.cons (.ret (.var 6))
    .nil))))⟩
def d_law_pot : Def := ⟨5, 2,
    (.cons (.asg (.nm 2) (.ite (.cmp (.var 1) [.lt] (.cons false (.bi .len (.cons false (.var 0) .nil)) .nil)) (.ix (.var 0) (.var 1)) (.bin .add (.bin .add (.bin .mod (.bi .sum (.cons false (.slc (.var 0) .no (.lit (.int 1))) .nil)) (.lit (.int 1000003))) (.bin .mul (.lit (.int 6877)) (.var 1))) (.lit (.int 459)))))
    (.cons (.asg (.nm 3) (.bin .mul (.bin .mod (.bi .int (.cons false (.bi .abs (.cons false (.var 2) .nil)) .nil)) (.bin .pow (.bin .pow (.lit (.int 10)) (.lit (.int 60))) (.lit (.int 5)))) (.bi .int (.cons false (.cmp (.bi .abs (.cons false (.var 2) .nil)) [.ge] (.cons false (.bin .pow (.lit (.int 10)) (.lit (.int 18))) .nil)) .nil))))
    (.cons (.asg (.nm 4) (.bin .mod (.bi .int (.cons false (.var 2) .nil)) (.lit (.int 2305843009213693951))))
    (.cons (.ret (.cell (.cons false (.var 3) (.cons false (.bin .mod (.bi .int (.cons false (.bin .add (.bin .add (.bin .mul (.var 4) (.lit (.int 94607))) (.bin .mul (.bin .mul (.lit (.int 11335)) (.var 1)) (.var 1))) (.lit (.int 866))) .nil)) (.lit (.int 2305843009213693921))) (.cons false (.lit (.int 0)) .nil)))))
    .nil))))⟩
def d_law_places : Def := ⟨2, 2,
    (.cons (.ret (.lsrc (.rng1 (.bi .max (.cons false (.lit (.int 1)) (.cons false (.bi .min (.cons false (.var 1) (.cons false (.bi .len (.cons false (.var 0) .nil)) .nil))) .nil))))))
    .nil)⟩
def d_may_have : Def := ⟨4, 4,
    (.cons (.ex (.call 7 (.cons false (.var 0) (.cons false (.var 1) (.cons false (.var 2) (.cons false (.var 3) .nil))))))
    (.cons (.ret (.bi .tuple (.cons false (.call 10 (.cons false (.var 0) (.cons false (.var 1) (.cons false (.var 2) (.cons false (.var 3) .nil))))) .nil)))
    .nil))⟩
def d_first_wrong : Def := ⟨8, 4,
    (.cons (.ex (.call 7 (.cons false (.var 0) (.cons false (.var 1) (.cons false (.var 2) (.cons false (.var 3) .nil))))))
    (.cons (.asg (.nm 4) (.call 8 (.cons false (.var 0) (.cons false (.var 2) (.cons false (.var 3) .nil)))))
    (.cons l_first_wrong_1
    (.cons (.ret (.lit .none))
    .nil))))⟩
def d_law_take : Def := ⟨5, 2,
    (.cons (.ifs (.cmp (.ix (.var 0) (.lit (.int 0))) [.gt] (.cons false (.lit (.int 0)) .nil))
    (.cons (.asg (.nm 4) (.bin .mod (.bi .int (.cons false (.ix (.var 0) (.lit (.int 0))) .nil)) (.var 1)))
    (.cons (.set 0 (.lit (.int 0)) (.bin .fdiv (.ix (.var 0) (.lit (.int 0))) (.var 1)))
    (.cons (.ret (.var 4))
    .nil)))
    .nil)
    (.cons (.set 0 (.lit (.int 2)) (.bin .add (.ix (.var 0) (.lit (.int 2))) (.lit (.int 1))))
    (.cons (.asg (.nm 2) (.ix (.lst (.cons false (.lit (.int 2147483647)) (.cons false (.lit (.int 2147483629)) (.cons false (.lit (.int 2147483587)) (.cons false (.lit (.int 2147483579)) (.cons false (.lit (.int 2147483563)) .nil)))))) (.bin .mod (.bi .int (.cons false (.ix (.var 0) (.lit (.int 2))) .nil)) (.lit (.int 5)))))
    (.cons (.asg (.nm 3) (.bin .mod (.bi .int (.cons false (.bin .pow (.bi .int (.cons false (.bin .add (.bin .add (.ix (.var 0) (.lit (.int 1))) (.bin .mul (.bin .mul (.lit (.int 91536)) (.ix (.var 0) (.lit (.int 2)))) (.ix (.var 0) (.lit (.int 2))))) (.lit (.int 666))) .nil)) (.lit (.int 3))) .nil)) (.var 2)))
    (.cons (.asg (.nm 3) (.bin .mod (.bi .int (.cons false (.bin .mul (.var 3) (.bin .add (.bin .mod (.bi .int (.cons false (.var 3) .nil)) (.lit (.int 10259))) (.bin .mul (.lit (.int 122)) (.ix (.var 0) (.lit (.int 2)))))) .nil)) (.lit (.int 2305843009213693907))))
    (.cons (.ret (.bin .mod (.bi .int (.cons false (.bin .fdiv (.var 3) (.lit (.int 152))) .nil)) (.var 1)))
    .nil))))))⟩
def d_law_of : Def := ⟨2, 2,
    (.cons (.ret (.ix (.var 1) (.call 18 (.cons false (.var 0) (.cons false (.bi .len (.cons false (.var 1) .nil)) .nil)))))
    .nil)⟩
def d_law_lots : Def := ⟨6, 3,
    (.cons (.asg (.nm 3) (.lst (.cons false (.tup .nil) .nil)))
    (.cons l_law_lots_1
    (.cons (.ret (.bi .sorted (.cons false c_law_lots_2 .nil)))
    .nil)))⟩
def d_law_fits : Def := ⟨3, 2,
    (.cons (.ret (.cmp (.bi .any (.cons false c_law_fits_1 .nil)) [.eq] (.cons false (.ix (.var 1) (.lit (.int 1))) .nil)))
    .nil)⟩
def d_law_washes : Def := ⟨8, 3,
    (.cons (.asg (.nm 3) (.lst .nil))
    (.cons l_law_washes_1
    (.cons (.ret (.bi .tuple (.cons false (.var 3) .nil)))
    .nil)))⟩
def d_law_are_refused : Def := ⟨17, 3,
    (.cons (.asg (.nm 3) (.call 19 (.cons false (.var 0) (.cons false (.lst (.cons false (.lit .none) (.cons false (.lit (.int 0)) (.cons false (.lit (.int 13)) (.cons false (.lit (.bool true)) (.cons false (.lit (.str "3")) .nil)))))) .nil))))
    (.cons (.asg (.nm 4) (.lst (.cons false (.lit .none) (.cons false (.bi .list (.cons false (.var 2) .nil)) (.cons false (.tup (.cons false (.tup (.cons false (.tup .nil) (.cons false (.lit (.bool true)) .nil))) .nil)) (.cons false (.tup (.cons false (.tup (.cons false (.tup (.cons false (.lit (.int 0)) (.cons false (.lit (.int 0)) .nil))) (.cons false (.lit (.bool true)) .nil))) .nil)) (.cons false (.tup (.cons false (.tup (.cons false (.tup (.cons false (.var 1) .nil)) (.cons false (.lit (.bool true)) .nil))) .nil)) (.cons false (.tup (.cons false (.tup (.cons false (.tup (.cons false (.lit (.int 0)) .nil)) (.cons false (.lit (.int 1)) .nil))) .nil)) (.cons false (.tup (.cons false (.tup (.cons false (.lit (.int 0)) .nil)) .nil)) .nil)))))))))
    (.cons (.asg (.nm 4) (.call 19 (.cons false (.var 0) (.cons false (.var 4) .nil))))
    (.cons (.asg (.nm 5) (.bi .min (.cons false (.var 1) (.cons false (.lit (.int 3)) .nil))))
    (.cons (.par [7, 8] (.cons false (.call 19 (.cons false (.var 0) (.cons false (.lst (.cons false (.lit .none) (.cons false (.neg (.lit (.int 1))) (.cons false (.bin .add (.var 5) (.lit (.int 1))) (.cons false (.lit (.bool true)) .nil))))) .nil))) (.cons false (.call 19 (.cons false (.var 0) (.cons false (.lst (.cons false (.lit .none) (.cons false (.lit (.int 0)) (.cons false (.bin .add (.var 5) (.lit (.int 1))) (.cons false (.lit (.bool true)) .nil))))) .nil))) .nil)))
    (.cons l_law_are_refused_1
    (.cons (.ret (.lit (.bool true)))
    .nil)))))))⟩
def d_law_right : Def := ⟨18, 1,
    (.cons (.asg (.nm 1) (.bin .add (.lit (.int 1)) (.call 18 (.cons false (.var 0) (.cons false (.lit (.int 6)) .nil)))))
    (.cons (.asg (.nm 2) (.bi .min (.cons false (.var 1) (.cons false (.lit (.int 3)) .nil))))
    (.cons (.asg (.nm 3) (.call 18 (.cons false (.var 0) (.cons false (.bin .add (.var 2) (.lit (.int 1))) .nil))))
    (.cons (.asg (.nm 4) (.bin .add (.var 3) (.call 18 (.cons false (.var 0) (.cons false (.bin .add (.bin .sub (.var 2) (.var 3)) (.lit (.int 1))) .nil)))))
    (.cons (.asg (.nm 5) (.call 20 (.cons false (.var 1) (.cons false (.var 3) (.cons false (.var 4) .nil)))))
    (.cons (.asg (.nm 6) (.call 22 (.cons false (.var 0) (.cons false (.var 1) (.cons false (.call 19 (.cons false (.var 0) (.cons false (.var 5) .nil))) .nil)))))
    (.cons (.par [11, 12] (.cons false (.var 5) (.cons false (.lit .none) .nil)))
    (.cons l_law_right_1
    (.cons (.ifs (.cmp (.bi .repr (.cons false (.call 16 (.cons false (.var 1) (.cons false (.var 6) (.cons false (.var 3) (.cons false (.var 4) .nil))))) .nil)) [.ne] (.cons false (.bi .repr (.cons false (.bi .tuple (.cons false (.var 11) .nil)) .nil)) .nil))
    (.cons (.ret (.lit (.bool false)))
    .nil)
    .nil)
    (.cons (.ifs (.cmp (.bi .repr (.cons false (.call 17 (.cons false (.var 1) (.cons false (.var 6) (.cons false (.var 3) (.cons false (.var 4) .nil))))) .nil)) [.ne] (.cons false (.bi .repr (.cons false (.var 12) .nil)) .nil))
    (.cons (.ret (.lit (.bool false)))
    .nil)
    .nil)
    (.cons (.asg (.nm 7) (.lst .nil))
    (.cons l_law_right_2
    (.cons (.ifs (.cmp (.bi .repr (.cons false (.call 12 (.cons false (.var 1) (.cons false (.var 6) (.cons false (.var 3) (.cons false (.var 4) .nil))))) .nil)) [.ne] (.cons false (.bi .repr (.cons false (.ite (.cmp (.var 11) [.ne] (.cons false (.lst .nil) .nil)) (.bi .tuple (.cons false (.var 7) .nil)) (.lit .none)) .nil)) .nil))
    (.cons (.ret (.lit (.bool false)))
    .nil)
    .nil)
    (.cons (.asg (.nm 9) (.lst .nil))
    (.cons l_law_right_3
    (.cons (.ifs (.cmp (.bi .repr (.cons false (.call 13 (.cons false (.var 1) (.cons false (.var 6) (.cons false (.var 3) (.cons false (.var 4) .nil))))) .nil)) [.ne] (.cons false (.bi .repr (.cons false (.bi .min (.cons false (.var 9) .nil)) .nil)) .nil))
    (.cons (.ret (.lit (.bool false)))
    .nil)
    .nil)
    (.cons (.ret (.call 23 (.cons false (.var 0) (.cons false (.var 1) (.cons false (.var 6) .nil)))))
    .nil)))))))))))))))))⟩
def d_law : Def := ⟨4, 1,
    (.cons (.ifs (.bop false (.cons false (.cmp (.bi .repr (.cons false (.call 12 (.cons false (.lit (.int 3)) (.cons false (.tup (.cons false (.tup (.cons false (.tup (.cons false (.lit (.int 0)) (.cons false (.lit (.int 1)) .nil))) (.cons false (.lit (.bool true)) .nil))) .nil)) (.cons false (.lit (.int 1)) (.cons false (.lit (.int 1)) .nil))))) .nil)) [.ne] (.cons false (.lit (.str "('open', 'open', 'never')")) .nil)) (.cons false (.cmp (.call 13 (.cons false (.lit (.int 4)) (.cons false (.tup .nil) (.cons false (.lit (.int 1)) (.cons false (.lit (.int 1)) .nil))))) [.ne] (.cons false (.tup (.cons false (.lit (.int 2)) (.cons false (.tup (.cons false (.lit (.int 0)) (.cons false (.lit (.int 1)) .nil))) .nil))) .nil)) .nil)))
    (.cons (.ret (.lit (.bool false)))
    .nil)
    .nil)
    (.cons l_law_1
    (.cons (.ret (.lit (.bool true)))
    .nil)))⟩
def b : List Stmt := PySem.Challenge.pw_drybytheirhour_k28_whole_which_lot_surel.main.body
def r_is_tuple : Rec := ⟨1, "is_tuple", d_is_tuple, ["value", "least", "most"], ["value", "least", "most"], 2, false⟩
def r_is_whole : Rec := ⟨2, "is_whole", d_is_whole, ["value"], ["value"], 2, false⟩
def r_is_integer : Rec := ⟨3, "is_integer", d_is_integer, ["value", "low", "high"], ["value", "low", "high"], 3, false⟩
def r_is_rising : Rec := ⟨4, "is_rising", d_is_rising, ["values", "one", "other"], ["values"], 2, false⟩
def r_is_load : Rec := ⟨18, "is_load", d_is_load, ["many", "value", "lot"], ["many", "value"], 4, false⟩
def r_is_wash : Rec := ⟨19, "is_wash", d_is_wash, ["many", "value"], ["many", "value"], 5, false⟩
def r_check_many : Rec := ⟨20, "check_many", d_check_many, ["value"], ["value"], 4, false⟩
def r_check_case : Rec := ⟨21, "check_case", d_check_case, ["many", "washes", "least", "most", "wash"], ["many", "washes", "least", "most"], 6, false⟩
def r_sets_of : Rec := ⟨22, "sets_of", d_sets_of, ["many", "least", "most", "found", "lot", "some"], ["many", "least", "most"], 2, false⟩
def r_fits : Rec := ⟨23, "fits", d_fits, ["some", "wash", "lot"], ["some", "wash"], 2, false⟩
def r_left_of : Rec := ⟨24, "left_of", d_left_of, ["many", "washes", "least", "most", "some", "wash"], ["many", "washes", "least", "most"], 3, false⟩
def r_words_of : Rec := ⟨26, "words_of", d_words_of, ["many", "some", "found", "lot", "ran", "one"], ["many", "some"], 2, false⟩
def r_told : Rec := ⟨27, "told", d_told, ["many", "washes", "least", "most", "some"], ["many", "washes", "least", "most"], 7, false⟩
def r_next_load : Rec := ⟨29, "next_load", d_next_load, ["many", "washes", "least", "most", "load", "some", "best", "mark", "stained", "worst", "one", "lot"], ["many", "washes", "least", "most"], 7, false⟩
def r_law_pot : Rec := ⟨31, "_law_pot", d_law_pot, ["script", "place", "cell", "own", "small"], ["script", "place"], 2, false⟩
def r_law_places : Rec := ⟨34, "_law_places", d_law_places, ["script", "most"], ["script", "most"], 2, false⟩
def r_may_have : Rec := ⟨25, "may_have", d_may_have, ["many", "washes", "least", "most"], ["many", "washes", "least", "most"], 7, false⟩
def r_first_wrong : Rec := ⟨28, "first_wrong", d_first_wrong, ["many", "washes", "least", "most", "some", "at", "wash", "one"], ["many", "washes", "least", "most"], 7, false⟩
def r_law_take : Rec := ⟨32, "_law_take", d_law_take, ["pot", "upto", "prime", "blend", "digit"], ["pot", "upto"], 2, false⟩
def r_law_of : Rec := ⟨33, "_law_of", d_law_of, ["pot", "some"], ["pot", "some"], 3, false⟩
def r_law_lots : Rec := ⟨36, "_law_lots", d_law_lots, ["many", "least", "most", "found", "lot", "some"], ["many", "least", "most"], 2, false⟩
def r_law_fits : Rec := ⟨37, "_law_fits", d_law_fits, ["some", "wash", "lot"], ["some", "wash"], 2, false⟩
def r_law_washes : Rec := ⟨38, "_law_washes", d_law_washes, ["pot", "many", "ran", "found", "lap", "load", "is_stained", "lot"], ["pot", "many", "ran"], 3, false⟩
def r_law_are_refused : Rec := ⟨39, "_law_are_refused", d_law_are_refused, ["pot", "many", "washes", "bad", "odd", "most", "call", "less", "more", "rows", "values", "word", "value", "caught", "kinds", "is_kind", "name"], ["pot", "many", "washes"], 10, true⟩
def r_law_right : Rec := ⟨40, "_law_right", d_law_right, ["pot", "many", "top", "least", "most", "every", "washes", "words", "lot", "rows", "load", "some", "wrong", "at", "wash", "ran", "stained", "one"], ["pot"], 11, false⟩
def r_law : Rec := ⟨41, "law", d_law, ["script", "place", "pot", "lap"], ["script"], 12, false⟩
def recs : List Rec := ([r_is_tuple, r_is_whole, r_is_integer, r_is_rising, r_is_load, r_is_wash, r_check_many, r_check_case, r_sets_of, r_fits, r_left_of, r_words_of, r_told, r_next_load, r_law_pot, r_law_places, r_may_have, r_first_wrong, r_law_take, r_law_of] : List (Rec)) ++ ([r_law_lots, r_law_fits, r_law_washes, r_law_are_refused, r_law_right] : List (Rec))
def fnsL : List Str := (["is_tuple", "is_whole", "is_integer", "is_rising", "is_load", "is_wash", "check_many", "check_case", "sets_of", "fits", "left_of", "words_of", "told", "next_load", "_law_pot", "_law_places", "may_have", "first_wrong", "_law_take", "_law_of"] : List (Str)) ++ (["_law_lots", "_law_fits", "_law_washes", "_law_are_refused", "_law_right"] : List (Str))
def clL : List Str := (["WashError", "BadLots", "BadNumber", "BadWashes"] : List (Str))
def GL : List (Str × Gv) := ([("BadLots", .cls 1), ("BadNumber", .cls 2), ("BadWashes", .cls 3), ("MOST_LOTS", .int (12)), ("MOST_RAN", .int (3)), ("MOST_WASHES", .int (30)), ("NEVER", .str "never"), ("OPEN", .str "open"), ("PAIR", .int (2)), ("SURE", .str "sure"), ("_law_are_refused", .fn 23), ("_law_fits", .fn 21), ("_law_lots", .fn 20), ("_law_of", .fn 19), ("_law_places", .fn 15), ("_law_pot", .fn 14), ("_law_right", .fn 24), ("_law_take", .fn 18), ("_law_washes", .fn 22), ("abs", .free)] : List (Str × Gv)) ++ ([("all", .free), ("any", .free), ("bool", .free), ("check_case", .fn 7), ("check_many", .fn 6), ("enumerate", .free), ("first_wrong", .fn 17), ("fits", .fn 9), ("int", .free), ("is_integer", .fn 2), ("is_load", .fn 4), ("is_rising", .fn 3), ("is_tuple", .fn 0), ("is_wash", .fn 5), ("is_whole", .fn 1), ("isinstance", .free), ("left_of", .fn 10), ("len", .free), ("list", .free), ("max", .free)] : List (Str × Gv)) ++ ([("may_have", .fn 16), ("min", .free), ("next_load", .fn 13), ("range", .free), ("repr", .free), ("sets_of", .fn 8), ("sorted", .free), ("sum", .free), ("told", .fn 12), ("tuple", .free), ("words_of", .fn 11), ("zip", .free)] : List (Str × Gv))
def tfL : List He.Defn := ([("_law_are_refused", none)] : List (He.Defn))
def rzL : List Nat := [0, 1, 2, 3]
theorem k_is_tuple : RecOk b GL rzL 4 1 tfL [] r_is_tuple :=
  ⟨fun _ _ _ _ _ _ us hl => match us, hl with | [_, _, _], _ => rfl, by decide +kernel, by kernel_rfl, rfl, rfl, by decide, by decide, by decide⟩
theorem k_is_whole : RecOk b GL rzL 4 1 tfL [3] r_is_whole :=
  ⟨fun _ _ _ _ _ _ us hl => match us, hl with | [_], _ => rfl, by decide +kernel, by kernel_rfl, rfl, rfl, by decide, by decide, by decide⟩
theorem k_is_integer : RecOk b GL rzL 4 1 tfL [3, 3] r_is_integer :=
  ⟨fun _ _ _ _ _ _ us hl => match us, hl with | [_, _, _], _ => rfl, by decide +kernel, by kernel_rfl, rfl, rfl, by decide, by decide, by decide⟩
theorem k_is_rising : RecOk b GL rzL 4 1 tfL [3, 3, 4] r_is_rising :=
  ⟨fun _ _ _ _ _ _ us hl => match us, hl with | [_], _ => rfl, by decide +kernel, by kernel_rfl, rfl, rfl, by decide, by decide, by decide⟩
theorem k_is_load : RecOk b GL rzL 4 1 tfL [3, 3, 4, 3] r_is_load :=
  ⟨fun _ _ _ _ _ _ us hl => match us, hl with | [_, _], _ => rfl, by decide +kernel, by kernel_rfl, rfl, rfl, by decide, by decide, by decide⟩
theorem k_is_wash : RecOk b GL rzL 4 1 tfL [3, 3, 4, 3, 5] r_is_wash :=
  ⟨fun _ _ _ _ _ _ us hl => match us, hl with | [_, _], _ => rfl, by decide +kernel, by kernel_rfl, rfl, rfl, by decide, by decide, by decide⟩
theorem k_check_many : RecOk b GL rzL 4 1 tfL [3, 3, 4, 3, 5, 6] r_check_many :=
  ⟨fun _ _ _ _ _ _ us hl => match us, hl with | [_], _ => rfl, by decide +kernel, by kernel_rfl, rfl, rfl, by decide, by decide, by decide⟩
theorem k_check_case : RecOk b GL rzL 4 1 tfL [3, 3, 4, 3, 5, 6, 5] r_check_case :=
  ⟨fun _ _ _ _ _ _ us hl => match us, hl with | [_, _, _, _], _ => rfl, by decide +kernel, by kernel_rfl, rfl, rfl, by decide, by decide, by decide⟩
theorem k_sets_of : RecOk b GL rzL 4 1 tfL [3, 3, 4, 3, 5, 6, 5, 7] r_sets_of :=
  ⟨fun _ _ _ _ _ _ us hl => match us, hl with | [_, _, _], _ => rfl, by decide +kernel, by kernel_rfl, rfl, rfl, by decide, by decide, by decide⟩
theorem k_fits : RecOk b GL rzL 4 1 tfL [3, 3, 4, 3, 5, 6, 5, 7, 3] r_fits :=
  ⟨fun _ _ _ _ _ _ us hl => match us, hl with | [_, _], _ => rfl, by decide +kernel, by kernel_rfl, rfl, rfl, by decide, by decide, by decide⟩
theorem k_left_of : RecOk b GL rzL 4 1 tfL [3, 3, 4, 3, 5, 6, 5, 7, 3, 3] r_left_of :=
  ⟨fun _ _ _ _ _ _ us hl => match us, hl with | [_, _, _, _], _ => rfl, by decide +kernel, by kernel_rfl, rfl, rfl, by decide, by decide, by decide⟩
theorem k_words_of : RecOk b GL rzL 4 1 tfL [3, 3, 4, 3, 5, 6, 5, 7, 3, 3, 4] r_words_of :=
  ⟨fun _ _ _ _ _ _ us hl => match us, hl with | [_, _], _ => rfl, by decide +kernel, by kernel_rfl, rfl, rfl, by decide, by decide, by decide⟩
theorem k_told : RecOk b GL rzL 4 1 tfL [3, 3, 4, 3, 5, 6, 5, 7, 3, 3, 4, 3] r_told :=
  ⟨fun _ _ _ _ _ _ us hl => match us, hl with | [_, _, _, _], _ => rfl, by decide +kernel, by kernel_rfl, rfl, rfl, by decide, by decide, by decide⟩
theorem k_next_load : RecOk b GL rzL 4 1 tfL [3, 3, 4, 3, 5, 6, 5, 7, 3, 3, 4, 3, 8] r_next_load :=
  ⟨fun _ _ _ _ _ _ us hl => match us, hl with | [_, _, _, _], _ => rfl, by decide +kernel, by kernel_rfl, rfl, rfl, by decide, by decide, by decide⟩
theorem k_law_pot : RecOk b GL rzL 4 1 tfL [3, 3, 4, 3, 5, 6, 5, 7, 3, 3, 4, 3, 8, 8] r_law_pot :=
  ⟨fun _ _ _ _ _ _ us hl => match us, hl with | [_, _], _ => rfl, by decide +kernel, by kernel_rfl, rfl, rfl, by decide, by decide, by decide⟩
theorem k_law_places : RecOk b GL rzL 4 1 tfL [3, 3, 4, 3, 5, 6, 5, 7, 3, 3, 4, 3, 8, 8, 3] r_law_places :=
  ⟨fun _ _ _ _ _ _ us hl => match us, hl with | [_, _], _ => rfl, by decide +kernel, by kernel_rfl, rfl, rfl, by decide, by decide, by decide⟩
theorem k_may_have : RecOk b GL rzL 4 1 tfL [3, 3, 4, 3, 5, 6, 5, 7, 3, 3, 4, 3, 8, 8, 3, 3] r_may_have :=
  ⟨fun _ _ _ _ _ _ us hl => match us, hl with | [_, _, _, _], _ => rfl, by decide +kernel, by kernel_rfl, rfl, rfl, by decide, by decide, by decide⟩
theorem k_first_wrong : RecOk b GL rzL 4 1 tfL [3, 3, 4, 3, 5, 6, 5, 7, 3, 3, 4, 3, 8, 8, 3, 3, 8] r_first_wrong :=
  ⟨fun _ _ _ _ _ _ us hl => match us, hl with | [_, _, _, _], _ => rfl, by decide +kernel, by kernel_rfl, rfl, rfl, by decide, by decide, by decide⟩
theorem k_law_take : RecOk b GL rzL 4 1 tfL [3, 3, 4, 3, 5, 6, 5, 7, 3, 3, 4, 3, 8, 8, 3, 3, 8, 8] r_law_take :=
  ⟨fun _ _ _ _ _ _ us hl => match us, hl with | [_, _], _ => rfl, by decide +kernel, by kernel_rfl, rfl, rfl, by decide, by decide, by decide⟩
theorem k_law_of : RecOk b GL rzL 4 1 tfL [3, 3, 4, 3, 5, 6, 5, 7, 3, 3, 4, 3, 8, 8, 3, 3, 8, 8, 3] r_law_of :=
  ⟨fun _ _ _ _ _ _ us hl => match us, hl with | [_, _], _ => rfl, by decide +kernel, by kernel_rfl, rfl, rfl, by decide, by decide, by decide⟩
theorem k_law_lots : RecOk b GL rzL 4 1 tfL [3, 3, 4, 3, 5, 6, 5, 7, 3, 3, 4, 3, 8, 8, 3, 3, 8, 8, 3, 4] r_law_lots :=
  ⟨fun _ _ _ _ _ _ us hl => match us, hl with | [_, _, _], _ => rfl, by decide +kernel, by kernel_rfl, rfl, rfl, by decide, by decide, by decide⟩
theorem k_law_fits : RecOk b GL rzL 4 1 tfL [3, 3, 4, 3, 5, 6, 5, 7, 3, 3, 4, 3, 8, 8, 3, 3, 8, 8, 3, 4, 3] r_law_fits :=
  ⟨fun _ _ _ _ _ _ us hl => match us, hl with | [_, _], _ => rfl, by decide +kernel, by kernel_rfl, rfl, rfl, by decide, by decide, by decide⟩
theorem k_law_washes : RecOk b GL rzL 4 1 tfL [3, 3, 4, 3, 5, 6, 5, 7, 3, 3, 4, 3, 8, 8, 3, 3, 8, 8, 3, 4, 3, 3] r_law_washes :=
  ⟨fun _ _ _ _ _ _ us hl => match us, hl with | [_, _, _], _ => rfl, by decide +kernel, by kernel_rfl, rfl, rfl, by decide, by decide, by decide⟩
theorem k_law_are_refused : RecOk b GL rzL 4 1 tfL [3, 3, 4, 3, 5, 6, 5, 7, 3, 3, 4, 3, 8, 8, 3, 3, 8, 8, 3, 4, 3, 3, 4] r_law_are_refused :=
  ⟨fun _ _ _ _ _ _ us hl => match us, hl with | [_, _, _], _ => rfl, by decide +kernel, by kernel_rfl, rfl, rfl, by decide, by decide, by decide⟩
theorem k_law_right : RecOk b GL rzL 4 1 tfL [3, 3, 4, 3, 5, 6, 5, 7, 3, 3, 4, 3, 8, 8, 3, 3, 8, 8, 3, 4, 3, 3, 4, 11] r_law_right :=
  ⟨fun _ _ _ _ _ _ us hl => match us, hl with | [_], _ => rfl, by decide +kernel, by kernel_rfl, rfl, rfl, by decide, by decide, by decide⟩
theorem k_law : RecOk b GL rzL 4 1 tfL [3, 3, 4, 3, 5, 6, 5, 7, 3, 3, 4, 3, 8, 8, 3, 3, 8, 8, 3, 4, 3, 3, 4, 11, 12] r_law :=
  ⟨fun _ _ _ _ _ _ us hl => match us, hl with | [_], _ => rfl, by decide +kernel, by kernel_rfl, rfl, rfl, by decide, by decide, by decide⟩
theorem recs_ok : RecsOk b GL rzL 4 1 tfL [] recs := .cons k_is_tuple (.cons k_is_whole (.cons k_is_integer (.cons k_is_rising (.cons k_is_load (.cons k_is_wash (.cons k_check_many (.cons k_check_case (.cons k_sets_of (.cons k_fits (.cons k_left_of (.cons k_words_of (.cons k_told (.cons k_next_load (.cons k_law_pot (.cons k_law_places (.cons k_may_have (.cons k_first_wrong (.cons k_law_take (.cons k_law_of (.cons k_law_lots (.cons k_law_fits (.cons k_law_washes (.cons k_law_are_refused (.cons k_law_right (.nil)))))))))))))))))))))))))
def hQ : List Pos := posH (defBody (topAt b 35))
def iQ : List Pos := posI (defBody (inClass (topAt b 6) 0))
def LL : LD := ⟨b, GL, rzL, clL, recs, r_law, tfL, fnsL, 35, atP hQ, 6, atP iQ⟩
theorem LLok : LOk LL where
  recs := recs_ok
  law := k_law
  fns := rfl
  lawN := rfl
  lawP := rfl
  g := by decide +kernel
  cl := by decide +kernel
  hb := by kernel_rfl
  hs := by kernel_rfl
  hl := by kernel_rfl
  ha := fun _ _ _ _ _ _ us hl => match us, hl with | [_], _ => rfl
  ib := by kernel_rfl
  is := by kernel_rfl
  ip := fun env => by kernel_rfl
  ia := fun _ _ _ _ _ _ us hl => match us, hl with | [_, _], _ => rfl
  room := ⟨rfl, by decide, by decide⟩
def F_is_tuple : List Fn := ([] : List (Fn))
def f_is_tuple : Fn := runF F_is_tuple d_is_tuple
def F_is_whole : List Fn := ([f_is_tuple] : List (Fn))
def f_is_whole : Fn := runF F_is_whole d_is_whole
def F_is_integer : List Fn := ([f_is_tuple, f_is_whole] : List (Fn))
def f_is_integer : Fn := runF F_is_integer d_is_integer
@[simp] theorem C_is_integer_1 (a : Ls) : callV F_is_integer 1 a = callF f_is_whole a := (rfl)
@[simp] theorem I_is_integer_1 : F_is_integer[1]? = some f_is_whole := (rfl)
def F_is_rising : List Fn := ([f_is_tuple, f_is_whole, f_is_integer] : List (Fn))
def f_is_rising : Fn := runF F_is_rising d_is_rising
def F_is_load : List Fn := ([f_is_tuple, f_is_whole, f_is_integer, f_is_rising] : List (Fn))
def f_is_load : Fn := runF F_is_load d_is_load
@[simp] theorem C_is_load_0 (a : Ls) : callV F_is_load 0 a = callF f_is_tuple a := (rfl)
@[simp] theorem I_is_load_0 : F_is_load[0]? = some f_is_tuple := (rfl)
@[simp] theorem C_is_load_2 (a : Ls) : callV F_is_load 2 a = callF f_is_integer a := (rfl)
@[simp] theorem I_is_load_2 : F_is_load[2]? = some f_is_integer := (rfl)
@[simp] theorem C_is_load_3 (a : Ls) : callV F_is_load 3 a = callF f_is_rising a := (rfl)
@[simp] theorem I_is_load_3 : F_is_load[3]? = some f_is_rising := (rfl)
def F_is_wash : List Fn := ([f_is_tuple, f_is_whole, f_is_integer, f_is_rising, f_is_load] : List (Fn))
def f_is_wash : Fn := runF F_is_wash d_is_wash
@[simp] theorem C_is_wash_0 (a : Ls) : callV F_is_wash 0 a = callF f_is_tuple a := (rfl)
@[simp] theorem I_is_wash_0 : F_is_wash[0]? = some f_is_tuple := (rfl)
@[simp] theorem C_is_wash_4 (a : Ls) : callV F_is_wash 4 a = callF f_is_load a := (rfl)
@[simp] theorem I_is_wash_4 : F_is_wash[4]? = some f_is_load := (rfl)
def F_check_many : List Fn := ([f_is_tuple, f_is_whole, f_is_integer, f_is_rising, f_is_load, f_is_wash] : List (Fn))
def f_check_many : Fn := runF F_check_many d_check_many
@[simp] theorem C_check_many_2 (a : Ls) : callV F_check_many 2 a = callF f_is_integer a := (rfl)
@[simp] theorem I_check_many_2 : F_check_many[2]? = some f_is_integer := (rfl)
def F_check_case : List Fn := ([f_is_tuple, f_is_whole, f_is_integer, f_is_rising, f_is_load, f_is_wash, f_check_many] : List (Fn))
def f_check_case : Fn := runF F_check_case d_check_case
@[simp] theorem C_check_case_0 (a : Ls) : callV F_check_case 0 a = callF f_is_tuple a := (rfl)
@[simp] theorem I_check_case_0 : F_check_case[0]? = some f_is_tuple := (rfl)
@[simp] theorem C_check_case_2 (a : Ls) : callV F_check_case 2 a = callF f_is_integer a := (rfl)
@[simp] theorem I_check_case_2 : F_check_case[2]? = some f_is_integer := (rfl)
@[simp] theorem C_check_case_5 (a : Ls) : callV F_check_case 5 a = callF f_is_wash a := (rfl)
@[simp] theorem I_check_case_5 : F_check_case[5]? = some f_is_wash := (rfl)
@[simp] theorem C_check_case_6 (a : Ls) : callV F_check_case 6 a = callF f_check_many a := (rfl)
@[simp] theorem I_check_case_6 : F_check_case[6]? = some f_check_many := (rfl)
def F_sets_of : List Fn := ([f_is_tuple, f_is_whole, f_is_integer, f_is_rising, f_is_load, f_is_wash, f_check_many, f_check_case] : List (Fn))
def f_sets_of : Fn := runF F_sets_of d_sets_of
def F_fits : List Fn := ([f_is_tuple, f_is_whole, f_is_integer, f_is_rising, f_is_load, f_is_wash, f_check_many, f_check_case, f_sets_of] : List (Fn))
def f_fits : Fn := runF F_fits d_fits
def F_left_of : List Fn := ([f_is_tuple, f_is_whole, f_is_integer, f_is_rising, f_is_load, f_is_wash, f_check_many, f_check_case, f_sets_of, f_fits] : List (Fn))
def f_left_of : Fn := runF F_left_of d_left_of
@[simp] theorem C_left_of_8 (a : Ls) : callV F_left_of 8 a = callF f_sets_of a := (rfl)
@[simp] theorem I_left_of_8 : F_left_of[8]? = some f_sets_of := (rfl)
@[simp] theorem C_left_of_9 (a : Ls) : callV F_left_of 9 a = callF f_fits a := (rfl)
@[simp] theorem I_left_of_9 : F_left_of[9]? = some f_fits := (rfl)
def F_words_of : List Fn := ([f_is_tuple, f_is_whole, f_is_integer, f_is_rising, f_is_load, f_is_wash, f_check_many, f_check_case, f_sets_of, f_fits, f_left_of] : List (Fn))
def f_words_of : Fn := runF F_words_of d_words_of
def F_told : List Fn := ([f_is_tuple, f_is_whole, f_is_integer, f_is_rising, f_is_load, f_is_wash, f_check_many, f_check_case, f_sets_of, f_fits, f_left_of, f_words_of] : List (Fn))
def f_told : Fn := runF F_told d_told
@[simp] theorem C_told_7 (a : Ls) : callV F_told 7 a = callF f_check_case a := (rfl)
@[simp] theorem I_told_7 : F_told[7]? = some f_check_case := (rfl)
@[simp] theorem C_told_10 (a : Ls) : callV F_told 10 a = callF f_left_of a := (rfl)
@[simp] theorem I_told_10 : F_told[10]? = some f_left_of := (rfl)
@[simp] theorem C_told_11 (a : Ls) : callV F_told 11 a = callF f_words_of a := (rfl)
@[simp] theorem I_told_11 : F_told[11]? = some f_words_of := (rfl)
def F_next_load : List Fn := ([f_is_tuple, f_is_whole, f_is_integer, f_is_rising, f_is_load, f_is_wash, f_check_many, f_check_case, f_sets_of, f_fits, f_left_of, f_words_of, f_told] : List (Fn))
def f_next_load : Fn := runF F_next_load d_next_load
@[simp] theorem C_next_load_7 (a : Ls) : callV F_next_load 7 a = callF f_check_case a := (rfl)
@[simp] theorem I_next_load_7 : F_next_load[7]? = some f_check_case := (rfl)
@[simp] theorem C_next_load_8 (a : Ls) : callV F_next_load 8 a = callF f_sets_of a := (rfl)
@[simp] theorem I_next_load_8 : F_next_load[8]? = some f_sets_of := (rfl)
@[simp] theorem C_next_load_10 (a : Ls) : callV F_next_load 10 a = callF f_left_of a := (rfl)
@[simp] theorem I_next_load_10 : F_next_load[10]? = some f_left_of := (rfl)
def F_law_pot : List Fn := ([f_is_tuple, f_is_whole, f_is_integer, f_is_rising, f_is_load, f_is_wash, f_check_many, f_check_case, f_sets_of, f_fits, f_left_of, f_words_of, f_told, f_next_load] : List (Fn))
def f_law_pot : Fn := runF F_law_pot d_law_pot
def F_law_places : List Fn := ([f_is_tuple, f_is_whole, f_is_integer, f_is_rising, f_is_load, f_is_wash, f_check_many, f_check_case, f_sets_of, f_fits, f_left_of, f_words_of, f_told, f_next_load, f_law_pot] : List (Fn))
def f_law_places : Fn := runF F_law_places d_law_places
def F_may_have : List Fn := ([f_is_tuple, f_is_whole, f_is_integer, f_is_rising, f_is_load, f_is_wash, f_check_many, f_check_case, f_sets_of, f_fits, f_left_of, f_words_of, f_told, f_next_load, f_law_pot, f_law_places] : List (Fn))
def f_may_have : Fn := runF F_may_have d_may_have
@[simp] theorem C_may_have_7 (a : Ls) : callV F_may_have 7 a = callF f_check_case a := (rfl)
@[simp] theorem I_may_have_7 : F_may_have[7]? = some f_check_case := (rfl)
@[simp] theorem C_may_have_10 (a : Ls) : callV F_may_have 10 a = callF f_left_of a := (rfl)
@[simp] theorem I_may_have_10 : F_may_have[10]? = some f_left_of := (rfl)
def F_first_wrong : List Fn := ([f_is_tuple, f_is_whole, f_is_integer, f_is_rising, f_is_load, f_is_wash, f_check_many, f_check_case, f_sets_of, f_fits, f_left_of, f_words_of, f_told, f_next_load, f_law_pot, f_law_places, f_may_have] : List (Fn))
def f_first_wrong : Fn := runF F_first_wrong d_first_wrong
@[simp] theorem C_first_wrong_7 (a : Ls) : callV F_first_wrong 7 a = callF f_check_case a := (rfl)
@[simp] theorem I_first_wrong_7 : F_first_wrong[7]? = some f_check_case := (rfl)
@[simp] theorem C_first_wrong_8 (a : Ls) : callV F_first_wrong 8 a = callF f_sets_of a := (rfl)
@[simp] theorem I_first_wrong_8 : F_first_wrong[8]? = some f_sets_of := (rfl)
@[simp] theorem C_first_wrong_9 (a : Ls) : callV F_first_wrong 9 a = callF f_fits a := (rfl)
@[simp] theorem I_first_wrong_9 : F_first_wrong[9]? = some f_fits := (rfl)
def F_law_take : List Fn := ([f_is_tuple, f_is_whole, f_is_integer, f_is_rising, f_is_load, f_is_wash, f_check_many, f_check_case, f_sets_of, f_fits, f_left_of, f_words_of, f_told, f_next_load, f_law_pot, f_law_places, f_may_have, f_first_wrong] : List (Fn))
def f_law_take : Fn := runF F_law_take d_law_take
def F_law_of : List Fn := ([f_is_tuple, f_is_whole, f_is_integer, f_is_rising, f_is_load, f_is_wash, f_check_many, f_check_case, f_sets_of, f_fits, f_left_of, f_words_of, f_told, f_next_load, f_law_pot, f_law_places, f_may_have, f_first_wrong, f_law_take] : List (Fn))
def f_law_of : Fn := runF F_law_of d_law_of
@[simp] theorem C_law_of_18 (a : Ls) : callV F_law_of 18 a = callF f_law_take a := (rfl)
@[simp] theorem I_law_of_18 : F_law_of[18]? = some f_law_take := (rfl)
def F_law_lots : List Fn := ([f_is_tuple, f_is_whole, f_is_integer, f_is_rising, f_is_load, f_is_wash, f_check_many, f_check_case, f_sets_of, f_fits, f_left_of, f_words_of, f_told, f_next_load, f_law_pot, f_law_places, f_may_have, f_first_wrong, f_law_take, f_law_of] : List (Fn))
def f_law_lots : Fn := runF F_law_lots d_law_lots
def F_law_fits : List Fn := ([f_is_tuple, f_is_whole, f_is_integer, f_is_rising, f_is_load, f_is_wash, f_check_many, f_check_case, f_sets_of, f_fits, f_left_of, f_words_of, f_told, f_next_load, f_law_pot, f_law_places, f_may_have, f_first_wrong, f_law_take, f_law_of] : List (Fn)) ++ ([f_law_lots] : List (Fn))
def f_law_fits : Fn := runF F_law_fits d_law_fits
def F_law_washes : List Fn := ([f_is_tuple, f_is_whole, f_is_integer, f_is_rising, f_is_load, f_is_wash, f_check_many, f_check_case, f_sets_of, f_fits, f_left_of, f_words_of, f_told, f_next_load, f_law_pot, f_law_places, f_may_have, f_first_wrong, f_law_take, f_law_of] : List (Fn)) ++ ([f_law_lots, f_law_fits] : List (Fn))
def f_law_washes : Fn := runF F_law_washes d_law_washes
@[simp] theorem C_law_washes_18 (a : Ls) : callV F_law_washes 18 a = callF f_law_take a := (rfl)
@[simp] theorem I_law_washes_18 : F_law_washes[18]? = some f_law_take := (rfl)
def F_law_are_refused : List Fn := ([f_is_tuple, f_is_whole, f_is_integer, f_is_rising, f_is_load, f_is_wash, f_check_many, f_check_case, f_sets_of, f_fits, f_left_of, f_words_of, f_told, f_next_load, f_law_pot, f_law_places, f_may_have, f_first_wrong, f_law_take, f_law_of] : List (Fn)) ++ ([f_law_lots, f_law_fits, f_law_washes] : List (Fn))
def f_law_are_refused : Fn := runF F_law_are_refused d_law_are_refused
@[simp] theorem C_law_are_refused_12 (a : Ls) : callV F_law_are_refused 12 a = callF f_told a := (rfl)
@[simp] theorem I_law_are_refused_12 : F_law_are_refused[12]? = some f_told := (rfl)
@[simp] theorem C_law_are_refused_13 (a : Ls) : callV F_law_are_refused 13 a = callF f_next_load a := (rfl)
@[simp] theorem I_law_are_refused_13 : F_law_are_refused[13]? = some f_next_load := (rfl)
@[simp] theorem C_law_are_refused_16 (a : Ls) : callV F_law_are_refused 16 a = callF f_may_have a := (rfl)
@[simp] theorem I_law_are_refused_16 : F_law_are_refused[16]? = some f_may_have := (rfl)
@[simp] theorem C_law_are_refused_17 (a : Ls) : callV F_law_are_refused 17 a = callF f_first_wrong a := (rfl)
@[simp] theorem I_law_are_refused_17 : F_law_are_refused[17]? = some f_first_wrong := (rfl)
@[simp] theorem C_law_are_refused_19 (a : Ls) : callV F_law_are_refused 19 a = callF f_law_of a := (rfl)
@[simp] theorem I_law_are_refused_19 : F_law_are_refused[19]? = some f_law_of := (rfl)
def F_law_right : List Fn := ([f_is_tuple, f_is_whole, f_is_integer, f_is_rising, f_is_load, f_is_wash, f_check_many, f_check_case, f_sets_of, f_fits, f_left_of, f_words_of, f_told, f_next_load, f_law_pot, f_law_places, f_may_have, f_first_wrong, f_law_take, f_law_of] : List (Fn)) ++ ([f_law_lots, f_law_fits, f_law_washes, f_law_are_refused] : List (Fn))
def f_law_right : Fn := runF F_law_right d_law_right
@[simp] theorem C_law_right_12 (a : Ls) : callV F_law_right 12 a = callF f_told a := (rfl)
@[simp] theorem I_law_right_12 : F_law_right[12]? = some f_told := (rfl)
@[simp] theorem C_law_right_13 (a : Ls) : callV F_law_right 13 a = callF f_next_load a := (rfl)
@[simp] theorem I_law_right_13 : F_law_right[13]? = some f_next_load := (rfl)
@[simp] theorem C_law_right_16 (a : Ls) : callV F_law_right 16 a = callF f_may_have a := (rfl)
@[simp] theorem I_law_right_16 : F_law_right[16]? = some f_may_have := (rfl)
@[simp] theorem C_law_right_17 (a : Ls) : callV F_law_right 17 a = callF f_first_wrong a := (rfl)
@[simp] theorem I_law_right_17 : F_law_right[17]? = some f_first_wrong := (rfl)
@[simp] theorem C_law_right_18 (a : Ls) : callV F_law_right 18 a = callF f_law_take a := (rfl)
@[simp] theorem I_law_right_18 : F_law_right[18]? = some f_law_take := (rfl)
@[simp] theorem C_law_right_19 (a : Ls) : callV F_law_right 19 a = callF f_law_of a := (rfl)
@[simp] theorem I_law_right_19 : F_law_right[19]? = some f_law_of := (rfl)
@[simp] theorem C_law_right_20 (a : Ls) : callV F_law_right 20 a = callF f_law_lots a := (rfl)
@[simp] theorem I_law_right_20 : F_law_right[20]? = some f_law_lots := (rfl)
@[simp] theorem C_law_right_21 (a : Ls) : callV F_law_right 21 a = callF f_law_fits a := (rfl)
@[simp] theorem I_law_right_21 : F_law_right[21]? = some f_law_fits := (rfl)
@[simp] theorem C_law_right_22 (a : Ls) : callV F_law_right 22 a = callF f_law_washes a := (rfl)
@[simp] theorem I_law_right_22 : F_law_right[22]? = some f_law_washes := (rfl)
@[simp] theorem C_law_right_23 (a : Ls) : callV F_law_right 23 a = callF f_law_are_refused a := (rfl)
@[simp] theorem I_law_right_23 : F_law_right[23]? = some f_law_are_refused := (rfl)
def F_law : List Fn := ([f_is_tuple, f_is_whole, f_is_integer, f_is_rising, f_is_load, f_is_wash, f_check_many, f_check_case, f_sets_of, f_fits, f_left_of, f_words_of, f_told, f_next_load, f_law_pot, f_law_places, f_may_have, f_first_wrong, f_law_take, f_law_of] : List (Fn)) ++ ([f_law_lots, f_law_fits, f_law_washes, f_law_are_refused, f_law_right] : List (Fn))
def f_law : Fn := runF F_law d_law
@[simp] theorem C_law_12 (a : Ls) : callV F_law 12 a = callF f_told a := (rfl)
@[simp] theorem I_law_12 : F_law[12]? = some f_told := (rfl)
@[simp] theorem C_law_13 (a : Ls) : callV F_law 13 a = callF f_next_load a := (rfl)
@[simp] theorem I_law_13 : F_law[13]? = some f_next_load := (rfl)
@[simp] theorem C_law_14 (a : Ls) : callV F_law 14 a = callF f_law_pot a := (rfl)
@[simp] theorem I_law_14 : F_law[14]? = some f_law_pot := (rfl)
@[simp] theorem C_law_15 (a : Ls) : callV F_law 15 a = callF f_law_places a := (rfl)
@[simp] theorem I_law_15 : F_law[15]? = some f_law_places := (rfl)
@[simp] theorem C_law_24 (a : Ls) : callV F_law 24 a = callF f_law_right a := (rfl)
@[simp] theorem I_law_24 : F_law[24]? = some f_law_right := (rfl)
theorem fns_eq : fnsOf recs [] = F_law := rfl
def looseL : List Str := (["is_tuple", "is_whole", "is_integer", "is_rising", "WashError", "BadLots", "BadNumber", "BadWashes", "MOST_LOTS", "MOST_WASHES", "MOST_RAN", "PAIR", "SURE", "NEVER", "OPEN", "is_load", "is_wash", "check_many", "check_case", "sets_of"] : List Str) ++ (["fits", "left_of", "may_have", "words_of", "told", "first_wrong", "next_load", "_law_pot", "_law_take", "_law_of", "_law_places", "_law_heard", "_law_lots", "_law_fits", "_law_washes", "_law_are_refused", "_law_right"] : List Str)
abbrev lawIx : Nat := 41
abbrev RR : PySem.W.OpenRow := PySem.W.OpenLaw.row PySem.Challenge.rw_drybytheirhour_k28_whole_which_lot_surel
def ob (s : PySem.W.SharedT) : He.AlX := He.obsX 5 LL.fa LL.fn [] LL.tf LL.ex (HandSHeadRun.getT s)
theorem ob_eq (s : PySem.W.SharedT) : ob s = LL.hk.obs s.abs := He.obsX_eq (HandSHeadRun.getT_eq s)
theorem run (w : World) : HandSHeadRun.RunEq RR (PySem.W.view RR.prog [lawIx]) LL.hk ob 2000 looseL w := by
  intro os
  kernel_rfl
theorem all_of (h : ∀ ns : List Int, ns.length ≤ 63 → (∀ z ∈ ns, Builtin.Int.intBits z ≤ 1048576) → ∃ M, runF (fnsOf recs []) d_law noClo [.scr ns] [] = some (.ok ⟨.py (.bool true), false, M⟩)) : PySem.Challenge.rw_drybytheirhour_k28_whole_which_lot_surel.Holds := by
  w_on; o_law
  refine HandSHeadRun.head_any (r := RR) (q := PySem.W.view RR.prog [lawIx]) (H := LL.hk) (ob := ob) (M := 2000) (loose := looseL) (d := HandSHeadRun.topDef RR.prog lawIx) (kwd := []) ob_eq
    (by kernel_rfl) (fun s => by kernel_rfl) run (by kernel_rfl) (by kernel_rfl) (by kernel_rfl) (by rfl) (by first | assumption | decide +kernel) (by decide +kernel) ⟨rfl, rfl, rfl, rfl, rfl, by decide +kernel⟩ ?hw ?hc
  case hw => w_witness2
  case hc => exact law_go LLok (l := PySem.Challenge.rw_drybytheirhour_k28_whole_which_lot_surel) rfl (by kernel_rfl) (by kernel_rfl) h
end k28

namespace k28
open Ev PySem
def isI (p : PyData) (lo hi : Int) : Bool := match p with
  | .int i => decide (lo ≤ i) && decide (i ≤ hi)
  | _ => false
theorem s_is_tuple (C : Clo) (M : Mem) (xs : List PyData) (lo hi : Int) : f_is_tuple C [.py (.tuple xs), .py (.int lo), .py (.int hi)] M = some (.ok ⟨.py (.bool (decide (lo ≤ xs.length) && decide ((xs.length : Int) ≤ hi))), false, M⟩) := by
  simp [f_is_tuple, runF, d_is_tuple, startN, Ev.isi]
  by_cases h : lo ≤ xs.length <;> simp [h]
theorem s_is_whole (C : Clo) (M : Mem) (p : PyData) : f_is_whole C [.py p] M = some (.ok ⟨.py (.bool (match p with | .int _ => true | _ => false)), false, M⟩) := by
  cases p <;> rfl
theorem s_is_integer (C : Clo) (M : Mem) (p : PyData) (lo hi : Int) : f_is_integer C [.py p, .py (.int lo), .py (.int hi)] M = some (.ok ⟨.py (.bool (isI p lo hi)), false, M⟩) := by
  simp [f_is_integer, runF, d_is_integer, startN, s_is_whole]
  cases p <;> simp [isI]
  rename_i i
  by_cases h : lo ≤ i <;> simp [h]
/-! ### loads, washes -/
abbrev ni (n : Nat) : PyData := .int (n : Int)
def tn (l : List Nat) : PyData := .tuple (l.map ni)
def wsh (w : List Nat × Bool) : PyData := .tuple [tn w.1, .bool w.2]
structure OkL (many : Nat) (l : List Nat) : Prop where
  ne : l ≠ []
  up : l.Pairwise (· < ·)
  lt : ∀ x ∈ l, x < many
theorem pw_len : ∀ {l : List Nat} {a b : Nat}, l.Pairwise (· < ·) → (∀ x ∈ l, a ≤ x ∧ x < b) → l.length ≤ b - a
  | [], _, _, _, _ => Nat.zero_le _
  | x :: l, a, b, h, hb => by
    rw [List.pairwise_cons] at h
    have h1 := hb x List.mem_cons_self
    have := pw_len (a := x + 1) (b := b) h.2 fun y hy => ⟨h.1 y hy, (hb y (List.mem_cons_of_mem _ hy)).2⟩
    rw [List.length_cons]
    omega
theorem OkL.len {many : Nat} {l : List Nat} (h : OkL many l) : 1 ≤ l.length ∧ l.length ≤ many := by
  have := pw_len (a := 0) (b := many) h.up fun x hx => ⟨Nat.zero_le _, h.lt x hx⟩
  have h2 : l.length ≠ 0 := fun e => h.ne (List.length_eq_zero_iff.mp e)
  omega
def pe (p : Nat × Nat) : D := D.py (.tuple [ni p.1, ni p.2])
theorem zip_emb : ∀ (l m : List Nat), zipL (l.map (D.py ∘ ni)) (m.map (D.py ∘ ni)) = (l.zip m).map pe
  | [], _ => rfl
  | _ :: _, [] => rfl
  | a :: l, b :: m => by
    show mkT [.py (ni a), .py (ni b)] :: zipL _ _ = _
    rw [zip_emb l m]
    rfl
theorem rising_zip : ∀ {l : List Nat}, l.Pairwise (· < ·) → ∀ p ∈ l.zip l.tail, p.1 < p.2
  | [], _, p, hp => by cases hp
  | [a], _, p, hp => by cases hp
  | a :: b :: l, h, p, hp => by
    rw [List.pairwise_cons] at h
    have hp2 : p ∈ (a, b) :: (b :: l).zip l := hp
    rcases List.mem_cons.mp hp2 with rfl | h2
    · exact h.1 b List.mem_cons_self
    · exact rising_zip h.2 p h2
theorem s_is_rising (C : Clo) (M : Mem) {l : List Nat} (h : l.Pairwise (· < ·)) (hl : l.length ≤ 100) : f_is_rising C [.py (tn l)] M = some (.ok ⟨.py (.bool true), false, M⟩) := by
  have hz : (100 : Nat) ≤ sizeLine := by decide
  have e := zip_emb l l.tail
  rw [List.map_tail] at e
  have hc : evE F_is_rising (fun _ => C) c_is_rising_1 [some (.py (tn l), false), none, none] M = some (.ok ⟨.py (.list ((l.zip l.tail).map fun p => .bool (decide (p.1 < p.2)))), .fr, [some (.py (tn l), false), none, none], M⟩) :=
    comp_map pe (fun p => .bool (decide (p.1 < p.2))) (fun p => [some (.py (tn l), false), some (.py (ni p.1), false), some (.py (ni p.2), false)]) (l.zip l.tail) (sm := .sh) (by simp [tn, e]; rfl) (by simp [e]) (by rw [List.length_zip]; omega) rfl (fun _ _ => rfl) (fun _ _ => ⟨.sh, by simp [ni], rfl⟩) (fun _ _ => rfl) rfl
  have ha := allb (fun p : Nat × Nat => decide (p.1 < p.2)) (l.zip l.tail)
  rw [List.all_eq_true.mpr fun p hp => decide_eq_true (rising_zip h p hp)] at ha
  simp [f_is_rising, runF, d_is_rising, startN, hc, ha]
theorem s_is_load (C : Clo) (M : Mem) {many : Nat} {l : List Nat} (h : OkL many l) (hm : many ≤ 12) : f_is_load C [.py (.int (many : Int)), .py (tn l)] M = some (.ok ⟨.py (.bool true), false, M⟩) := by
  have hz : (100 : Nat) ≤ sizeLine := by decide
  obtain ⟨h1, h2⟩ := h.len
  have hc : evE F_is_load (fun _ => C) c_is_load_1 [some (.py (.int (many : Int)), false), some (.py (tn l), false), none] M = some (.ok ⟨.py (.list (l.map fun x => .bool (isI (ni x) 0 (many - 1)))), .fr, [some (.py (.int (many : Int)), false), some (.py (tn l), false), none], M⟩) :=
    comp_map (.py ∘ ni) (fun x => .bool (isI (ni x) 0 (many - 1))) (fun x => [some (.py (.int (many : Int)), false), some (.py (tn l), false), some (.py (ni x), false)]) l (sm := .sh) (by simp [tn]; rfl) (by simp) (by omega) rfl (fun _ _ => rfl) (fun _ _ => ⟨.sh, by simp [s_is_integer], rfl⟩) (fun _ _ => rfl) rfl
  have ha := allb (fun x : Nat => isI (ni x) 0 ((many : Int) - 1)) l
  rw [List.all_eq_true.mpr fun x hx => by
    have := h.lt x hx
    simp [isI, ni]
    omega] at ha
  have e1 : (decide ((1 : Int) ≤ ((l.map ni).length : Nat)) && decide (((l.map ni).length : Nat) ≤ (many : Int))) = true := by
    rw [List.length_map]
    simp
    omega
  have ht : f_is_tuple noClo [.py (tn l), .py (.int 1), .py (.int (many : Int))] M = some (.ok ⟨.py (.bool true), false, M⟩) := by
    unfold tn
    rw [s_is_tuple, e1]
  simp [f_is_load, runF, d_is_load, startN, hc, ha, ht, s_is_rising noClo M h.up (by omega)]
structure OkW (many : Nat) (w : List Nat × Bool) : Prop where
  l : OkL many w.1
theorem s_is_wash (C : Clo) (M : Mem) {many : Nat} {w : List Nat × Bool} (h : OkL many w.1) (hm : many ≤ 12) : f_is_wash C [.py (.int (many : Int)), .py (wsh w)] M = some (.ok ⟨.py (.bool true), false, M⟩) := by
  have e0 : ixD M (.py (wsh w)) (.py (.int 0)) = some (.py (tn w.1)) := rfl
  have e1 : ixD M (.py (wsh w)) (.py (.int 1)) = some (.py (.bool w.2)) := rfl
  have ht : f_is_tuple noClo [.py (wsh w), .py (.int 2), .py (.int 2)] M = some (.ok ⟨.py (.bool true), false, M⟩) := rfl
  simp [f_is_wash, runF, d_is_wash, startN, ht, e0, e1, s_is_load noClo M h hm, Ev.isi]
def wss (ws : List (List Nat × Bool)) : PyData := .tuple (ws.map wsh)
theorem s_check_many (C : Clo) (M : Mem) {many : Nat} (h1 : 1 ≤ many) (h2 : many ≤ 12) : f_check_many C [.py (.int (many : Int))] M = some (.ok ⟨.py .none, false, M⟩) := by
  have : isI (.int (many : Int)) 1 12 = true := by simp [isI]; omega
  simp [f_check_many, runF, d_check_many, startN, s_is_integer, this]
theorem c_check (C : Clo) (M : Mem) {many : Nat} {ws : List (List Nat × Bool)} (h : ∀ w ∈ ws, OkL many w.1) (hm : many ≤ 12) (hl : ws.length ≤ 40) (x y : D) :
    evE F_check_case (fun _ => C) c_check_case_1 [some (.py (.int (many : Int)), false), some (.py (wss ws), false), some (x, false), some (y, false), none] M = some (.ok ⟨.py (.list (ws.map fun _ => .bool true)), .fr, [some (.py (.int (many : Int)), false), some (.py (wss ws), false), some (x, false), some (y, false), none], M⟩) := by
  have hz : (100 : Nat) ≤ sizeLine := by decide
  exact comp_map (.py ∘ wsh) (fun _ => .bool true) (fun w => [some (.py (.int (many : Int)), false), some (.py (wss ws), false), some (x, false), some (y, false), some (.py (wsh w), false)]) ws (sm := .sh) (by simp [wss]; rfl) (by simp) (by omega) rfl (fun _ _ => rfl) (fun w hw => ⟨.sh, by simp [s_is_wash noClo M (h w hw) hm], rfl⟩) (fun _ _ => rfl) rfl
/-- the check up to the numbers -/
theorem s_check (C : Clo) (M : Mem) {many : Nat} {ws : List (List Nat × Bool)} (h : ∀ w ∈ ws, OkL many w.1) (h1 : 1 ≤ many) (hm : many ≤ 12) (hl : ws.length ≤ 30) (x y : PyData) :
    f_check_case C [.py (.int (many : Int)), .py (wss ws), .py x, .py y] M = if isI x 0 (min many 3 : Nat) = true then (match x with
      | .int i => if isI y i (min many 3 : Nat) = true then some (.ok ⟨.py .none, false, M⟩) else some (.er 2 y M)
      | _ => none) else some (.er 2 x M) := by
  have ha := allb (fun _ : List Nat × Bool => true) ws
  rw [List.all_eq_true.mpr fun _ _ => rfl] at ha
  have ht : f_is_tuple noClo [.py (wss ws), .py (.int 0), .py (.int 30)] M = some (.ok ⟨.py (.bool true), false, M⟩) := by
    unfold wss
    rw [s_is_tuple, List.length_map, decide_eq_true (by omega), decide_eq_true (by omega)] <;> rfl
  have hmin : (if (3 : Int) < (many : Int) then (3 : Int) else many) = ((min many 3 : Nat) : Int) := by
    split <;> omega
  have hb : bi .min [.py (.int (many : Int)), .py (.int 3)] = some (.py (.int ((min many 3 : Nat) : Int)), false) := by rw [min_i, hmin]
  simp [-min_i, f_check_case, runF, d_check_case, startN, s_check_many noClo M h1 hm, ht, c_check C M h hm (by omega), ha, hb, s_is_integer]
  cases hx : isI x 0 (min many 3 : Nat) with
  | false => simp
  | true =>
    cases x with
    | int i =>
      simp [-min_i, hb, s_is_integer]
      cases hy : isI y i (min many 3 : Nat) <;> simp
    | _ => cases hx
end k28

namespace k28
open Ev PySem
/-! ### the lots -/
abbrev Tr := Nat × Nat × Nat
def args (p : Tr) : List D := [.py (ni p.1), .py (ni p.2.1), .py (ni p.2.2)]
/-- the lots of n, as they come -/
def F : Nat → List (List Nat)
  | 0 => [[]]
  | n + 1 => F n ++ (F n).map (· ++ [n])
theorem F_len : ∀ n, (F n).length = 2 ^ n
  | 0 => rfl
  | n + 1 => by
    unfold F
    rw [List.length_append, List.length_map, F_len n, Nat.pow_succ]
    omega
theorem F_mem : ∀ {n : Nat} {l : List Nat}, l ∈ F n → l.Pairwise (· < ·) ∧ (∀ x ∈ l, x < n) ∧ l.length ≤ n
  | 0, l, h => by
    cases List.mem_singleton.mp h
    exact ⟨.nil, (fun _ h => nomatch h), Nat.le_refl _⟩
  | n + 1, l, h => by
    unfold F at h
    rcases List.mem_append.mp h with h | h
    · obtain ⟨a, b, c⟩ := F_mem h
      exact ⟨a, fun x hx => Nat.lt_succ_of_lt (b x hx), by omega⟩
    · obtain ⟨m, hm, rfl⟩ := List.mem_map.mp h
      obtain ⟨a, b, c⟩ := F_mem hm
      refine ⟨List.pairwise_append.mpr ⟨a, List.pairwise_singleton _ _, fun x hx y hy => ?_⟩, fun x hx => ?_, by simp; omega⟩
      · rw [List.mem_singleton.mp hy]
        exact b x hx
      · rcases List.mem_append.mp hx with hx | hx
        · exact Nat.lt_succ_of_lt (b x hx)
        · rw [List.mem_singleton.mp hx]
          omega
theorem F_has : ∀ {n k : Nat}, k ≤ n → List.range k ∈ F n
  | 0, k, h => by
    have : k = 0 := by omega
    subst this
    exact List.mem_singleton.mpr rfl
  | n + 1, k, h => by
    unfold F
    by_cases e : k = n + 1
    · subst e
      rw [List.range_succ]
      exact List.mem_append.mpr (.inr (List.mem_map.mpr ⟨_, F_has (Nat.le_refl n), rfl⟩))
    · exact List.mem_append.mpr (.inl (F_has (by omega)))
theorem tn_app (l m : List Nat) : PyData.tuple (l.map ni ++ m.map ni) = tn (l ++ m) := by
  unfold tn
  rw [List.map_append]
/-! sorted -/
theorem alike_ni : ∀ (l m : List Nat), PySem.W.alikeAll (l.map ni) (m.map ni) = true
  | [], _ => by
    unfold W.alikeAll
    rfl
  | _ :: _, [] => by
    unfold W.alikeAll
    rfl
  | a :: l, b :: m => by
    rw [List.map_cons, List.map_cons]
    unfold W.alikeAll
    rw [alike_ni l m, Bool.and_true]
    unfold W.alike
    rfl
theorem alike_tn (l m : List Nat) : PySem.W.alike (tn l) (tn m) = true := by
  unfold tn W.alike
  exact alike_ni l m
theorem depth_ni : ∀ l : List Nat, PyData.depthAll (l.map ni) = 0
  | [] => rfl
  | a :: l => by
    rw [List.map_cons]
    show max 0 (PyData.depthAll (l.map ni)) = 0
    rw [depth_ni l]
    rfl
theorem depth_tn (l : List Nat) : (tn l).depth = 1 := by
  show PyData.depthAll (l.map ni) + 1 = 1
  rw [depth_ni]
theorem okL_tn : ∀ L : List (List Nat), PyData.depthAll (L.map tn) ≤ 1
  | [] => Nat.zero_le _
  | l :: L => by
    rw [List.map_cons]
    show max (tn l).depth (PyData.depthAll (L.map tn)) ≤ 1
    have := okL_tn L
    rw [depth_tn]
    omega
theorem sorted_tn (L : List (List Nat)) : bi .sorted [.py (.list (L.map tn))] = some (.py (.list (sortD (L.map tn))), true) := by
  have h1 : alikeL (L.map tn) = true := by
    unfold alikeL
    rw [List.all_eq_true]
    intro a ha
    obtain ⟨l, _, rfl⟩ := List.mem_map.mp ha
    rw [Bool.and_eq_true, List.all_eq_true]
    refine ⟨rfl, fun b hb => ?_⟩
    obtain ⟨m, _, rfl⟩ := List.mem_map.mp hb
    exact alike_tn l m
  have h2 : ((L.map tn).all isTupP || (L.map tn).all noTupP) = true := by
    rw [List.all_eq_true.mpr fun a ha => by
      obtain ⟨l, _, rfl⟩ := List.mem_map.mp ha
      rfl]
    rfl
  have h3 : okL (L.map tn) = true := by
    have := okL_tn L
    exact decide_eq_true (by omega)
  show (if alikeL (L.map tn) && ((L.map tn).all isTupP || (L.map tn).all noTupP) && okL (L.map tn) then _ else _) = _
  rw [h1, h2, h3]
  rfl
def unI : PyData → Nat
  | .int i => i.toNat
  | _ => 0
def unT : PyData → List Nat
  | .tuple ps => ps.map unI
  | _ => []
theorem un_tn (l : List Nat) : unT (tn l) = l := by
  show (l.map ni).map unI = l
  rw [List.map_map]
  have : (unI ∘ ni) = id := funext fun n => by simp [unI, ni]
  rw [this, List.map_id]
/-- the lots of so many, in their sequence -/
def TT (p : Tr) : List (List Nat) := (sortD (((F p.1).filter fun s => decide (p.2.1 ≤ s.length) && decide (s.length ≤ p.2.2)).map tn)).map unT
theorem TT_mem {p : Tr} {l : List Nat} : l ∈ TT p ↔ l ∈ F p.1 ∧ p.2.1 ≤ l.length ∧ l.length ≤ p.2.2 := by
  unfold TT sortD
  rw [List.mem_map]
  constructor
  · rintro ⟨a, ha, rfl⟩
    rw [List.mem_mergeSort] at ha
    obtain ⟨m, hm, rfl⟩ := List.mem_map.mp ha
    rw [un_tn]
    obtain ⟨h1, h2⟩ := List.mem_filter.mp hm
    simp only [Bool.and_eq_true, decide_eq_true_eq] at h2
    exact ⟨h1, h2⟩
  · intro ⟨h1, h2⟩
    refine ⟨tn l, ?_, un_tn l⟩
    rw [List.mem_mergeSort]
    exact List.mem_map.mpr ⟨l, List.mem_filter.mpr ⟨h1, by simpa using h2⟩, rfl⟩
theorem TT_eq (p : Tr) : sortD (((F p.1).filter fun s => decide (p.2.1 ≤ s.length) && decide (s.length ≤ p.2.2)).map tn) = (TT p).map tn := by
  unfold TT
  rw [List.map_map]
  refine (List.map_congr_left (g := id) fun a ha => ?_).trans (List.map_id _) |>.symm
  unfold sortD at ha
  rw [List.mem_mergeSort] at ha
  obtain ⟨m, _, rfl⟩ := List.mem_map.mp ha
  show tn (unT (tn m)) = _
  rw [un_tn]
  rfl
theorem TT_len {p : Tr} (h : p.1 ≤ 6) : (TT p).length ≤ 64 := by
  unfold TT sortD
  rw [List.length_map, List.length_mergeSort, List.length_map]
  refine Nat.le_trans (List.length_filter_le _ _) ?_
  rw [F_len]
  exact Nat.pow_le_pow_right (n := 2) (by decide) h
theorem TT_ne {p : Tr} (h1 : p.2.1 ≤ p.1) (h2 : p.2.1 ≤ p.2.2) : TT p ≠ [] := fun e => by
  have : List.range p.2.1 ∈ TT p := TT_mem.mpr ⟨F_has h1, by simp, by simpa using h2⟩
  rw [e] at this
  cases this
/-! the defs -/
theorem c_lots1 (C : Clo) (M : Mem) (k : Nat) (L : List (List Nat)) (x y z : D) (hL : L.length ≤ 100) (hl : ∀ l ∈ L, l.length ≤ 100) : evE F_law_lots (fun _ => C) c_law_lots_1 [some (x, false), some (y, false), some (z, false), some (.py (.list (L.map tn)), true), some (.py (ni k), false), none] M = some (.ok ⟨.py (.list (L.map fun l => tn (l ++ [k]))), .fr, [some (x, false), some (y, false), some (z, false), some (.py (.list (L.map tn)), true), some (.py (ni k), false), none], M⟩) := by
  have hz : (200 : Nat) ≤ sizeLine := by decide
  exact comp_map (.py ∘ tn) (fun l => tn (l ++ [k])) (fun l => [some (x, false), some (y, false), some (z, false), some (.py (.list (L.map tn)), true), some (.py (ni k), false), some (.py (tn l), false)]) L (sd := .py (.list (L.map tn))) (sm := .bo 3) (by simp) (by simp) (by omega) rfl (fun _ _ => rfl) (fun l h => ⟨.sh, by
    have := hl l h
    have e : tn (l ++ [k]) = .tuple (l.map ni ++ [ni k]) := by rw [← tn_app]; rfl
    rw [e]
    simp [tn, show (1 : Nat) ≤ sizeLine from by decide, show l.length + 1 ≤ sizeLine from by omega], rfl⟩) (fun _ _ => rfl) rfl
theorem s_lots1 (C : Clo) (M : Mem) {many least most : Nat} (h : many ≤ 6) : ∃ k : Option D, forE F_law_lots (fun _ => C) (.nm 4) b_law_lots_1 ((List.range many).map fun (i : Nat) => D.py (.int (i : Int))) [some (.py (ni many), false), some (.py (ni least), false), some (.py (ni most), false), some (.py (.list [.tuple []]), true), none, none] M = some (.ok (.nx [some (.py (ni many), false), some (.py (ni least), false), some (.py (ni most), false), some (.py (.list ((F many).map tn)), true), k.map fun d => (d, false), none] M)) := by
  have hz : (200 : Nat) ≤ sizeLine := by decide
  obtain ⟨ρ', M', e1, k, hk, rfl, hI⟩ := forE_inv (Fs := F_law_lots) (C := fun _ => C) (t := .nm 4) (body := b_law_lots_1) (D.py ∘ ni)
    (fun done ρ M' => ∃ k : Option D, (done = List.range done.length) ∧ M = M' ∧ ρ = [some (.py (ni many), false), some (.py (ni least), false), some (.py (ni most), false), some (.py (.list ((F done.length).map tn)), true), k.map fun d => (d, false), none])
    (List.range many) [some (.py (ni many), false), some (.py (ni least), false), some (.py (ni most), false), some (.py (.list [.tuple []]), true), none, none] M ⟨none, rfl, rfl, rfl⟩
    (fun done x rest ρ M1 e ⟨k, hd, hM, hI⟩ => by
      subst hM hI
      have hlen : done.length < many := by
        have := congrArg List.length e
        simp at this
        omega
      have hx : x = done.length := by
        have h1 : (List.range many)[done.length]? = some done.length := by simp [hlen]
        rw [e] at h1
        simp at h1
        exact h1
      subst hx
      have hF : (F done.length).length ≤ 64 := by
        rw [F_len]
        exact Nat.pow_le_pow_right (n := 2) (j := 6) (by decide) (by omega)
      refine ⟨_, rfl, _, _, ?_, some (.py (ni done.length)), ?_, rfl, rfl⟩
      · simp only [b_law_lots_1, ss_cons, t_ext, List.set_cons_succ, List.set_cons_zero]
        have hc := c_lots1 C M done.length (F done.length) (.py (ni many)) (.py (ni least)) (.py (ni most)) (by omega) (fun l hl => by have := (F_mem hl).2.2; omega)
        cases k <;> simp [hc, show (F done.length).length + (F done.length).length ≤ sizeLine from by omega, F, Function.comp_def]
      · rw [List.length_append, List.length_singleton, List.range_succ, ← hd])
  have hl : (List.range many).length = many := List.length_range
  rw [hl] at hI
  subst hI
  exact ⟨k, e1⟩
theorem s_lots (C : Clo) (M : Mem) {p : Tr} (h : p.1 ≤ 6) : f_law_lots C (args p) M = some (.ok ⟨.py (.list ((TT p).map tn)), true, M⟩) := by
  obtain ⟨many, least, most⟩ := p
  have h : many ≤ 6 := h
  have hz : (200 : Nat) ≤ sizeLine := by decide
  obtain ⟨k, e1⟩ := s_lots1 C M (least := least) (most := most) h
  have hF : (F many).length ≤ 64 := by
    rw [F_len]
    exact Nat.pow_le_pow_right (n := 2) (j := 6) (by decide) (by omega)
  have hf : evE F_law_lots (fun _ => C) c_law_lots_2 [some (.py (ni many), false), some (.py (ni least), false), some (.py (ni most), false), some (.py (.list ((F many).map tn)), true), k.map fun d => (d, false), none] M = some (.ok ⟨.py (.list (((F many).filter fun s => decide (least ≤ s.length) && decide (s.length ≤ most)).map tn)), .fr, [some (.py (ni many), false), some (.py (ni least), false), some (.py (ni most), false), some (.py (.list ((F many).map tn)), true), k.map fun d => (d, false), none], M⟩) :=
    comp_filter (.py ∘ tn) (fun s => decide (least ≤ s.length) && decide (s.length ≤ most)) tn (fun l => [some (.py (ni many), false), some (.py (ni least), false), some (.py (ni most), false), some (.py (.list ((F many).map tn)), true), k.map fun d => (d, false), some (.py (tn l), false)]) (F many) (sd := .py (.list ((F many).map tn))) (sm := .bo 3) (by simp) (by simp) (by omega) rfl (fun _ _ => rfl)
      (fun l _ => ⟨.py (.bool (decide (least ≤ l.length) && decide (l.length ≤ most))), by
        by_cases hh : least ≤ l.length <;> simp [tn, hh], rfl⟩) (fun l _ _ => ⟨.sh, by simp, rfl⟩) (fun _ _ => rfl) rfl
  have hr := rngL_up (n := many) (by omega)
  have hs := sorted_tn ((F many).filter fun s => decide (least ≤ s.length) && decide (s.length ≤ most))
  have ht := TT_eq (many, least, most)
  simp only at ht
  rw [ht] at hs
  simp [f_law_lots, runF, d_law_lots, startN, args, l_law_lots_1, hr, e1, hf, hs, show (0 : Nat) ≤ sizeLine from by omega, show (1 : Nat) ≤ sizeLine from by omega]
end k28

namespace k28
open Ev PySem
def G (most n : Nat) : List (List Nat) := (F n).filter fun s => decide (s.length ≤ most)
theorem G_succ (most n : Nat) : G most (n + 1) = G most n ++ ((G most n).filter fun s => decide (s.length < most)).map (· ++ [n]) := by
  unfold G
  show (F n ++ (F n).map (· ++ [n])).filter _ = _
  rw [List.filter_append, List.filter_map, List.filter_filter]
  congr 2
  refine List.filter_congr fun s _ => ?_
  simp
  by_cases h : s.length < most
  · simp [h]; omega
  · simp [h]; omega
theorem G_len {most n : Nat} (h : n ≤ 6) : (G most n).length ≤ 64 := by
  refine Nat.le_trans (List.length_filter_le _ _) ?_
  rw [F_len]
  exact Nat.pow_le_pow_right (n := 2) (j := 6) (by decide) h
theorem c_sets1 (C : Clo) (M : Mem) (k most : Nat) (L : List (List Nat)) (x y : D) (hL : L.length ≤ 100) (hl : ∀ l ∈ L, l.length ≤ 100) : evE F_sets_of (fun _ => C) c_sets_of_1 [some (x, false), some (y, false), some (.py (ni most), false), some (.py (.list (L.map tn)), true), some (.py (ni k), false), none] M = some (.ok ⟨.py (.list ((L.filter fun s => decide (s.length < most)).map fun l => tn (l ++ [k]))), .fr, [some (x, false), some (y, false), some (.py (ni most), false), some (.py (.list (L.map tn)), true), some (.py (ni k), false), none], M⟩) := by
  have hz : (200 : Nat) ≤ sizeLine := by decide
  exact comp_filter (.py ∘ tn) (fun s => decide (s.length < most)) (fun l => tn (l ++ [k])) (fun l => [some (x, false), some (y, false), some (.py (ni most), false), some (.py (.list (L.map tn)), true), some (.py (ni k), false), some (.py (tn l), false)]) L (sd := .py (.list (L.map tn))) (sm := .fr) (by simp) (by simp) (by omega) rfl (fun _ _ => rfl) (fun l _ => ⟨.py (.bool (decide (l.length < most))), by simp [tn], rfl⟩) (fun l h _ => ⟨.sh, by
    have := hl l h
    have e : tn (l ++ [k]) = .tuple (l.map ni ++ [ni k]) := by rw [← tn_app]; rfl
    have e2 : mkT ((l.map (D.py ∘ ni)) ++ [D.py (ni k)]) = .py (.tuple (l.map ni ++ [ni k])) := by
      refine mkT_py ?_
      rw [← all_map, List.map_append, List.map_map]
      rfl
    rw [e]
    simp [tn, show l.length + 1 ≤ sizeLine from by omega, Function.comp_def] at e2 ⊢
    simp [e2], rfl⟩) (fun _ _ => rfl) rfl
theorem s_sets1 (C : Clo) (M : Mem) {many least most : Nat} (h : many ≤ 6) : ∃ k : Option D, forE F_sets_of (fun _ => C) (.nm 4) b_sets_of_1 ((List.range many).map fun (i : Nat) => D.py (.int (i : Int))) [some (.py (ni many), false), some (.py (ni least), false), some (.py (ni most), false), some (.py (.list [.tuple []]), true), none, none] M = some (.ok (.nx [some (.py (ni many), false), some (.py (ni least), false), some (.py (ni most), false), some (.py (.list ((G most many).map tn)), true), k.map fun d => (d, false), none] M)) := by
  have hz : (200 : Nat) ≤ sizeLine := by decide
  obtain ⟨ρ', M', e1, k, hk, rfl, hI⟩ := forE_inv (Fs := F_sets_of) (C := fun _ => C) (t := .nm 4) (body := b_sets_of_1) (D.py ∘ ni)
    (fun done ρ M' => ∃ k : Option D, (done = List.range done.length) ∧ M = M' ∧ ρ = [some (.py (ni many), false), some (.py (ni least), false), some (.py (ni most), false), some (.py (.list ((G most done.length).map tn)), true), k.map fun d => (d, false), none])
    (List.range many) [some (.py (ni many), false), some (.py (ni least), false), some (.py (ni most), false), some (.py (.list [.tuple []]), true), none, none] M ⟨none, rfl, rfl, rfl⟩
    (fun done x rest ρ M1 e ⟨k, hd, hM, hI⟩ => by
      subst hM hI
      have hlen : done.length < many := by
        have := congrArg List.length e
        simp at this
        omega
      have hx : x = done.length := by
        have h1 : (List.range many)[done.length]? = some done.length := by simp [hlen]
        rw [e] at h1
        simp at h1
        exact h1
      subst hx
      have hF : (G most done.length).length ≤ 64 := G_len (by omega)
      have hF2 := List.length_filter_le (fun s : List Nat => decide (s.length < most)) (G most done.length)
      refine ⟨_, rfl, _, _, ?_, some (.py (ni done.length)), ?_, rfl, rfl⟩
      · simp only [b_sets_of_1, ss_cons, t_ext, List.set_cons_succ, List.set_cons_zero]
        have hc := c_sets1 C M done.length most (G most done.length) (.py (ni many)) (.py (ni least)) (by omega) (fun l hl => by have := (F_mem (List.mem_filter.mp hl).1).2.2; omega)
        cases k <;> simp [hc, show (G most done.length).length + ((G most done.length).filter fun s => decide (s.length < most)).length ≤ sizeLine from by omega, G_succ, Function.comp_def]
      · rw [List.length_append, List.length_singleton, List.range_succ, ← hd])
  have hl : (List.range many).length = many := List.length_range
  rw [hl] at hI
  subst hI
  exact ⟨k, e1⟩
theorem s_sets (C : Clo) (M : Mem) {p : Tr} (h : p.1 ≤ 6) : f_sets_of C (args p) M = some (.ok ⟨.py (.list ((TT p).map tn)), true, M⟩) := by
  obtain ⟨many, least, most⟩ := p
  have h : many ≤ 6 := h
  have hz : (200 : Nat) ≤ sizeLine := by decide
  obtain ⟨k, e1⟩ := s_sets1 C M (least := least) (most := most) h
  have hF : (G most many).length ≤ 64 := G_len h
  have hf : evE F_sets_of (fun _ => C) c_sets_of_2 [some (.py (ni many), false), some (.py (ni least), false), some (.py (ni most), false), some (.py (.list ((G most many).map tn)), true), k.map fun d => (d, false), none] M = some (.ok ⟨.py (.list (((G most many).filter fun s => decide (least ≤ s.length)).map tn)), .fr, [some (.py (ni many), false), some (.py (ni least), false), some (.py (ni most), false), some (.py (.list ((G most many).map tn)), true), k.map fun d => (d, false), none], M⟩) :=
    comp_filter (.py ∘ tn) (fun s => decide (least ≤ s.length)) tn (fun l => [some (.py (ni many), false), some (.py (ni least), false), some (.py (ni most), false), some (.py (.list ((G most many).map tn)), true), k.map fun d => (d, false), some (.py (tn l), false)]) (G most many) (sd := .py (.list ((G most many).map tn))) (sm := .bo 3) (by simp) (by simp) (by omega) rfl (fun _ _ => rfl)
      (fun l _ => ⟨.py (.bool (decide (least ≤ l.length))), by simp [tn], rfl⟩) (fun l _ _ => ⟨.sh, by simp, rfl⟩) (fun _ _ => rfl) rfl
  have hr := rngL_up (n := many) (by omega)
  have e : (G most many).filter (fun s => decide (least ≤ s.length)) = (F many).filter fun s => decide (least ≤ s.length) && decide (s.length ≤ most) := by
    unfold G
    rw [List.filter_filter]
  have hs := sorted_tn ((F many).filter fun s => decide (least ≤ s.length) && decide (s.length ≤ most))
  have ht := TT_eq (many, least, most)
  simp only at ht
  rw [ht] at hs
  rw [e] at hf
  simp [f_sets_of, runF, d_sets_of, startN, args, l_sets_of_1, hr, e1, hf, hs, show (0 : Nat) ≤ sizeLine from by omega, show (1 : Nat) ≤ sizeLine from by omega]
/-! ### what fits -/
theorem shaped_ni (n : Nat) : SeqAt.shaped (ni n) = true := rfl
theorem lay_ni : ∀ l : List Nat, PyData.canLayAll0 (l.map ni) = true
  | [] => rfl
  | a :: l => by
    rw [List.map_cons]
    show (true && PyData.canLayAll0 (l.map ni)) = true
    rw [lay_ni l]
    rfl
theorem shaped_tn (l : List Nat) : SeqAt.shaped (tn l) = true := by
  show ((tn l).canLay0 && decide ((tn l).depth ≤ 64)) = true
  rw [depth_tn]
  show (PyData.canLayAll0 (l.map ni) && _) = true
  rw [lay_ni]
  rfl
/-- x is in s -/
def has (s : List Nat) (x : Nat) : Bool := s.contains x
theorem in_tn (x : Nat) (l : List Nat) : cm .inn (.py (ni x)) (.py (tn l)) = some (has l x) := by
  have e : inT (.py (ni x)) (.py (tn l)) = some (has l x) := by
    show (if SeqAt.shaped (ni x) && SeqAt.shaped (tn l) then some ((l.map ni).any fun y => PyData.eqv y (ni x)) else none) = _
    rw [shaped_ni, shaped_tn]
    simp only [Bool.and_self, if_true]
    rw [List.any_map]
    unfold has
    congr 1
    rw [Bool.eq_iff_iff]
    simp [PyData.eqv, Function.comp_def]
    constructor
    · intro ⟨y, h1, h2⟩
      have e3 : y = x := by omega
      rw [← e3]
      exact h1
    · intro h
      exact ⟨x, h, rfl⟩
  show orO inT (orO inL inS) _ _ = _
  unfold orO
  rw [e]
def fitsB (s : List Nat) (w : List Nat × Bool) : Bool := (w.1.any fun x => has s x) == w.2
theorem s_fits (C : Clo) (M : Mem) (s : List Nat) (w : List Nat × Bool) (hl : w.1.length ≤ 100) : f_fits C [.py (tn s), .py (wsh w)] M = some (.ok ⟨.py (.bool (fitsB s w)), false, M⟩) := by
  have hz : (200 : Nat) ≤ sizeLine := by decide
  have e0 : ixD M (.py (wsh w)) (.py (.int 0)) = some (.py (tn w.1)) := rfl
  have e1 : ixD M (.py (wsh w)) (.py (.int 1)) = some (.py (.bool w.2)) := rfl
  have hc : evE F_fits (fun _ => C) c_fits_1 [some (.py (tn s), false), some (.py (wsh w), false), none] M = some (.ok ⟨.py (.list (w.1.map fun x => .bool (has s x))), .fr, [some (.py (tn s), false), some (.py (wsh w), false), none], M⟩) :=
    comp_map (.py ∘ ni) (fun x => .bool (has s x)) (fun x => [some (.py (tn s), false), some (.py (wsh w), false), some (.py (ni x), false)]) w.1 (sd := .py (tn w.1)) (sm := .sh) (by simp [e0, tn]) (by simp [tn]) (by omega) rfl (fun _ _ => rfl) (fun x _ => ⟨.sh, by simp [in_tn], rfl⟩) (fun _ _ => rfl) rfl
  have ha := anyb (fun x => has s x) w.1
  simp [f_fits, runF, d_fits, startN, hc, ha, e1, fitsB]
theorem s_law_fits (C : Clo) (M : Mem) (s : List Nat) (w : List Nat × Bool) (hl : w.1.length ≤ 100) : f_law_fits C [.py (tn s), .py (wsh w)] M = some (.ok ⟨.py (.bool (fitsB s w)), false, M⟩) := s_fits C M s w hl
/-! ### what is left -/
theorem it_wss (ws : List (List Nat × Bool)) : items (.py (wss ws)) = some (ws.map (D.py ∘ wsh)) := by
  show some ((ws.map wsh).map D.py) = _
  rw [List.map_map]
def leftB (p : Tr) (ws : List (List Nat × Bool)) : List (List Nat) := (TT p).filter fun s => ws.all fun w => fitsB s w
theorem s_left (C : Clo) (M : Mem) {many least most : Nat} {ws : List (List Nat × Bool)} (h : many ≤ 6) (hw : ∀ w ∈ ws, w.1.length ≤ 100) (hl : ws.length ≤ 100) : f_left_of C [.py (ni many), .py (wss ws), .py (ni least), .py (ni most)] M = some (.ok ⟨.py (.list ((leftB (many, least, most) ws).map tn)), true, M⟩) := by
  have hz : (200 : Nat) ≤ sizeLine := by decide
  have hT : (TT (many, least, most)).length ≤ 64 := TT_len h
  have h1 : ∀ s, evE F_left_of (fun _ => C) c_left_of_1 [some (.py (ni many), false), some (.py (wss ws), false), some (.py (ni least), false), some (.py (ni most), false), some (.py (tn s), false), none] M = some (.ok ⟨.py (.list (ws.map fun w => .bool (fitsB s w))), .fr, [some (.py (ni many), false), some (.py (wss ws), false), some (.py (ni least), false), some (.py (ni most), false), some (.py (tn s), false), none], M⟩) := fun s =>
    comp_map (.py ∘ wsh) (fun w => .bool (fitsB s w)) (fun w => [some (.py (ni many), false), some (.py (wss ws), false), some (.py (ni least), false), some (.py (ni most), false), some (.py (tn s), false), some (.py (wsh w), false)]) ws (sd := .py (wss ws)) (sm := .sh) (by simp [it_wss]) (it_wss ws) (by omega) rfl (fun _ _ => rfl) (fun w hm => ⟨.sh, by simp [s_fits noClo M s w (hw w hm)], rfl⟩) (fun _ _ => rfl) rfl
  have hs : f_sets_of noClo [.py (ni many), .py (ni least), .py (ni most)] M = some (.ok ⟨.py (.list ((TT (many, least, most)).map tn)), true, M⟩) := s_sets noClo M (p := (many, least, most)) h
  have h2 : evE F_left_of (fun _ => C) c_left_of_2 [some (.py (ni many), false), some (.py (wss ws), false), some (.py (ni least), false), some (.py (ni most), false), none, none] M = some (.ok ⟨.py (.list ((leftB (many, least, most) ws).map tn)), .fr, [some (.py (ni many), false), some (.py (wss ws), false), some (.py (ni least), false), some (.py (ni most), false), none, none], M⟩) :=
    comp_filter (.py ∘ tn) (fun s => ws.all fun w => fitsB s w) tn (fun s => [some (.py (ni many), false), some (.py (wss ws), false), some (.py (ni least), false), some (.py (ni most), false), some (.py (tn s), false), none]) (TT (many, least, most)) (sd := .py (.list ((TT (many, least, most)).map tn))) (sm := .fr) (by simp [hs]) (by simp) (by omega) rfl (fun _ _ => rfl)
      (fun s _ => ⟨.py (.bool (ws.all fun w => fitsB s w)), by simp [h1 s, allb (fun w => fitsB s w) ws], rfl⟩) (fun s _ _ => ⟨.sh, by simp, rfl⟩) (fun _ _ => rfl) rfl
  simp [f_left_of, runF, d_left_of, startN, h2]
theorem left_len {p : Tr} {ws : List (List Nat × Bool)} (h : p.1 ≤ 6) : (leftB p ws).length ≤ 64 := Nat.le_trans (List.length_filter_le _ _) (TT_len h)
/-! ### words -/
def sure : PyData := .str "sure"
def opn : PyData := .str "open"
def nev : PyData := .str "never"
def wordB (S : List (List Nat)) (x : Nat) : PyData := if (S.all fun s => has s x) = true then sure else if (S.any fun s => has s x) = true then opn else nev
def wordsB (many : Nat) (S : List (List Nat)) : List PyData := (List.range many).map (wordB S)
theorem rng_pre {n : Nat} {done rest : List Nat} {x : Nat} (e : List.range n = done ++ x :: rest) : x = done.length ∧ done.length < n ∧ done = List.range done.length := by
  have hlen : done.length < n := by
    have := congrArg List.length e
    simp at this
    omega
  have h1 : (List.range n)[done.length]? = some done.length := by simp [hlen]
  rw [e] at h1
  simp at h1
  refine ⟨h1, hlen, ?_⟩
  have h2 : (List.range n).take done.length = done := by
    rw [e, List.take_append_of_le_length (Nat.le_refl _), List.take_length]
  exact h2.symm.trans (by rw [List.take_range, Nat.min_eq_left (by omega)])
theorem s_words (C : Clo) (M : Mem) {many : Nat} {S : List (List Nat)} (h : many ≤ 6) (hS : S.length ≤ 100) : f_words_of C [.py (ni many), .py (.list (S.map tn))] M = some (.ok ⟨.py (.tuple (wordsB many S)), false, M⟩) := by
  have hz : (200 : Nat) ≤ sizeLine := by decide
  have hc : ∀ (fo : D) (x : Nat) (r : Slot), evE F_words_of (fun _ => C) c_words_of_1 [some (.py (ni many), false), some (.py (.list (S.map tn)), false), some (fo, true), some (.py (ni x), false), r, none] M = some (.ok ⟨.py (.list (S.map fun s => .bool (has s x))), .fr, [some (.py (ni many), false), some (.py (.list (S.map tn)), false), some (fo, true), some (.py (ni x), false), r, none], M⟩) := fun fo x r =>
    comp_map (.py ∘ tn) (fun s => .bool (has s x)) (fun s => [some (.py (ni many), false), some (.py (.list (S.map tn)), false), some (fo, true), some (.py (ni x), false), r, some (.py (tn s), false)]) S (sd := .py (.list (S.map tn))) (sm := .sh) (by simp) (by simp) (by omega) rfl (fun _ _ => rfl) (fun s _ => ⟨.sh, by simp [in_tn], rfl⟩) (fun _ _ => rfl) rfl
  obtain ⟨ρ', M', e1, lot, ran, rfl, rfl⟩ := forE_inv (Fs := F_words_of) (C := fun _ => C) (t := .nm 3) (body := b_words_of_1) (D.py ∘ ni)
    (fun done ρ M' => ∃ lot ran : Slot, M = M' ∧ ρ = [some (.py (ni many), false), some (.py (.list (S.map tn)), false), some (.py (.list (done.map (wordB S))), true), lot, ran, none])
    (List.range many) [some (.py (ni many), false), some (.py (.list (S.map tn)), false), some (.py (.list []), true), none, none, none] M ⟨none, none, rfl, rfl⟩
    (fun done x rest ρ M1 e ⟨lot, ran, hM, hI⟩ => by
      subst hM hI
      obtain ⟨rfl, hlen, _⟩ := rng_pre e
      refine ⟨_, rfl, _, _, ?_, some (.py (ni done.length), false), some (.py (.list (S.map fun s => .bool (has s done.length))), true), rfl, rfl⟩
      have ha := allb (fun s => has s done.length) S
      have hb := anyb (fun s => has s done.length) S
      simp only [b_words_of_1, ss_cons, t_asg, List.set_cons_succ, List.set_cons_zero]
      cases q1 : (S.all fun s => has s done.length) <;> cases q2 : (S.any fun s => has s done.length) <;> simp [hc, ha, hb, q1, q2, wordB, sure, opn, nev, show done.length < sizeLine from by omega])
  have hr := rngL_up (n := many) (by omega)
  have e1' : forE F_words_of (fun _ => C) (.nm 3) b_words_of_1 ((List.range many).map fun (i : Nat) => D.py (.int (i : Int))) [some (.py (ni many), false), some (.py (.list (S.map tn)), false), some (.py (.list []), true), none, none, none] M = _ := e1
  simp [f_words_of, runF, d_words_of, startN, l_words_of_1, hr, e1', wordsB, show (0 : Nat) ≤ sizeLine from by omega]
end k28

namespace k28
open Ev PySem
/-! ### the numbers that are right -/
structure Good (many least most : Nat) (ws : List (List Nat × Bool)) : Prop where
  m1 : 1 ≤ many
  m6 : many ≤ 6
  lm : least ≤ most
  m3 : most ≤ min many 3
  wk : ∀ w ∈ ws, OkL many w.1
  wl : ws.length ≤ 30
section
variable {many least most : Nat} {ws : List (List Nat × Bool)}
theorem Good.check (g : Good many least most ws) (C : Clo) (M : Mem) : f_check_case C [.py (ni many), .py (wss ws), .py (ni least), .py (ni most)] M = some (.ok ⟨.py .none, false, M⟩) := by
  have h1 := g.lm
  have h2 := g.m3
  have e1 : isI (ni least) 0 (min many 3 : Nat) = true := by simp [isI]; omega
  have e2 : isI (ni most) (least : Int) (min many 3 : Nat) = true := by simp [isI]; omega
  have := s_check C M g.wk g.m1 (by have := g.m6; omega) g.wl (ni least) (ni most)
  rw [if_pos e1] at this
  simp only [e2, if_true] at this
  exact this
theorem Good.wlen (g : Good many least most ws) : ∀ w ∈ ws, w.1.length ≤ 100 := fun w hw => by
  have := (g.wk w hw).len.2
  have := g.m6
  omega
theorem Good.left (g : Good many least most ws) (C : Clo) (M : Mem) : f_left_of C [.py (ni many), .py (wss ws), .py (ni least), .py (ni most)] M = some (.ok ⟨.py (.list ((leftB (many, least, most) ws).map tn)), true, M⟩) :=
  s_left C M g.m6 g.wlen (by have := g.wl; omega)
theorem g_may (g : Good many least most ws) (C : Clo) (M : Mem) : f_may_have C [.py (ni many), .py (wss ws), .py (ni least), .py (ni most)] M = some (.ok ⟨.py (.tuple ((leftB (many, least, most) ws).map tn)), false, M⟩) := by
  simp [f_may_have, runF, d_may_have, startN, g.check noClo M, g.left noClo M]
theorem lay_tn : ∀ L : List (List Nat), PyData.canLayAll0 (L.map tn) = true
  | [] => rfl
  | a :: l => by
    rw [List.map_cons]
    show ((tn a).canLay0 && PyData.canLayAll0 (l.map tn)) = true
    rw [lay_tn l]
    show (PyData.canLayAll0 (a.map ni) && true) = true
    rw [lay_ni]
    rfl
theorem eq_nil (L : List (List Nat)) : cm .eq (.py (.list (L.map tn))) (.py (.list [])) = some L.isEmpty := by
  have e : eqP (.py (.list (L.map tn))) (.py (.list [])) = some L.isEmpty := by
    have h : SeqAt.shaped (.list (L.map tn)) = true := by
      show (PyData.canLayAll0 (L.map tn) && decide (PyData.depthAll (L.map tn) + 1 ≤ 64)) = true
      have := okL_tn L
      rw [lay_tn, decide_eq_true (by omega)]
      rfl
    show (if SeqAt.shaped (.list (L.map tn)) && SeqAt.shaped (.list []) then some (PyData.eqv (.list (L.map tn)) (.list [])) else none) = _
    rw [h, show SeqAt.shaped (.list []) = true from rfl]
    simp only [Bool.and_self, if_true]
    cases L <;> simp [PyData.eqv, PyData.eqvAll]
  have h : cm .eq (.py (.list (L.map tn))) (.py (.list [])) = eqD (.py (.list (L.map tn))) (.py (.list [])) := rfl
  rw [h]
  unfold eqD orO
  rw [e] <;> rfl
theorem ne_nil (L : List (List Nat)) : cm .ne (.py (.list (L.map tn))) (.py (.list [])) = some (!L.isEmpty) := by
  show notO (cm .eq _ _) = _
  rw [eq_nil] <;> rfl
def toldB (many : Nat) (S : List (List Nat)) : PyData := if S.isEmpty = true then .none else .tuple (wordsB many S)
theorem g_told (g : Good many least most ws) (C : Clo) (M : Mem) : f_told C [.py (ni many), .py (wss ws), .py (ni least), .py (ni most)] M = some (.ok ⟨.py (toldB many (leftB (many, least, most) ws)), false, M⟩) := by
  have hl := left_len (p := (many, least, most)) (ws := ws) g.m6
  have hw := s_words noClo M (many := many) (S := leftB (many, least, most) ws) g.m6 (by omega)
  by_cases q : leftB (many, least, most) ws = []
  · have h2 := ne_nil []
    simp at h2
    simp [f_told, runF, d_told, startN, g.check noClo M, g.left noClo M, show (0 : Nat) ≤ sizeLine from by decide, toldB, q, h2]
  · simp [f_told, runF, d_told, startN, g.check noClo M, g.left noClo M, ne_nil, show (0 : Nat) ≤ sizeLine from by decide, toldB, q, hw]
/-! ### the first that is wrong -/
def firstB (S : List (List Nat)) : List (List Nat × Bool) → Nat → Option Nat
  | [], _ => none
  | w :: ws, n => if (S.filter fun s => fitsB s w).isEmpty = true then some n else firstB (S.filter fun s => fitsB s w) ws (n + 1)
def optP : Option Nat → PyData
  | none => .none
  | some n => ni n
theorem first_go (C : Clo) (M : Mem) (x y z t : D) : ∀ (ws : List (List Nat × Bool)) (n : Nat) (S : List (List Nat)) (a b : Slot), (∀ w ∈ ws, w.1.length ≤ 100) → S.length ≤ 100 →
    match firstB S ws n with
    | some k => forE F_first_wrong (fun _ => C) (.tp [.nm 5, .nm 6]) b_first_wrong_1 (enuFrom n (ws.map (D.py ∘ wsh))) [some (x, false), some (y, false), some (z, false), some (t, false), some (.py (.list (S.map tn)), true), a, b, none] M = some (.ok (.rt ⟨.py (ni k), false, M⟩))
    | none => ∃ ρ', forE F_first_wrong (fun _ => C) (.tp [.nm 5, .nm 6]) b_first_wrong_1 (enuFrom n (ws.map (D.py ∘ wsh))) [some (x, false), some (y, false), some (z, false), some (t, false), some (.py (.list (S.map tn)), true), a, b, none] M = some (.ok (.nx ρ' M))
  | [], n, S, a, b, _, _ => ⟨_, rfl⟩
  | w :: ws, n, S, a, b, hw, hS => by
    have hz : (200 : Nat) ≤ sizeLine := by decide
    have ih := first_go C M x y z t ws (n + 1) (S.filter fun s => fitsB s w) (some (.py (ni n), false)) (some (.py (wsh w), false)) (fun v hv => hw v (List.mem_cons_of_mem _ hv)) (Nat.le_trans (List.length_filter_le _ _) hS)
    have hc : evE F_first_wrong (fun _ => C) c_first_wrong_1 [some (x, false), some (y, false), some (z, false), some (t, false), some (.py (.list (S.map tn)), true), some (.py (ni n), false), some (.py (wsh w), false), none] M = some (.ok ⟨.py (.list ((S.filter fun s => fitsB s w).map tn)), .fr, [some (x, false), some (y, false), some (z, false), some (t, false), some (.py (.list (S.map tn)), true), some (.py (ni n), false), some (.py (wsh w), false), none], M⟩) :=
      comp_filter (.py ∘ tn) (fun s => fitsB s w) tn (fun s => [some (x, false), some (y, false), some (z, false), some (t, false), some (.py (.list (S.map tn)), true), some (.py (ni n), false), some (.py (wsh w), false), some (.py (tn s), false)]) S (sd := .py (.list (S.map tn))) (sm := .bo 4) (by simp) (by simp) (by omega) rfl (fun _ _ => rfl)
        (fun s _ => ⟨.py (.bool (fitsB s w)), by simp [s_fits noClo M s w (hw w List.mem_cons_self)], rfl⟩) (fun s _ _ => ⟨.sh, by simp, rfl⟩) (fun _ _ => rfl) rfl
    have hb : bindT (.tp [.nm 5, .nm 6]) (mkT [.py (ni n), .py (wsh w)]) [some (x, false), some (y, false), some (z, false), some (t, false), some (.py (.list (S.map tn)), true), a, b, none] = some [some (x, false), some (y, false), some (z, false), some (t, false), some (.py (.list (S.map tn)), true), some (.py (ni n), false), some (.py (wsh w), false), none] := rfl
    have hs := forE_cons (Fs := F_first_wrong) (C := fun _ => C) (t := .tp [.nm 5, .nm 6]) (body := b_first_wrong_1) (mkT [.py (ni n), .py (wsh w)]) (enuFrom (n + 1) (ws.map (D.py ∘ wsh))) [some (x, false), some (y, false), some (z, false), some (t, false), some (.py (.list (S.map tn)), true), a, b, none] M
    rw [hb, ob_s] at hs
    have he : enuFrom n ((w :: ws).map (D.py ∘ wsh)) = mkT [.py (ni n), .py (wsh w)] :: enuFrom (n + 1) (ws.map (D.py ∘ wsh)) := rfl
    rw [he]
    unfold firstB
    cases q : (S.filter fun s => fitsB s w).isEmpty with
    | true =>
      simp only [if_true]
      rw [hs]
      simp [b_first_wrong_1, hc, eq_nil, q, show (0 : Nat) ≤ sizeLine from by omega]
    | false =>
      simp only [Bool.false_eq_true, if_false]
      rw [hs]
      simp [b_first_wrong_1, hc, eq_nil, q, show (0 : Nat) ≤ sizeLine from by omega]
      exact ih
theorem g_first (g : Good many least most ws) (C : Clo) (M : Mem) : f_first_wrong C [.py (ni many), .py (wss ws), .py (ni least), .py (ni most)] M = some (.ok ⟨.py (optP (firstB (TT (many, least, most)) ws 0)), false, M⟩) := by
  have hs : f_sets_of noClo [.py (ni many), .py (ni least), .py (ni most)] M = some (.ok ⟨.py (.list ((TT (many, least, most)).map tn)), true, M⟩) := s_sets noClo M (p := (many, least, most)) g.m6
  have hT := TT_len (p := (many, least, most)) g.m6
  have hf := first_go C M (.py (ni many)) (.py (wss ws)) (.py (ni least)) (.py (ni most)) ws 0 (TT (many, least, most)) none none g.wlen (by omega)
  cases q : firstB (TT (many, least, most)) ws 0 with
  | some k =>
    rw [q] at hf
    simp only at hf
    simp [f_first_wrong, runF, d_first_wrong, startN, g.check noClo M, hs, l_first_wrong_1, it_wss, hf, optP]
  | none =>
    rw [q] at hf
    obtain ⟨ρ', hf⟩ := hf
    simp [f_first_wrong, runF, d_first_wrong, startN, g.check noClo M, hs, l_first_wrong_1, it_wss, hf, optP]
end
end k28

namespace k28
open Ev PySem
def msk (l : List Nat) : Int := (l.map fun x => (2 : Int) ^ x).sum
def mskB : Bool := (F 6).all fun a => (F 6).all fun b => (Builtin.bitAnd (msk a) (msk b) == 0) == !(b.any fun x => has a x)
theorem msk_all : mskB = true := by decide +kernel
theorem F_up : ∀ {n m : Nat} {l : List Nat}, n ≤ m → l ∈ F n → l ∈ F m
  | n, 0, l, h, hl => by
    have : n = 0 := by omega
    subst this
    exact hl
  | n, m + 1, l, h, hl => by
    by_cases e : n = m + 1
    · subst e
      exact hl
    · unfold F
      exact List.mem_append.mpr (.inl (F_up (by omega) hl))
theorem msk_ok {a b : List Nat} (ha : a ∈ F 6) (hb : b ∈ F 6) : (Builtin.bitAnd (msk a) (msk b) == 0) = !(b.any fun x => has a x) := by
  have h := msk_all
  unfold mskB at h
  exact beq_iff_eq.mp (List.all_eq_true.mp (List.all_eq_true.mp h a ha) b hb)
theorem shl1 (x : Nat) (h : x ≤ 1000) : o2 .shl (.py (.int 1)) (.py (ni x)) = some (.py (.int (2 ^ x)), false) := by
  have e := oInt_ok (C := fun i j => decide (0 ≤ j) && decide (j ≤ 1000) && bits 60 i) (g := fun i j => i * 2 ^ j.toNat) (i := 1) (j := (x : Int)) (by
    show (decide (0 ≤ (x : Int)) && decide ((x : Int) ≤ 1000) && bits 60 1) = true
    rw [decide_eq_true (by omega), decide_eq_true (by omega)] <;> rfl)
  rw [Int.toNat_natCast, Int.one_mul] at e
  exact e
theorem band_i (i j : Int) : o2 .band (.py (.int i)) (.py (.int j)) = some (.py (.int (Builtin.bitAnd i j)), false) := rfl
def stain (S : List (List Nat)) (load : List Nat) : Nat := (S.filter fun s => load.any fun x => has s x).length
/-- what a load leaves at worst -/
def wv (S : List (List Nat)) (load : List Nat) : Int := if ((S.length : Int) - stain S load) > (stain S load : Int) then (S.length : Int) - stain S load else stain S load
def rowB (S : List (List Nat)) (load : List Nat) : PyData := .tuple [.int (wv S load), tn load]
def bestB : Option PyData → List PyData → Option PyData
  | o, [] => o
  | none, r :: rs => bestB (some r) rs
  | some b, r :: rs => bestB (some (if PySem.W.dataLt r b then r else b)) rs
def optD : Option PyData → PyData
  | none => .none
  | some p => p
theorem row_lt (S : List (List Nat)) (a b : List Nat) : cm .lt (.py (rowB S a)) (.py (rowB S b)) = some (PySem.W.dataLt (rowB S a) (rowB S b)) := by
  have e : cData (fun p q => PySem.W.dataLt p q) (.py (rowB S a)) (.py (rowB S b)) = some (PySem.W.dataLt (rowB S a) (rowB S b)) := by
    have h1 : PySem.W.alike (rowB S a) (rowB S b) = true := by
      unfold rowB W.alike W.alikeAll W.alikeAll W.alikeAll
      rw [alike_tn]
      rfl
    have h2 : (rowB S a).depth ≤ 64 := by
      show max 0 (max (tn a).depth 0) + 1 ≤ 64
      rw [depth_tn]
      decide
    show (if PySem.W.alike (rowB S a) (rowB S b) && notNone (rowB S a) && decide ((rowB S a).depth ≤ 64) then some (PySem.W.dataLt (rowB S a) (rowB S b)) else none) = _
    rw [h1, decide_eq_true h2]
    rfl
  have h : cm .lt (.py (rowB S a)) (.py (rowB S b)) = orO (cInt fun i j => decide (i < j)) (cData fun p q => PySem.W.dataLt p q) (.py (rowB S a)) (.py (rowB S b)) := rfl
  rw [h]
  unfold orO
  rw [e] <;> rfl
theorem mk_row2 (S : List (List Nat)) (load : List Nat) : PyData.tuple [.int (wv S load), tn load] = rowB S load := rfl
/-- one turn -/
theorem next_turn (C : Clo) (M : Mem) (x y z t : D) (S : List (List Nat)) (load : List Nat) (o : Option PyData) (a b c : Slot) (ho : o = none ∨ ∃ l, o = some (rowB S l)) (hS : S.length ≤ 100) (h6 : ∀ s ∈ S, s ∈ F 6) (hl6 : load ∈ F 6) :
    ∃ a' b' c' : Slot, evSs F_next_load (fun _ => C) b_next_load_1 [some (x, false), some (y, false), some (z, false), some (t, false), some (.py (tn load), false), some (.py (.list (S.map fun s => .int (msk s))), true), some (.py (optD o), false), a, b, c, none, none] M =
      some (.ok (.nx [some (x, false), some (y, false), some (z, false), some (t, false), some (.py (tn load), false), some (.py (.list (S.map fun s => .int (msk s))), true), some (.py (optD (bestB o [rowB S load])), false), a', b', c', none, none] M)) := by
  have hz : (200 : Nat) ≤ sizeLine := by decide
  have hll := (F_mem hl6).2.2
  have h3 : evE F_next_load (fun _ => C) c_next_load_3 [some (x, false), some (y, false), some (z, false), some (t, false), some (.py (tn load), false), some (.py (.list (S.map fun s => .int (msk s))), true), some (.py (optD o), false), a, b, c, none, none] M = some (.ok ⟨.py (.list (load.map fun v => .int (2 ^ v))), .fr, [some (x, false), some (y, false), some (z, false), some (t, false), some (.py (tn load), false), some (.py (.list (S.map fun s => .int (msk s))), true), some (.py (optD o), false), a, b, c, none, none], M⟩) :=
    comp_map (.py ∘ ni) (fun v => .int (2 ^ v)) (fun v => [some (x, false), some (y, false), some (z, false), some (t, false), some (.py (tn load), false), some (.py (.list (S.map fun s => .int (msk s))), true), some (.py (optD o), false), a, b, c, none, some (.py (ni v), false)]) load (sd := .py (tn load)) (sm := .sh) (by simp [tn]) (by simp [tn]) (by omega) rfl (fun _ _ => rfl)
      (fun v hv => ⟨.sh, by
        have := (F_mem hl6).2.1 v hv
        simp [shl1 v (by omega)], rfl⟩) (fun _ _ => rfl) rfl
  have hsum := sumi (fun v : Nat => (2 : Int) ^ v) load
  rw [show (load.map fun v : Nat => (2 : Int) ^ v).sum = msk load from rfl] at hsum
  have h4 : evE F_next_load (fun _ => C) c_next_load_4 [some (x, false), some (y, false), some (z, false), some (t, false), some (.py (tn load), false), some (.py (.list (S.map fun s => .int (msk s))), true), some (.py (optD o), false), some (.py (.int (msk load)), false), b, c, none, none] M = some (.ok ⟨.py (.list ((S.filter fun s => load.any fun x => has s x).map fun s => .int (msk s))), .fr, [some (x, false), some (y, false), some (z, false), some (t, false), some (.py (tn load), false), some (.py (.list (S.map fun s => .int (msk s))), true), some (.py (optD o), false), some (.py (.int (msk load)), false), b, c, none, none], M⟩) :=
    comp_filter (fun s => .py (.int (msk s))) (fun s => load.any fun x => has s x) (fun s => .int (msk s)) (fun s => [some (x, false), some (y, false), some (z, false), some (t, false), some (.py (tn load), false), some (.py (.list (S.map fun s => .int (msk s))), true), some (.py (optD o), false), some (.py (.int (msk load)), false), b, c, some (.py (.int (msk s)), false), none]) S (sd := .py (.list (S.map fun s => .int (msk s)))) (sm := .bo 5) (by simp) (by simp [Function.comp_def]) (by omega) rfl (fun _ _ => rfl)
      (fun s hs => ⟨.py (.bool (load.any fun x => has s x)), by
        have := msk_ok (h6 s hs) hl6
        simp [band_i, this], rfl⟩) (fun s _ _ => ⟨.sh, by simp, rfl⟩) (fun _ _ => rfl) rfl
  have hlen : bi .len [.py (.list ((S.filter fun s => load.any fun x => has s x).map fun s => .int (msk s)))] = some (.py (.int (stain S load : Int)), false) := by
    rw [len_l, List.length_map]
    rfl
  have hmax : bi .max [.py (.int (stain S load : Int)), .py (.int ((S.length : Int) - stain S load))] = some (.py (.int (wv S load)), false) := by rw [max_i, wv]
  refine ⟨some (.py (.int (msk load)), false), some (.py (.int (stain S load : Int)), false), some (.py (.int (wv S load)), false), ?_⟩
  rcases ho with rfl | ⟨l, rfl⟩
  · simp only [optD] at h3 h4
    simp [-max_i, b_next_load_1, h3, hsum, h4, hlen, hmax, optD, bestB, rowB, show (2 : Nat) ≤ sizeLine from by omega]
  · have hr := row_lt S load l
    have hr2 : cm .lt (.py (.tuple [.int (wv S load), tn load])) (.py (rowB S l)) = some (PySem.W.dataLt (rowB S load) (rowB S l)) := hr
    have hn : cm .is (.py (rowB S l)) (.py .none) = some false := rfl
    simp only [optD] at h3 h4
    cases q : PySem.W.dataLt (rowB S load) (rowB S l) <;> simp [-max_i, -is_n, b_next_load_1, h3, hsum, h4, hlen, hmax, optD, bestB, show (2 : Nat) ≤ sizeLine from by omega, hn, hr, q, mk_row2]
theorem next_go (C : Clo) (M : Mem) (x y z t : D) (S : List (List Nat)) (hS : S.length ≤ 100) (h6 : ∀ s ∈ S, s ∈ F 6) : ∀ (loads : List (List Nat)) (l0 : Slot) (o : Option PyData) (a b c : Slot), (o = none ∨ ∃ l, o = some (rowB S l)) → (∀ l ∈ loads, l ∈ F 6) →
    ∃ l' a' b' c' : Slot, forE F_next_load (fun _ => C) (.nm 4) b_next_load_1 (loads.map (D.py ∘ tn)) [some (x, false), some (y, false), some (z, false), some (t, false), l0, some (.py (.list (S.map fun s => .int (msk s))), true), some (.py (optD o), false), a, b, c, none, none] M =
      some (.ok (.nx [some (x, false), some (y, false), some (z, false), some (t, false), l', some (.py (.list (S.map fun s => .int (msk s))), true), some (.py (optD (bestB o (loads.map (rowB S)))), false), a', b', c', none, none] M))
  | [], l0, o, a, b, c, _, _ => ⟨l0, a, b, c, by cases o <;> rfl⟩
  | l :: ls, l0, o, a, b, c, ho, hl => by
    obtain ⟨a1, b1, c1, h1⟩ := next_turn C M x y z t S l o a b c ho hS h6 (hl l List.mem_cons_self)
    have ho2 : bestB o [rowB S l] = none ∨ ∃ k, bestB o [rowB S l] = some (rowB S k) := by
      rcases ho with rfl | ⟨k, rfl⟩
      · exact .inr ⟨l, rfl⟩
      · refine .inr ?_
        simp only [bestB]
        split
        · exact ⟨l, rfl⟩
        · exact ⟨k, rfl⟩
    obtain ⟨l', a', b', c', h2⟩ := next_go C M x y z t S hS h6 ls (some (.py (tn l), false)) (bestB o [rowB S l]) a1 b1 c1 ho2 (fun k hk => hl k (List.mem_cons_of_mem _ hk))
    refine ⟨l', a', b', c', ?_⟩
    rw [List.map_cons, forE_cons]
    have hb : bindT (.nm 4) ((D.py ∘ tn) l) [some (x, false), some (y, false), some (z, false), some (t, false), l0, some (.py (.list (S.map fun s => .int (msk s))), true), some (.py (optD o), false), a, b, c, none, none] = some [some (x, false), some (y, false), some (z, false), some (t, false), some (.py (tn l), false), some (.py (.list (S.map fun s => .int (msk s))), true), some (.py (optD o), false), a, b, c, none, none] := rfl
    rw [hb, ob_s, h1, bz_ok]
    simp only
    rw [h2]
    have e : bestB (bestB o [rowB S l]) (ls.map (rowB S)) = bestB o ((l :: ls).map (rowB S)) := by
      rcases ho with rfl | ⟨k, rfl⟩ <;> rfl
    rw [e]
section
variable {many least most : Nat} {ws : List (List Nat × Bool)}
theorem left_F (g : Good many least most ws) : ∀ s ∈ leftB (many, least, most) ws, s ∈ F 6 := fun s hs => F_up g.m6 (TT_mem.mp (List.mem_filter.mp hs).1).1
theorem TT_F {p : Tr} (h : p.1 ≤ 6) : ∀ s ∈ TT p, s ∈ F 6 := fun s hs => F_up h (TT_mem.mp hs).1
theorem g_next (g : Good many least most ws) (C : Clo) (M : Mem) : f_next_load C [.py (ni many), .py (wss ws), .py (ni least), .py (ni most)] M = some (.ok ⟨.py (optD (bestB none ((TT (many, 1, many)).map (rowB (leftB (many, least, most) ws))))), false, M⟩) := by
  have hz : (200 : Nat) ≤ sizeLine := by decide
  have hS := left_len (p := (many, least, most)) (ws := ws) g.m6
  have h6 := left_F g
  have h1 : ∀ s ∈ leftB (many, least, most) ws, evE F_next_load (fun _ => C) c_next_load_1 [some (.py (ni many), false), some (.py (wss ws), false), some (.py (ni least), false), some (.py (ni most), false), none, none, none, none, none, none, some (.py (tn s), false), none] M = some (.ok ⟨.py (.list (s.map fun v => .int (2 ^ v))), .fr, [some (.py (ni many), false), some (.py (wss ws), false), some (.py (ni least), false), some (.py (ni most), false), none, none, none, none, none, none, some (.py (tn s), false), none], M⟩) := fun s hs =>
    comp_map (.py ∘ ni) (fun v => .int (2 ^ v)) (fun v => [some (.py (ni many), false), some (.py (wss ws), false), some (.py (ni least), false), some (.py (ni most), false), none, none, none, none, none, none, some (.py (tn s), false), some (.py (ni v), false)]) s (sd := .py (tn s)) (sm := .sh) (by simp [tn]) (by simp [tn]) (by have := (F_mem (h6 s hs)).2.2; omega) rfl (fun _ _ => rfl)
      (fun v hv => ⟨.sh, by
        have := (F_mem (h6 s hs)).2.1 v hv
        simp [shl1 v (by omega)], rfl⟩) (fun _ _ => rfl) rfl
  have h2 : evE F_next_load (fun _ => C) c_next_load_2 [some (.py (ni many), false), some (.py (wss ws), false), some (.py (ni least), false), some (.py (ni most), false), none, none, none, none, none, none, none, none] M = some (.ok ⟨.py (.list ((leftB (many, least, most) ws).map fun s => .int (msk s))), .fr, [some (.py (ni many), false), some (.py (wss ws), false), some (.py (ni least), false), some (.py (ni most), false), none, none, none, none, none, none, none, none], M⟩) :=
    comp_map (.py ∘ tn) (fun s => .int (msk s)) (fun s => [some (.py (ni many), false), some (.py (wss ws), false), some (.py (ni least), false), some (.py (ni most), false), none, none, none, none, none, none, some (.py (tn s), false), none]) (leftB (many, least, most) ws) (sd := .py (.list ((leftB (many, least, most) ws).map tn))) (sm := .fr) (by simp [g.left noClo M]) (by simp) (by omega) rfl (fun _ _ => rfl)
      (fun s hs => ⟨.sh, by
        have hsum := sumi (fun v : Nat => (2 : Int) ^ v) s
        rw [show (s.map fun v : Nat => (2 : Int) ^ v).sum = msk s from rfl] at hsum
        simp [h1 s hs, hsum], rfl⟩) (fun _ _ => rfl) rfl
  have hs : f_sets_of noClo [.py (ni many), .py (.int 1), .py (ni many)] M = some (.ok ⟨.py (.list ((TT (many, 1, many)).map tn)), true, M⟩) := s_sets noClo M (p := (many, 1, many)) g.m6
  obtain ⟨l', a', b', c', h3⟩ := next_go C M (.py (ni many)) (.py (wss ws)) (.py (ni least)) (.py (ni most)) (leftB (many, least, most) ws) (by omega) h6 (TT (many, 1, many)) none none none none none (.inl rfl) (TT_F (p := (many, 1, many)) g.m6)
  have h3' : forE F_next_load (fun _ => C) (.nm 4) b_next_load_1 ((TT (many, 1, many)).map (D.py ∘ tn)) [some (.py (ni many), false), some (.py (wss ws), false), some (.py (ni least), false), some (.py (ni most), false), none, some (.py (.list ((leftB (many, least, most) ws).map fun s => .int (msk s))), true), some (.py .none, false), none, none, none, none, none] M = _ := h3
  simp [f_next_load, runF, d_next_load, startN, g.check noClo M, h2, l_next_load_1, hs, h3']
end
end k28

namespace k28
open Ev PySem
/-! ### draws -/
theorem take (C : Clo) {M : Mem} {n c u : Nat} (hp : PotAt M n c) (hc : c ≤ 10 ^ 9) (hu : 0 < u) (hu2 : u < 2 ^ 30) : ∃ (d : Nat) (M' : Mem), f_law_take C [.cel n, .py (ni u)] M = some (.ok ⟨.py (ni d), false, M'⟩) ∧ d < u ∧ PotAt M' n (c + 1) :=
  s_take (Fs := F_law_take) (a := 91536) (b := 666) (e := 10259) (f := 122) (g := 2305843009213693907) (h := 152) C hp hc hu hu2 (by decide) (by decide) (by decide) (by decide) (by decide) (by decide)
theorem pot (C : Clo) (M : Mem) (ns : List Int) {pl : Nat} (h : pl ≤ 1000) : ∃ ps, f_law_pot C [.scr ns, .py (ni pl)] M = some (.ok ⟨.cel M.length, false, M ++ [ps]⟩) ∧ PotAt (M ++ [ps]) M.length 0 :=
  s_pot (Fs := F_law_pot) (a := 6877) (b := 459) (p := 94607) (q := 11335) (r := 866) (t := 2305843009213693921) C h (by decide) (by decide) (by decide) (by decide)
theorem one_of (C : Clo) {M : Mem} {n c : Nat} (hp : PotAt M n c) (hc : c ≤ 10 ^ 9) {ps : List PyData} (hn : ps ≠ []) (hl : ps.length < 2 ^ 30) : ∃ (p : PyData) (M' : Mem), p ∈ ps ∧ f_law_of C [.cel n, .py (.list ps)] M = some (.ok ⟨.py p, false, M'⟩) ∧ PotAt M' n (c + 1) := by
  have h0 : 0 < ps.length := List.length_pos_iff.mpr hn
  obtain ⟨d, M', h1, h2, h3⟩ := take noClo hp hc h0 hl
  refine ⟨ps[d], M', List.getElem_mem h2, ?_, h3⟩
  have e : ixD M' (.py (.list ps)) (.py (ni d)) = some (.py ps[d]) := by
    show (L2.atI ps (d : Int)).map D.py = _
    unfold L2.atI L2.ixN
    rw [if_pos (by omega), if_pos (by omega)]
    simp [h2]
  simp [f_law_of, runF, d_law_of, startN, h1, e]
theorem ne_nilT (l : List Nat) : cm .ne (.py (tn l)) (.py (.tuple [])) = some (!l.isEmpty) := by
  have e : eqP (.py (tn l)) (.py (.tuple [])) = some l.isEmpty := by
    show (if SeqAt.shaped (tn l) && SeqAt.shaped (.tuple []) then some (PyData.eqv (tn l) (.tuple [])) else none) = _
    rw [shaped_tn, show SeqAt.shaped (.tuple []) = true from rfl]
    simp only [Bool.and_self, if_true]
    cases l <;> simp [PyData.eqv, PyData.eqvAll, tn]
  have h : cm .ne (.py (tn l)) (.py (.tuple [])) = notO (eqD (.py (tn l)) (.py (.tuple []))) := rfl
  rw [h]
  unfold eqD orO
  rw [e] <;> rfl
/-! ### washes -/
theorem washes_turn (C : Clo) {M : Mem} {n c many : Nat} (hp : PotAt M n c) (hc : c ≤ 10 ^ 8) (h1 : 1 ≤ many) (h6 : many ≤ 6) (r : List Nat) (ws : List (List Nat × Bool)) (hw : ws.length ≤ 100) (a b d : Slot) :
    ∃ (w : List Nat × Bool) (M' : Mem) (b' d' : Slot), OkL many w.1 ∧ PotAt M' n (c + 10) ∧ evSs F_law_washes (fun _ => C) b_law_washes_1 [some (.cel n, false), some (.py (ni many), false), some (.py (tn r), false), some (.py (.list (ws.map wsh)), true), a, b, d, none] M =
      some (.ok (.nx [some (.cel n, false), some (.py (ni many), false), some (.py (tn r), false), some (.py (.list ((ws ++ [w]).map wsh)), true), a, b', d', none] M')) := by
  have hz : (200 : Nat) ≤ sizeLine := by decide
  have hr := rngL_up (n := many) (by omega)
  obtain ⟨ys, M1, e1, ks, rfl, k1, k2, hp1⟩ := comp_st (Fs := F_law_washes) (C := fun _ => C) (own := [("lot", 7)]) (t := .nm 7) (src := .rng1 (.var 1)) (cond := .cmp (.call 18 (.cons false (.var 0) (.cons false (.lit (.int 2)) .nil))) [.eq] (.cons false (.lit (.int 0)) .nil)) (elt := .var 7)
    (ρ := [some (.cel n, false), some (.py (ni many), false), some (.py (tn r), false), some (.py (.list (ws.map wsh)), true), a, b, d, none]) (M := M) (sd := .ml ((List.range many).map (D.py ∘ ni))) (sm := .sh) (M' := M) (ρ' := [some (.cel n, false), some (.py (ni many), false), some (.py (tn r), false), some (.py (.list (ws.map wsh)), true), a, b, d, none]) (ρw := [some (.cel n, false), some (.py (ni many), false), some (.py (tn r), false), some (.py (.list (ws.map wsh)), true), a, b, d, none])
    (D.py ∘ ni) (fun x => [some (.cel n, false), some (.py (ni many), false), some (.py (tn r), false), some (.py (.list (ws.map wsh)), true), a, b, d, some (.py (ni x), false)])
    (fun done rs M => ∃ ks : List Nat, rs = ks.map (D.py ∘ ni) ∧ ks.Pairwise (· < ·) ∧ (∀ x ∈ ks, x < done.length) ∧ PotAt M n (c + done.length)) (List.range many)
    (by simp [hr, Function.comp_def]) (by simp) (by simp; omega) rfl ⟨[], rfl, .nil, (fun _ h => nomatch h), hp⟩ (fun _ _ => rfl)
    (fun done x rest rs M e ⟨ks, q1, q2, q3, q4⟩ => by
      obtain ⟨rfl, hlen, _⟩ := rng_pre e
      obtain ⟨v, M1, t1, t2, t3⟩ := take noClo q4 (by omega) (u := 2) (by decide) (by decide)
      have t1' : f_law_take noClo [.cel n, .py (.int 2)] M = some (.ok ⟨.py (ni v), false, M1⟩) := t1
      refine ⟨.py (.bool ((v : Int) == 0)), M1, (v : Int) == 0, by simp [t1'], rfl, ?_⟩
      by_cases hv : v = 0
      · subst hv
        refine .inl ⟨rfl, .py (ni done.length), .sh, M1, by simp, rfl, ks ++ [done.length], by rw [q1]; simp, List.pairwise_append.mpr ⟨q2, List.pairwise_singleton _ _, fun x hx y hy => by
          rw [List.mem_singleton.mp hy]
          exact q3 x hx⟩, fun x hx => ?_, by rw [List.length_append, List.length_singleton]; exact t3.mono (by omega)⟩
        rw [List.length_append, List.length_singleton]
        rcases List.mem_append.mp hx with hx | hx
        · have := q3 x hx
          omega
        · rw [List.mem_singleton.mp hx]
          omega
      · refine .inr ⟨by rw [beq_eq_false_iff_ne]; omega, rfl, ks, q1, q2, fun x hx => ?_, by rw [List.length_append, List.length_singleton]; exact t3.mono (by omega)⟩
        have := q3 x hx
        rw [List.length_append, List.length_singleton]
        omega) rfl
  rw [List.length_range] at k2 hp1
  have hm : mkL (ks.map (D.py ∘ ni)) = .py (.list (ks.map ni)) := mkL_map ni ks
  rw [hm] at e1
  have e1' : evE F_law_washes (fun _ => C) c_law_washes_1 [some (.cel n, false), some (.py (ni many), false), some (.py (tn r), false), some (.py (.list (ws.map wsh)), true), a, b, d, none] M = some (.ok ⟨.py (.list (ks.map ni)), .fr, [some (.cel n, false), some (.py (ni many), false), some (.py (tn r), false), some (.py (.list (ws.map wsh)), true), a, b, d, none], M1⟩) := e1
  -- the load
  have hload : ∃ (l : List Nat) (M2 : Mem), OkL many l ∧ PotAt M2 n (c + many + 1) ∧ evE F_law_washes (fun _ => C) (.ite (.cmp (.var 5) [.ne] (.cons false (.tup .nil) .nil)) (.var 5) (.tup (.cons false (.call 18 (.cons false (.var 0) (.cons false (.var 1) .nil))) .nil))) [some (.cel n, false), some (.py (ni many), false), some (.py (tn r), false), some (.py (.list (ws.map wsh)), true), a, some (.py (tn ks), false), d, none] M1 = some (.ok ⟨.py (tn l), .sh, [some (.cel n, false), some (.py (ni many), false), some (.py (tn r), false), some (.py (.list (ws.map wsh)), true), a, some (.py (tn ks), false), d, none], M2⟩) := by
    by_cases hk : ks = []
    · obtain ⟨v, M2, t1, t2, t3⟩ := take noClo hp1 (by omega) (u := many) (by omega) (by omega)
      refine ⟨[v], M2, ⟨by simp, List.pairwise_singleton _ _, fun x hx => by rw [List.mem_singleton.mp hx]; exact t2⟩, t3, ?_⟩
      subst hk
      have := ne_nilT []
      have t1' : f_law_take noClo [.cel n, .py (.int (many : Int))] M1 = some (.ok ⟨.py (ni v), false, M2⟩) := t1
      simp [this, t1', show (0 : Nat) ≤ sizeLine from by omega, show (1 : Nat) ≤ sizeLine from by omega]
      rfl
    · refine ⟨ks, M1, ⟨hk, k1, k2⟩, hp1.mono (by omega), ?_⟩
      have := ne_nilT ks
      simp [this, show (0 : Nat) ≤ sizeLine from by omega, hk]
  obtain ⟨l, M2, hl, hp2, e2⟩ := hload
  have hll := hl.len
  have e3 : ∀ M, evE F_law_washes (fun _ => C) c_law_washes_2 [some (.cel n, false), some (.py (ni many), false), some (.py (tn r), false), some (.py (.list (ws.map wsh)), true), a, some (.py (tn l), false), d, none] M = some (.ok ⟨.py (.list (l.map fun x => .bool (has r x))), .fr, [some (.cel n, false), some (.py (ni many), false), some (.py (tn r), false), some (.py (.list (ws.map wsh)), true), a, some (.py (tn l), false), d, none], M⟩) := fun M =>
    comp_map (.py ∘ ni) (fun x => .bool (has r x)) (fun x => [some (.cel n, false), some (.py (ni many), false), some (.py (tn r), false), some (.py (.list (ws.map wsh)), true), a, some (.py (tn l), false), d, some (.py (ni x), false)]) l (sd := .py (tn l)) (sm := .sh) (by simp [tn]) (by simp [tn]) (by omega) rfl (fun _ _ => rfl) (fun x _ => ⟨.sh, by simp [in_tn], rfl⟩) (fun _ _ => rfl) rfl
  have hany := anyb (fun x => has r x) l
  obtain ⟨v, M3, t1, t2, t3⟩ := take noClo hp2 (by omega) (u := 12) (by decide) (by decide)
  have t1' : f_law_take noClo [.cel n, .py (.int 12)] M2 = some (.ok ⟨.py (ni v), false, M3⟩) := t1
  refine ⟨(l, if 0 < v then l.any fun x => has r x else !(l.any fun x => has r x)), M3, some (.py (tn l), false), some (.py (.bool (l.any fun x => has r x)), false), hl, t3.mono (by omega), ?_⟩
  have ht : bi .tuple [.py (.list (ks.map ni))] = some (.py (tn ks), false) := rfl
  unfold b_law_washes_1
  rw [ss_cons, t_asg, e_bi]
  simp only [l_cons, l_nil, bz_ok, e1', List.map_cons, List.map_nil, ht, liftO_s, mdOf_f, st_sh, List.set_cons_succ, List.set_cons_zero, ob_s, fz_fr]
  rw [ss_cons, t_asg, e2]
  simp only [bz_ok, st_sh, List.set_cons_succ, List.set_cons_zero, ob_s]
  by_cases hv : 0 < v
  · simp [e3, hany, t1', hv, show ws.length < sizeLine from by omega, show (2 : Nat) ≤ sizeLine from by omega, wsh]
  · simp [e3, hany, t1', hv, show ws.length < sizeLine from by omega, show (2 : Nat) ≤ sizeLine from by omega, wsh]
end k28

namespace k28
open Ev PySem
theorem washes (C : Clo) {M : Mem} {n c many : Nat} (hp : PotAt M n c) (hc : c ≤ 10 ^ 7) (h1 : 1 ≤ many) (h6 : many ≤ 6) (r : List Nat) : ∃ (ws : List (List Nat × Bool)) (M' : Mem), f_law_washes C [.cel n, .py (ni many), .py (tn r)] M = some (.ok ⟨.py (wss ws), false, M'⟩) ∧ (∀ w ∈ ws, OkL many w.1) ∧ ws.length ≤ 6 ∧ PotAt M' n (c + 100) := by
  have hz : (200 : Nat) ≤ sizeLine := by decide
  obtain ⟨k, M1, t1, t2, t3⟩ := take noClo hp (by omega) (u := 7) (by decide) (by decide)
  have t1' : f_law_take noClo [.cel n, .py (.int 7)] M = some (.ok ⟨.py (ni k), false, M1⟩) := t1
  have hr := rngL_up (n := k) (by omega)
  obtain ⟨ρ', M', e1, ws, a, b, d, hI, hw, hl, hp2⟩ := forE_inv (Fs := F_law_washes) (C := fun _ => C) (t := .nm 4) (body := b_law_washes_1) (D.py ∘ ni)
    (fun done ρ M' => ∃ (ws : List (List Nat × Bool)) (a b d : Slot), ρ = [some (.cel n, false), some (.py (ni many), false), some (.py (tn r), false), some (.py (.list (ws.map wsh)), true), a, b, d, none] ∧ (∀ w ∈ ws, OkL many w.1) ∧ ws.length = done.length ∧ PotAt M' n (c + 1 + 10 * done.length))
    (List.range k) [some (.cel n, false), some (.py (ni many), false), some (.py (tn r), false), some (.py (.list []), true), none, none, none, none] M1 ⟨[], none, none, none, rfl, (fun _ h => nomatch h), rfl, t3⟩
    (fun done x rest ρ M e ⟨ws, a, b, d, hI, hw, hl, hp⟩ => by
      subst hI
      obtain ⟨rfl, hlen, _⟩ := rng_pre e
      obtain ⟨w, M', b', d', q1, q2, q3⟩ := washes_turn C hp (by omega) h1 h6 r ws (by omega) (some (.py (ni done.length), false)) b d
      refine ⟨_, rfl, _, M', q3, ws ++ [w], _, b', d', rfl, fun v hv => ?_, by simp [hl], q2.mono (by simp; omega)⟩
      rcases List.mem_append.mp hv with hv | hv
      · exact hw v hv
      · rw [List.mem_singleton.mp hv]
        exact q1)
  subst hI
  rw [List.length_range] at hl hp2
  refine ⟨ws, M', ?_, hw, by omega, hp2.mono (by omega)⟩
  have e1' : forE F_law_washes (fun _ => C) (.nm 4) b_law_washes_1 ((List.range k).map fun (i : Nat) => D.py (.int (i : Int))) [some (.cel n, false), some (.py (ni many), false), some (.py (tn r), false), some (.py (.list []), true), none, none, none, none] M1 = _ := e1
  simp [f_law_washes, runF, d_law_washes, startN, l_law_washes_1, t1', hr, e1', show (0 : Nat) ≤ sizeLine from by omega]
  rfl
/-! ### what is refused -/
def Calls (k : Nat) : Prop := k = 16 ∨ k = 12 ∨ k = 17 ∨ k = 13
/-- the call of k hands the check's error out -/
theorem call_er {k : Nat} (hk : Calls k) {a b c d : D} {M : Mem} {e : Nat} {p : PyData} (h : f_check_case noClo [a, b, c, d] M = some (.er e p M)) :
    ∃ f, F_law_are_refused[k]? = some f ∧ f noClo [a, b, c, d] M = some (.er e p M) := by
  rcases hk with rfl | rfl | rfl | rfl
  · exact ⟨f_may_have, rfl, by simp [f_may_have, runF, d_may_have, startN, h]⟩
  · exact ⟨f_told, rfl, by simp [f_told, runF, d_told, startN, h]⟩
  · exact ⟨f_first_wrong, rfl, by simp [f_first_wrong, runF, d_first_wrong, startN, h]⟩
  · exact ⟨f_next_load, rfl, by simp [f_next_load, runF, d_next_load, startN, h]⟩
def wordOf : Nat → Str
  | 1 => "lots"
  | 3 => "washes"
  | _ => "number"
def Kind (e : Nat) : Prop := e = 1 ∨ e = 3 ∨ e = 2
/-- a row: what is handed, the error that comes -/
structure Row where
  v0 : PyData
  v1 : PyData
  v2 : PyData
  v3 : PyData
  e : Nat
  p : PyData
def Row.py (r : Row) : PyData := .tuple [.tuple [r.v0, r.v1, r.v2, r.v3], .str (wordOf r.e), r.p]
structure RowOk (r : Row) (M : Mem) : Prop where
  k : Kind r.e
  er : f_check_case noClo [.py r.v0, .py r.v1, .py r.v2, .py r.v3] M = some (.er r.e r.p M)
  rp : Rp 10 100000 r.p
@[simp] theorem frz_any (s : Slot) (ρ : Nv) : frzAll (s :: ρ) = (s.map fun p => (p.1, false)) :: frzAll ρ := rfl
/-- the state -/
def stR (x0 x1 x2 x3 x4 x5 : D) (k : Nat) (x7 x8 : D) (s9 a b c d e : Slot) : Nv := [some (x0, false), some (x1, false), some (x2, false), some (x3, false), some (x4, false), some (x5, false), some (.fn k, false), some (x7, false), some (x8, false), s9, a, b, c, d, e, none, none]
theorem isi_e (c e : Nat) (p : PyData) : Ev.isi (.exc c) (.exc e p) = some (e == c || c == 0) := rfl
theorem attr_e (e : Nat) (p : PyData) : attrD (.exc e p) = some (.py p) := rfl
theorem ix_mt0 (M : Mem) (d e : D) : ixD M (.mt [d, e]) (.py (.int 0)) = some d := rfl
theorem ix_v0 (M : Mem) (a b c d : PyData) : ixD M (.py (.tuple [a, b, c, d])) (.py (.int 0)) = some (.py a) := rfl
theorem ix_v1 (M : Mem) (a b c d : PyData) : ixD M (.py (.tuple [a, b, c, d])) (.py (.int 1)) = some (.py b) := rfl
theorem ix_v2 (M : Mem) (a b c d : PyData) : ixD M (.py (.tuple [a, b, c, d])) (.py (.int 2)) = some (.py c) := rfl
theorem ix_v3 (M : Mem) (a b c d : PyData) : ixD M (.py (.tuple [a, b, c, d])) (.py (.int 3)) = some (.py d) := rfl
def kindsB (e : Nat) : List (Bool × Str) := [(e == 1, "lots"), (e == 3, "washes"), (e == 2, "number")]
def kp (x : Bool × Str) : PyData := .tuple [.bool x.1, .str x.2]
theorem kinds_word {e : Nat} (h : Kind e) : cm .ne (.py (.list (((kindsB e).filter (·.1)).map fun x => .str x.2))) (.py (.list [.str (wordOf e)])) = some false := by
  rcases h with rfl | rfl | rfl <;> kernel_rfl
theorem c_kinds (C : Clo) (M : Mem) (x0 x1 x2 x3 x4 x5 : D) (k : Nat) (x7 x8 : D) (s9 a b c d : Slot) (e : Nat) : evE F_law_are_refused (fun _ => C) c_law_are_refused_1 (stR x0 x1 x2 x3 x4 x5 k x7 x8 s9 a b c d (some (.py (.list ((kindsB e).map kp)), true))) M =
    some (.ok ⟨.py (.list (((kindsB e).filter (·.1)).map fun x => .str x.2)), .fr, stR x0 x1 x2 x3 x4 x5 k x7 x8 s9 a b c d (some (.py (.list ((kindsB e).map kp)), true)), M⟩) :=
  comp_filter (.py ∘ kp) (·.1) (fun x => .str x.2) (fun x => [some (x0, false), some (x1, false), some (x2, false), some (x3, false), some (x4, false), some (x5, false), some (.fn k, false), some (x7, false), some (x8, false), s9, a, b, c, d, some (.py (.list ((kindsB e).map kp)), true), some (.py (.bool x.1), false), some (.py (.str x.2), false)]) (kindsB e) (sd := .py (.list ((kindsB e).map kp))) (sm := .bo 14) (by simp [stR]) (by simp) (show 3 ≤ sizeLine by decide) rfl (fun _ _ => rfl)
    (fun x _ => ⟨.py (.bool x.1), by simp, rfl⟩) (fun x _ _ => ⟨.sh, by simp, rfl⟩) (fun _ _ => rfl) rfl
theorem row_turn (C : Clo) (M : Mem) (x0 x1 x2 x3 x4 x5 x7 x8 : D) (s9 a b c d e : Slot) {k : Nat} (hk : Calls k) {r : Row} (h : RowOk r M) :
    ∃ ρ1, bindT (.tp [.nm 10, .nm 11, .nm 12]) (.py r.py) (stR x0 x1 x2 x3 x4 x5 k x7 x8 s9 a b c d e) = some ρ1 ∧ ∃ s9' a b c d e : Slot, evSs F_law_are_refused (fun _ => C) b_law_are_refused_2 ρ1 M = some (.ok (.nx (stR x0 x1 x2 x3 x4 x5 k x7 x8 s9' a b c d e) M)) := by
  obtain ⟨f, hf, he⟩ := call_er hk h.er
  refine ⟨stR x0 x1 x2 x3 x4 x5 k x7 x8 s9 (some (.py (.tuple [r.v0, r.v1, r.v2, r.v3]), false)) (some (.py (.str (wordOf r.e)), false)) (some (.py r.p, false)) d e, rfl, ?_⟩
  have hcv : callV F_law_are_refused k = callF f := by
    funext a
    unfold callV
    rw [hf]
    rfl
  have hks : k = 12 ∨ k = 13 ∨ k = 16 ∨ k = 17 := by unfold Calls at hk; omega
  have hrepr := repr_ok h.rp (by decide) (by decide)
  have hne : cm .ne (.py (.str r.p.shown)) (.py (.str r.p.shown)) = some false := by rw [ne_s]; simp
  have h1 : evE F_law_are_refused (fun _ => C) (.hearL (.cv [12, 13, 16, 17] (.var 6) (.cons false (.ix (.var 10) (.lit (.int 0))) (.cons false (.ix (.var 10) (.lit (.int 1))) (.cons false (.ix (.var 10) (.lit (.int 2))) (.cons false (.ix (.var 10) (.lit (.int 3))) .nil))))))
      (stR x0 x1 x2 x3 x4 x5 k x7 x8 s9 (some (.py (.tuple [r.v0, r.v1, r.v2, r.v3]), false)) (some (.py (.str (wordOf r.e)), false)) (some (.py r.p, false)) d e) M = some (.ok ⟨.mt [.exc r.e r.p, .py .none], .sh, stR x0 x1 x2 x3 x4 x5 k x7 x8 (s9.map fun p => (p.1, false)) (some (.py (.tuple [r.v0, r.v1, r.v2, r.v3]), false)) (some (.py (.str (wordOf r.e)), false)) (some (.py r.p, false)) (d.map fun p => (p.1, false)) (e.map fun p => (p.1, false)), M⟩) := by
    simp only [stR]
    simp [ix_v0, ix_v1, ix_v2, ix_v3, hcv, he, hf, hks]
  have hk2 : Ev.allPy [.exc r.e r.p, .py .none] = none := rfl
  refine ⟨s9.map fun p => (p.1, false), some (.py (.tuple [r.v0, r.v1, r.v2, r.v3]), false), some (.py (.str (wordOf r.e)), false), some (.py r.p, false), some (.exc r.e r.p, false), some (.py (.list ((kindsB r.e).map kp)), true), ?_⟩
  have hck := c_kinds C M x0 x1 x2 x3 x4 x5 k x7 x8 (s9.map fun p => (p.1, false)) (some (.py (.tuple [r.v0, r.v1, r.v2, r.v3]), false)) (some (.py (.str (wordOf r.e)), false)) (some (.py r.p, false)) (some (.exc r.e r.p, false)) r.e
  have hkw := kinds_word h.k
  have e1 : ((kindsB r.e).map kp) = [.tuple [.bool (r.e == 1), .str "lots"], .tuple [.bool (r.e == 3), .str "washes"], .tuple [.bool (r.e == 2), .str "number"]] := rfl
  rw [e1] at hck ⊢
  simp only [stR] at h1 hck ⊢
  unfold b_law_are_refused_2
  rw [ss_cons, t_asg, e_ix, h1]
  simp [-e_hearL, ix_mt0, isi_e, attr_e, show (2 : Nat) ≤ sizeLine from by decide, show (2 : Nat) < sizeLine from by decide, show (1 : Nat) ≤ sizeLine from by decide, hck, hkw, hrepr, hne]
end k28

namespace k28
open Ev PySem
theorem rp_tn {l : List Nat} (h : ∀ x ∈ l, x < 1000) (hl : l.length ≤ 6) : Rp 1 300 (tn l) := by
  have := rps_all (d := 0) (w := 40) (ps := l.map ni) fun p hp => by
    obtain ⟨x, hx, rfl⟩ := List.mem_map.mp hp
    have := h x hx
    exact rp_nat (by omega) (Nat.le_refl _)
  exact (rp_tup this).mono (Nat.le_refl _) (by rw [List.length_map]; omega)
theorem rp_wsh {w : List Nat × Bool} (h : ∀ x ∈ w.1, x < 1000) (hl : w.1.length ≤ 6) : Rp 2 310 (wsh w) := by
  have := rps_cons (rp_tn h hl) (rps_cons (rp_bool (d := 1) (w := 0) w.2) rps_nil (w' := 0))
  exact (rp_tup this).mono (Nat.le_refl _) (by omega)
theorem rps_wss {ws : List (List Nat × Bool)} (h : ∀ w ∈ ws, ∀ x ∈ w.1, x < 1000) (h2 : ∀ w ∈ ws, w.1.length ≤ 6) : Rps 2 (311 * ws.length) (ws.map wsh) := by
  have := rps_all (d := 2) (w := 310) (ps := ws.map wsh) fun p hp => by
    obtain ⟨w, hw, rfl⟩ := List.mem_map.mp hp
    exact rp_wsh (h w hw) (h2 w hw)
  rw [List.length_map] at this
  exact this
def w0 : List Nat × Bool := ([0], true)
def w31 : List PyData := List.replicate 31 (wsh w0)
def longW (ws : List (List Nat × Bool)) : PyData := .tuple (ws.map wsh ++ w31)
theorem rep31 : o2 .mul (.py (.tuple [.tuple [.tuple [.int 0], .bool true]])) (.py (.int 31)) = some (.py (.tuple w31), false) := by kernel_rfl
theorem rp3 : Rp 10 100000 (.str "3") := ⟨rfl, rfl, by decide, by decide +kernel, by decide, by decide +kernel⟩
/-- what is drawn to be refused -/
def bads : List PyData := [.none, .int 0, .int 13, .bool true, .str "3"]
def odds (many : Nat) (ws : List (List Nat × Bool)) : List PyData := [.none, .list (ws.map wsh), .tuple [.tuple [.tuple [], .bool true]], .tuple [.tuple [.tuple [.int 0, .int 0], .bool true]], .tuple [.tuple [.tuple [ni many], .bool true]], .tuple [.tuple [.tuple [.int 0], .int 1]], .tuple [.tuple [.int 0]]]
def lesses (top : Nat) : List PyData := [.none, .int (-1), .int ((top : Int) + 1), .bool true]
def mores (top : Nat) : List PyData := [.none, .int 0, .int ((top : Int) + 1), .bool true]
theorem bad_er (C : Clo) (M : Mem) {p : PyData} (h : p ∈ bads) (a b c : D) : f_check_case C [.py p, a, b, c] M = some (.er 1 p M) := by
  simp only [bads, List.mem_cons, List.mem_nil_iff, or_false] at h
  rcases h with rfl | rfl | rfl | rfl | rfl <;> kernel_rfl
theorem odd_er (C : Clo) (M : Mem) {many : Nat} (h1 : 1 ≤ many) (h6 : many ≤ 6) {ws : List (List Nat × Bool)} {p : PyData} (h : p ∈ odds many ws) (b c : D) : f_check_case C [.py (ni many), .py p, b, c] M = some (.er 3 p M) := by
  have hm : many = 1 ∨ many = 2 ∨ many = 3 ∨ many = 4 ∨ many = 5 ∨ many = 6 := by omega
  simp only [odds, List.mem_cons, List.mem_nil_iff, or_false] at h
  rcases hm with rfl | rfl | rfl | rfl | rfl | rfl <;> rcases h with rfl | rfl | rfl | rfl | rfl | rfl | rfl <;> kernel_rfl
section
variable {many : Nat} {ws : List (List Nat × Bool)}
structure GoodW (many : Nat) (ws : List (List Nat × Bool)) : Prop where
  m1 : 1 ≤ many
  m6 : many ≤ 6
  wk : ∀ w ∈ ws, OkL many w.1
  wl : ws.length ≤ 6
theorem less_er (g : GoodW many ws) (C : Clo) (M : Mem) {p q : PyData} (h : p ∈ lesses (min many 3)) : f_check_case C [.py (ni many), .py (wss ws), .py p, .py q] M = some (.er 2 p M) := by
  have e := s_check C M g.wk g.m1 (by have := g.m6; omega) (by have := g.wl; omega) p q
  have h0 : isI p 0 (min many 3 : Nat) = false := by
    simp only [lesses, List.mem_cons, List.mem_nil_iff, or_false] at h
    rcases h with rfl | rfl | rfl | rfl <;> simp [isI] <;> omega
  rw [h0] at e
  exact e
theorem more_er (g : GoodW many ws) (C : Clo) (M : Mem) {p : PyData} (h : p ∈ mores (min many 3)) : f_check_case C [.py (ni many), .py (wss ws), .py (.int 1), .py p] M = some (.er 2 p M) := by
  have e := s_check C M g.wk g.m1 (by have := g.m6; omega) (by have := g.wl; omega) (.int 1) p
  have m1 := g.m1
  have h1 : isI (.int 1) 0 (min many 3 : Nat) = true := by simp [isI]; omega
  have h0 : isI p 1 (min many 3 : Nat) = false := by
    simp only [mores, List.mem_cons, List.mem_nil_iff, or_false] at h
    rcases h with rfl | rfl | rfl | rfl <;> simp [isI] <;> omega
  simp only [h1, h0, if_true] at e
  exact e
theorem long_er (g : GoodW many ws) (C : Clo) (M : Mem) (p q : D) : f_check_case C [.py (ni many), .py (longW ws), p, q] M = some (.er 3 (longW ws) M) := by
  have ht : f_is_tuple noClo [.py (longW ws), .py (.int 0), .py (.int 30)] M = some (.ok ⟨.py (.bool false), false, M⟩) := by
    unfold longW
    rw [s_is_tuple]
    have : decide ((((ws.map wsh ++ w31).length : Nat) : Int) ≤ 30) = false := by
      rw [List.length_append, show w31.length = 31 from rfl]
      exact decide_eq_false (by omega)
    rw [this, Bool.and_false]
  have hm := g.m6
  simp [f_check_case, runF, d_check_case, startN, s_check_many noClo M g.m1 (by omega), ht]
def rowsB (many : Nat) (ws : List (List Nat × Bool)) (bad odd less more : PyData) : List Row := [⟨bad, odd, less, more, 1, bad⟩, ⟨ni many, odd, less, more, 3, odd⟩, ⟨ni many, wss ws, less, more, 2, less⟩, ⟨ni many, wss ws, .int 1, more, 2, more⟩, ⟨ni many, longW ws, .int 1, .int 1, 3, longW ws⟩]
theorem GoodW.rp (g : GoodW many ws) : Rps 2 2000 (ws.map wsh) := by
  have h6 := g.m6
  have := rps_wss (ws := ws) (fun w hw x hx => by have := (g.wk w hw).lt x hx; omega) fun w hw => by have := (g.wk w hw).len.2; omega
  have hl := g.wl
  exact this.mono (Nat.le_refl _) (by omega)
theorem rows_ok (g : GoodW many ws) (M : Mem) {bad odd less more : PyData} (hb : bad ∈ bads) (ho : odd ∈ odds many ws) (hl : less ∈ lesses (min many 3)) (hm : more ∈ mores (min many 3)) : ∀ r ∈ rowsB many ws bad odd less more, RowOk r M := by
  intro r hr
  have h6 := g.m6
  have hwl := g.wl
  simp only [rowsB, List.mem_cons, List.mem_nil_iff, or_false] at hr
  rcases hr with rfl | rfl | rfl | rfl | rfl
  · refine ⟨.inl rfl, bad_er _ _ hb _ _ _, ?_⟩
    simp only [bads, List.mem_cons, List.mem_nil_iff, or_false] at hb
    rcases hb with rfl | rfl | rfl | rfl | rfl
    · exact rp_non
    · exact rp_int (by decide) (by decide)
    · exact rp_int (by decide) (by decide)
    · exact rp_bool _
    · exact rp3
  · refine ⟨.inr (.inl rfl), odd_er _ _ g.m1 g.m6 ho _ _, ?_⟩
    simp only [odds, List.mem_cons, List.mem_nil_iff, or_false] at ho
    have sm : ∀ n : Nat, n ≤ 10 → Rp 0 40 (ni n) := fun n hn => rp_nat (by omega) (Nat.le_refl _)
    have s0 : Rp 0 40 (.int 0) := rp_int (by decide) (by decide)
    have s1 : Rp 0 40 (.int 1) := rp_int (by decide) (by decide)
    rcases ho with rfl | rfl | rfl | rfl | rfl | rfl | rfl
    · exact rp_non
    · exact (rp_lst g.rp).mono (by decide) (by decide)
    · exact (rp_tup (rps_cons (rp_tup (rps_cons (rp_tup (rps_nil (d := 0) (w := 0))) (rps_cons (rp_bool (d := 1) (w := 0) true) (rps_nil (w := 0))))) (rps_nil (w := 0)))).mono (by decide) (by decide)
    · exact (rp_tup (rps_cons (rp_tup (rps_cons (rp_tup (rps_cons s0 (rps_cons s0 (rps_nil (w := 0))))) (rps_cons (rp_bool (d := 1) (w := 0) true) (rps_nil (w := 0))))) (rps_nil (w := 0)))).mono (by decide) (by decide)
    · exact (rp_tup (rps_cons (rp_tup (rps_cons (rp_tup (rps_cons (sm many (by omega)) (rps_nil (w := 0)))) (rps_cons (rp_bool (d := 1) (w := 0) true) (rps_nil (w := 0))))) (rps_nil (w := 0)))).mono (by decide) (by decide)
    · exact (rp_tup (rps_cons (rp_tup (rps_cons (rp_tup (rps_cons s0 (rps_nil (w := 0)))) (rps_cons (s1.mono (by decide) (Nat.le_refl _)) (rps_nil (w := 0))))) (rps_nil (w := 0)))).mono (by decide) (by decide)
    · exact (rp_tup (rps_cons (rp_tup (rps_cons s0 (rps_nil (w := 0)))) (rps_nil (w := 0)))).mono (by decide) (by decide)
  · refine ⟨.inr (.inr rfl), less_er g _ _ hl, ?_⟩
    simp only [lesses, List.mem_cons, List.mem_nil_iff, or_false] at hl
    rcases hl with rfl | rfl | rfl | rfl
    · exact rp_non
    · exact rp_int (by decide) (by decide)
    · exact rp_int (by omega) (by decide)
    · exact rp_bool _
  · refine ⟨.inr (.inr rfl), more_er g _ _ hm, ?_⟩
    simp only [mores, List.mem_cons, List.mem_nil_iff, or_false] at hm
    rcases hm with rfl | rfl | rfl | rfl
    · exact rp_non
    · exact rp_int (by decide) (by decide)
    · exact rp_int (by omega) (by decide)
    · exact rp_bool _
  · refine ⟨.inr (.inl rfl), long_er g _ _ _ _, ?_⟩
    have hr : Rps 2 (311 * 31) w31 := by
      unfold w31
      have := rps_all (d := 2) (w := 310) (ps := List.replicate 31 (wsh w0)) fun p hp => by
        rw [(List.mem_replicate.mp hp).2]
        exact rp_wsh (fun x hx => by simp [w0] at hx; omega) (by simp [w0])
      rw [List.length_replicate] at this
      exact this
    exact (rp_tup (rps_app g.rp hr)).mono (by decide) (by decide)
/-- the rows, for one call -/
theorem rows_go (g : GoodW many ws) (C : Clo) (M : Mem) (x0 : D) {bad odd less more : PyData} (top : Nat) (hb : bad ∈ bads) (ho : odd ∈ odds many ws) (hl : less ∈ lesses (min many 3)) (hm : more ∈ mores (min many 3)) {k : Nat} (hk : Calls k) (s9 a b c d e : Slot) :
    ∃ s9' a' b' c' d' e' : Slot, evSs F_law_are_refused (fun _ => C) b_law_are_refused_1 (stR x0 (.py (ni many)) (.py (wss ws)) (.py bad) (.py odd) (.py (ni top)) k (.py less) (.py more) s9 a b c d e) M = some (.ok (.nx (stR x0 (.py (ni many)) (.py (wss ws)) (.py bad) (.py odd) (.py (ni top)) k (.py less) (.py more) s9' a' b' c' d' e') M)) := by
  have hz : (200 : Nat) ≤ sizeLine := by decide
  have hwl := g.wl
  obtain ⟨ρ', M', e1, hM, s9', a', b', c', d', e', hI⟩ := forE_inv (Fs := F_law_are_refused) (C := fun _ => C) (t := .tp [.nm 10, .nm 11, .nm 12]) (body := b_law_are_refused_2) (fun r : Row => D.py r.py)
    (fun done ρ M' => M = M' ∧ ∃ s9 a b c d e : Slot, ρ = stR x0 (.py (ni many)) (.py (wss ws)) (.py bad) (.py odd) (.py (ni top)) k (.py less) (.py more) s9 a b c d e)
    (rowsB many ws bad odd less more) (stR x0 (.py (ni many)) (.py (wss ws)) (.py bad) (.py odd) (.py (ni top)) k (.py less) (.py more) (some (.py (.list ((rowsB many ws bad odd less more).map Row.py)), false)) a b c d e) M ⟨rfl, _, _, _, _, _, _, rfl⟩
    (fun done r rest ρ M' eq ⟨hM, s9, a, b, c, d, e, hI⟩ => by
      subst hM hI
      have hr : r ∈ rowsB many ws bad odd less more := by rw [eq]; simp
      obtain ⟨ρ1, h1, s9', a', b', c', d', e', h2⟩ := row_turn C M x0 (.py (ni many)) (.py (wss ws)) (.py bad) (.py odd) (.py (ni top)) (.py less) (.py more) s9 a b c d e hk (rows_ok g M hb ho hl hm r hr)
      exact ⟨ρ1, h1, _, M, h2, rfl, _, _, _, _, _, _, rfl⟩)
  subst hM hI
  refine ⟨s9', a', b', c', d', e', ?_⟩
  have hadd : o2 .add (.py (wss ws)) (.py (.tuple w31)) = some (.py (longW ws), false) := by
    unfold wss longW
    rw [add_t, if_pos (by rw [List.length_map, show w31.length = 31 from rfl]; omega)]
  have hrow : (rowsB many ws bad odd less more).map (fun r => D.py r.py) = [D.py (.tuple [.tuple [bad, odd, less, more], .str "lots", bad]), D.py (.tuple [.tuple [ni many, odd, less, more], .str "washes", odd]), D.py (.tuple [.tuple [ni many, wss ws, less, more], .str "number", less]), D.py (.tuple [.tuple [ni many, wss ws, .int 1, more], .str "number", more]), D.py (.tuple [.tuple [ni many, longW ws, .int 1, .int 1], .str "washes", longW ws])] := rfl
  have hrow2 : (rowsB many ws bad odd less more).map Row.py = [.tuple [.tuple [bad, odd, less, more], .str "lots", bad], .tuple [.tuple [ni many, odd, less, more], .str "washes", odd], .tuple [.tuple [ni many, wss ws, less, more], .str "number", less], .tuple [.tuple [ni many, wss ws, .int 1, more], .str "number", more], .tuple [.tuple [ni many, longW ws, .int 1, .int 1], .str "washes", longW ws]] := rfl
  rw [hrow, hrow2] at e1
  simp only [stR] at e1 ⊢
  simp [b_law_are_refused_1, l_law_are_refused_2, show (1 : Nat) ≤ sizeLine from by omega, show (2 : Nat) ≤ sizeLine from by omega, show (3 : Nat) ≤ sizeLine from by omega, show (4 : Nat) ≤ sizeLine from by omega, show (4 : Nat) < sizeLine from by omega, rep31, hadd, e1]
end
end k28

namespace k28
open Ev PySem
section
variable {many : Nat} {ws : List (List Nat × Bool)}
theorem refused (g : GoodW many ws) (C : Clo) {M : Mem} {n c : Nat} (hp : PotAt M n c) (hc : c ≤ 10 ^ 7) : ∃ M', f_law_are_refused C [.cel n, .py (ni many), .py (wss ws)] M = some (.ok ⟨.py (.bool true), false, M'⟩) ∧ PotAt M' n (c + 10) := by
  have hz : (200 : Nat) ≤ sizeLine := by decide
  obtain ⟨bad, M1, b1, b2, hp1⟩ := one_of noClo hp (by omega) (ps := bads) (by simp [bads]) (by decide)
  obtain ⟨odd, M2, o1, o2', hp2⟩ := one_of noClo hp1 (by omega) (ps := odds many ws) (by simp [odds]) (show 7 < 2 ^ 30 by decide)
  obtain ⟨less, M3, l1, l2, hp3⟩ := one_of noClo hp2 (by omega) (ps := lesses (min many 3)) (by simp [lesses]) (show 4 < 2 ^ 30 by decide)
  obtain ⟨more, M4, m1, m2, hp4⟩ := one_of noClo hp3 (by omega) (ps := mores (min many 3)) (by simp [mores]) (show 4 < 2 ^ 30 by decide)
  obtain ⟨ρ', M', e1, hM, s6, s9, a, b, c', d, e, hI⟩ := forE_inv (Fs := F_law_are_refused) (C := fun _ => C) (t := .nm 6) (body := b_law_are_refused_1) (fun k : Nat => D.fn k)
    (fun done ρ M' => M4 = M' ∧ ∃ s6 s9 a b c d e : Slot, ρ = [some (.cel n, false), some (.py (ni many), false), some (.py (wss ws), false), some (.py bad, false), some (.py odd, false), some (.py (ni (min many 3)), false), s6, some (.py less, false), some (.py more, false), s9, a, b, c, d, e, none, none])
    [16, 12, 17, 13] [some (.cel n, false), some (.py (ni many), false), some (.py (wss ws), false), some (.py bad, false), some (.py odd, false), some (.py (ni (min many 3)), false), none, some (.py less, false), some (.py more, false), none, none, none, none, none, none, none, none] M4 ⟨rfl, _, _, _, _, _, _, _, rfl⟩
    (fun done k rest ρ M' eq ⟨hM, s6, s9, a, b, c, d, e, hI⟩ => by
      subst hM hI
      have hk : Calls k := by
        have : k ∈ ([16, 12, 17, 13] : List Nat) := by rw [eq]; simp
        simp at this
        exact this
      obtain ⟨s9', a', b', c', d', e', h2⟩ := rows_go g C M4 (.cel n) (bad := bad) (odd := odd) (less := less) (more := more) (min many 3) b1 o1 l1 m1 hk s9 a b c d e
      exact ⟨_, rfl, _, M4, h2, rfl, some (.fn k, false), _, _, _, _, _, _, rfl⟩)
  subst hM hI
  refine ⟨M4, ?_, hp4.mono (by omega)⟩
  have hmin : bi .min [.py (.int (many : Int)), .py (.int 3)] = some (.py (ni (min many 3)), false) := by
    rw [min_i]
    have : (if (3 : Int) < (many : Int) then (3 : Int) else many) = ((min many 3 : Nat) : Int) := by split <;> omega
    rw [this]
  have b2' : f_law_of noClo [.cel n, .py (.list [.none, .int 0, .int 13, .bool true, .str "3"])] M = some (.ok ⟨.py bad, false, M1⟩) := b2
  have hl : bi .list [.py (wss ws)] = some (.py (.list (ws.map wsh)), true) := rfl
  have o3 : f_law_of noClo [.cel n, .py (.list [.none, .list (ws.map wsh), .tuple [.tuple [.tuple [], .bool true]], .tuple [.tuple [.tuple [.int 0, .int 0], .bool true]], .tuple [.tuple [.tuple [ni many], .bool true]], .tuple [.tuple [.tuple [.int 0], .int 1]], .tuple [.tuple [.int 0]]])] M1 = some (.ok ⟨.py odd, false, M2⟩) := o2'
  have l3 : f_law_of noClo [.cel n, .py (.list [.none, .int (-1), .int (((min many 3 : Nat) : Int) + 1), .bool true])] M2 = some (.ok ⟨.py less, false, M3⟩) := l2
  have m3 : f_law_of noClo [.cel n, .py (.list [.none, .int 0, .int (((min many 3 : Nat) : Int) + 1), .bool true])] M3 = some (.ok ⟨.py more, false, M4⟩) := m2
  generalize min many 3 = top at *
  have e1' : forE F_law_are_refused (fun _ => C) (.nm 6) b_law_are_refused_1 [.fn 16, .fn 12, .fn 17, .fn 13] [some (.cel n, false), some (.py (ni many), false), some (.py (wss ws), false), some (.py bad, false), some (.py odd, false), some (.py (ni top), false), none, some (.py less, false), some (.py more, false), none, none, none, none, none, none, none, none] M4 = _ := e1
  simp [-min_i, f_law_are_refused, runF, d_law_are_refused, startN, b2', hl, o3, hmin, l3, m3, l_law_are_refused_1, e1', show (0 : Nat) ≤ sizeLine from by omega, show (1 : Nat) ≤ sizeLine from by omega, show (2 : Nat) ≤ sizeLine from by omega, show (4 : Nat) ≤ sizeLine from by omega, show (5 : Nat) ≤ sizeLine from by omega, show (7 : Nat) ≤ sizeLine from by omega]
end
end k28

namespace k28
open Ev PySem
/-- the state -/
def stL (x0 x1 x2 x3 x4 x5 x6 x7 x8 x9 x10 x11 x12 x13 x14 x15 x16 : Slot) : Nv := [x0, x1, x2, x3, x4, x5, x6, x7, x8, x9, x10, x11, x12, x13, x14, x15, x16, none]
def wrongB (S : List (List Nat)) (ws : List (List Nat × Bool)) (n : Nat) : Option Nat → Option Nat
  | some k => some k
  | none => firstB S ws n
theorem filter_all (S : List (List Nat)) (w : List Nat × Bool) (ws : List (List Nat × Bool)) : (S.filter fun s => fitsB s w).filter (fun s => ws.all fun v => fitsB s v) = S.filter fun s => (w :: ws).all fun v => fitsB s v := by
  rw [List.filter_filter]
  refine List.filter_congr fun s _ => ?_
  rw [List.all_cons, Bool.and_comm]
theorem wrong_step (S : List (List Nat)) (w : List Nat × Bool) (ws : List (List Nat × Bool)) (n : Nat) (o : Option Nat) :
    wrongB (S.filter fun s => fitsB s w) ws (n + 1) (if ((S.filter fun s => fitsB s w).isEmpty && o.isNone) = true then some n else o) = wrongB S (w :: ws) n o := by
  cases o with
  | some k => simp [wrongB]
  | none =>
    cases q : (S.filter fun s => fitsB s w).isEmpty with
    | true => simp [wrongB, firstB, q]
    | false => simp [wrongB, firstB, q]
theorem is_opt (o : Option Nat) : cm .is (.py (optP o)) (.py .none) = some o.isNone := by cases o <;> rfl
theorem right_go (C : Clo) (M : Mem) (x0 x1 x2 x3 x4 x5 x6 x7 x8 x9 x10 x15 x16 : Slot) : ∀ (ws : List (List Nat × Bool)) (n : Nat) (S : List (List Nat)) (fl : Bool) (o : Option Nat) (a b : Slot), (∀ w ∈ ws, w.1.length ≤ 100) → S.length ≤ 100 →
    ∃ (fl' : Bool) (a' b' : Slot), forE F_law_right (fun _ => C) (.tp [.nm 13, .nm 14]) b_law_right_1 (enuFrom n (ws.map (D.py ∘ wsh))) (stL x0 x1 x2 x3 x4 x5 x6 x7 x8 x9 x10 (some (.py (.list (S.map tn)), fl)) (some (.py (optP o), false)) a b x15 x16) M =
      some (.ok (.nx (stL x0 x1 x2 x3 x4 x5 x6 x7 x8 x9 x10 (some (.py (.list ((S.filter fun s => ws.all fun w => fitsB s w).map tn)), fl')) (some (.py (optP (wrongB S ws n o)), false)) a' b' x15 x16) M))
  | [], n, S, fl, o, a, b, _, _ => ⟨fl, a, b, by
    have e : (S.filter fun s => ([] : List (List Nat × Bool)).all fun w => fitsB s w) = S := List.filter_eq_self.mpr fun _ _ => rfl
    rw [e]
    cases o <;> rfl⟩
  | w :: ws, n, S, fl, o, a, b, hw, hS => by
    have hz : (200 : Nat) ≤ sizeLine := by decide
    obtain ⟨fl', a', b', ih⟩ := right_go C M x0 x1 x2 x3 x4 x5 x6 x7 x8 x9 x10 x15 x16 ws (n + 1) (S.filter fun s => fitsB s w) true (if ((S.filter fun s => fitsB s w).isEmpty && o.isNone) = true then some n else o) (some (.py (ni n), false)) (some (.py (wsh w), false)) (fun v hv => hw v (List.mem_cons_of_mem _ hv)) (Nat.le_trans (List.length_filter_le _ _) hS)
    rw [wrong_step, filter_all] at ih
    refine ⟨fl', a', b', ?_⟩
    have hc : evE F_law_right (fun _ => C) c_law_right_1 (stL x0 x1 x2 x3 x4 x5 x6 x7 x8 x9 x10 (some (.py (.list (S.map tn)), fl)) (some (.py (optP o), false)) (some (.py (ni n), false)) (some (.py (wsh w), false)) x15 x16) M = some (.ok ⟨.py (.list ((S.filter fun s => fitsB s w).map tn)), .fr, stL x0 x1 x2 x3 x4 x5 x6 x7 x8 x9 x10 (some (.py (.list (S.map tn)), fl)) (some (.py (optP o), false)) (some (.py (ni n), false)) (some (.py (wsh w), false)) x15 x16, M⟩) :=
      comp_filter (.py ∘ tn) (fun s => fitsB s w) tn (fun s => [x0, x1, x2, x3, x4, x5, x6, x7, x8, x9, x10, some (.py (.list (S.map tn)), fl), some (.py (optP o), false), some (.py (ni n), false), some (.py (wsh w), false), x15, x16, some (.py (tn s), false)]) S (sd := .py (.list (S.map tn))) (sm := if fl = true then .bo 11 else .sh) (by cases fl <;> simp [stL]) (by simp) (by omega) rfl (fun _ _ => rfl)
        (fun s _ => ⟨.py (.bool (fitsB s w)), by simp [s_law_fits noClo M s w (hw w List.mem_cons_self)], rfl⟩) (fun s _ _ => ⟨.sh, by simp, rfl⟩) (fun _ _ => rfl) rfl
    have he : enuFrom n ((w :: ws).map (D.py ∘ wsh)) = mkT [.py (ni n), .py (wsh w)] :: enuFrom (n + 1) (ws.map (D.py ∘ wsh)) := rfl
    have hb : bindT (.tp [.nm 13, .nm 14]) (mkT [.py (ni n), .py (wsh w)]) (stL x0 x1 x2 x3 x4 x5 x6 x7 x8 x9 x10 (some (.py (.list (S.map tn)), fl)) (some (.py (optP o), false)) a b x15 x16) = some (stL x0 x1 x2 x3 x4 x5 x6 x7 x8 x9 x10 (some (.py (.list (S.map tn)), fl)) (some (.py (optP o), false)) (some (.py (ni n), false)) (some (.py (wsh w), false)) x15 x16) := rfl
    rw [he, forE_cons, hb, ob_s]
    have ht : evSs F_law_right (fun _ => C) b_law_right_1 (stL x0 x1 x2 x3 x4 x5 x6 x7 x8 x9 x10 (some (.py (.list (S.map tn)), fl)) (some (.py (optP o), false)) (some (.py (ni n), false)) (some (.py (wsh w), false)) x15 x16) M = some (.ok (.nx (stL x0 x1 x2 x3 x4 x5 x6 x7 x8 x9 x10 (some (.py (.list ((S.filter fun s => fitsB s w).map tn)), true)) (some (.py (optP (if ((S.filter fun s => fitsB s w).isEmpty && o.isNone) = true then some n else o)), false)) (some (.py (ni n), false)) (some (.py (wsh w), false)) x15 x16) M)) := by
      simp only [stL] at hc ⊢
      cases q : (S.filter fun s => fitsB s w).isEmpty with
      | false => simp [-is_n, b_law_right_1, hc, eq_nil, q, show (0 : Nat) ≤ sizeLine from by omega]
      | true =>
        cases o with
        | none => simp [-is_n, b_law_right_1, hc, eq_nil, q, show (0 : Nat) ≤ sizeLine from by omega, is_opt, show optP (some n) = ni n from rfl]
        | some k => simp [-is_n, b_law_right_1, hc, eq_nil, q, show (0 : Nat) ≤ sizeLine from by omega, is_opt]
    rw [ht, bz_ok]
    exact ih
/-! words, again -/
theorem words_go (C : Clo) (M : Mem) (x0 x2 x3 x4 x5 x6 x9 x10 x12 x13 x14 x15 x16 : Slot) {many : Nat} (h6 : many ≤ 6) (S : List (List Nat)) (fl : Bool) (hS : S.length ≤ 100) :
    ∃ x8 x15' : Slot, forE F_law_right (fun _ => C) (.nm 8) b_law_right_2 ((List.range many).map fun (i : Nat) => D.py (.int (i : Int))) (stL x0 (some (.py (ni many), false)) x2 x3 x4 x5 x6 (some (.py (.list []), true)) none x9 x10 (some (.py (.list (S.map tn)), fl)) x12 x13 x14 x15 x16) M =
      some (.ok (.nx (stL x0 (some (.py (ni many), false)) x2 x3 x4 x5 x6 (some (.py (.list (wordsB many S)), true)) x8 x9 x10 (some (.py (.list (S.map tn)), fl)) x12 x13 x14 x15' x16) M)) := by
  have hz : (200 : Nat) ≤ sizeLine := by decide
  obtain ⟨ρ', M', e1, a, b, rfl, rfl⟩ := forE_inv (Fs := F_law_right) (C := fun _ => C) (t := .nm 8) (body := b_law_right_2) (D.py ∘ ni)
    (fun done ρ M' => ∃ a b : Slot, M = M' ∧ ρ = stL x0 (some (.py (ni many), false)) x2 x3 x4 x5 x6 (some (.py (.list (done.map (wordB S))), true)) a x9 x10 (some (.py (.list (S.map tn)), fl)) x12 x13 x14 b x16)
    (List.range many) (stL x0 (some (.py (ni many), false)) x2 x3 x4 x5 x6 (some (.py (.list []), true)) none x9 x10 (some (.py (.list (S.map tn)), fl)) x12 x13 x14 x15 x16) M ⟨none, x15, rfl, rfl⟩
    (fun done x rest ρ M1 e ⟨a, b, hM, hI⟩ => by
      subst hM hI
      obtain ⟨rfl, hlen, _⟩ := rng_pre e
      have hc : evE F_law_right (fun _ => C) c_law_right_2 (stL x0 (some (.py (ni many), false)) x2 x3 x4 x5 x6 (some (.py (.list (done.map (wordB S))), true)) (some (.py (ni done.length), false)) x9 x10 (some (.py (.list (S.map tn)), fl)) x12 x13 x14 b x16) M = some (.ok ⟨.py (.list (S.map fun s => .bool (has s done.length))), .fr, stL x0 (some (.py (ni many), false)) x2 x3 x4 x5 x6 (some (.py (.list (done.map (wordB S))), true)) (some (.py (ni done.length), false)) x9 x10 (some (.py (.list (S.map tn)), fl)) x12 x13 x14 b x16, M⟩) :=
        comp_map (.py ∘ tn) (fun s => .bool (has s done.length)) (fun s => [x0, some (.py (ni many), false), x2, x3, x4, x5, x6, some (.py (.list (done.map (wordB S))), true), some (.py (ni done.length), false), x9, x10, some (.py (.list (S.map tn)), fl), x12, x13, x14, b, x16, some (.py (tn s), false)]) S (sd := .py (.list (S.map tn))) (sm := if fl = true then .bo 11 else .sh) (by cases fl <;> simp [stL]) (by simp) (by omega) rfl (fun _ _ => rfl) (fun s _ => ⟨.sh, by simp [in_tn], rfl⟩) (fun _ _ => rfl) rfl
      refine ⟨_, rfl, _, _, ?_, some (.py (ni done.length), false), some (.py (.list (S.map fun s => .bool (has s done.length))), true), rfl, rfl⟩
      have ha := allb (fun s => has s done.length) S
      have hb := anyb (fun s => has s done.length) S
      simp only [stL] at hc ⊢
      simp only [b_law_right_2, ss_cons, t_asg, List.set_cons_succ, List.set_cons_zero]
      cases q1 : (S.all fun s => has s done.length) <;> cases q2 : (S.any fun s => has s done.length) <;> simp [hc, ha, hb, q1, q2, wordB, sure, opn, nev, show done.length < sizeLine from by omega])
  exact ⟨a, b, e1⟩
/-! loads, again -/
theorem loads_go (C : Clo) (M : Mem) (x0 x1 x2 x3 x4 x5 x6 x7 x8 x12 x13 x14 x15 x16 : Slot) (S : List (List Nat)) (fl : Bool) (hS : S.length ≤ 100) (loads : List (List Nat)) (hl : loads.length ≤ 100) (h6 : ∀ l ∈ loads, l.length ≤ 6) :
    ∃ x10 x16' : Slot, forE F_law_right (fun _ => C) (.nm 10) b_law_right_3 (loads.map (D.py ∘ tn)) (stL x0 x1 x2 x3 x4 x5 x6 x7 x8 (some (.py (.list []), true)) none (some (.py (.list (S.map tn)), fl)) x12 x13 x14 x15 x16) M =
      some (.ok (.nx (stL x0 x1 x2 x3 x4 x5 x6 x7 x8 (some (.py (.list (loads.map (rowB S))), true)) x10 (some (.py (.list (S.map tn)), fl)) x12 x13 x14 x15 x16') M)) := by
  have hz : (200 : Nat) ≤ sizeLine := by decide
  obtain ⟨ρ', M', e1, a, b, rfl, rfl⟩ := forE_inv (Fs := F_law_right) (C := fun _ => C) (t := .nm 10) (body := b_law_right_3) (D.py ∘ tn)
    (fun done ρ M' => ∃ a b : Slot, M = M' ∧ ρ = stL x0 x1 x2 x3 x4 x5 x6 x7 x8 (some (.py (.list (done.map (rowB S))), true)) a (some (.py (.list (S.map tn)), fl)) x12 x13 x14 x15 b)
    loads (stL x0 x1 x2 x3 x4 x5 x6 x7 x8 (some (.py (.list []), true)) none (some (.py (.list (S.map tn)), fl)) x12 x13 x14 x15 x16) M ⟨none, x16, rfl, rfl⟩
    (fun done load rest ρ M1 e ⟨a, b, hM, hI⟩ => by
      subst hM hI
      have hll : load.length ≤ 6 := h6 load (by rw [e]; simp)
      have hdl : done.length ≤ 100 := by
        have := congrArg List.length e
        simp at this
        omega
      have hw : ∀ s : List Nat, f_law_fits noClo [.py (tn s), .py (.tuple [tn load, .bool true])] M = some (.ok ⟨.py (.bool (load.any fun x => has s x)), false, M⟩) := fun s => by
        have := s_law_fits noClo M s (load, true) (by show load.length ≤ 100; omega)
        rw [show fitsB s (load, true) = (load.any fun x => has s x) by unfold fitsB; simp] at this
        exact this
      have hc : evE F_law_right (fun _ => C) c_law_right_3 (stL x0 x1 x2 x3 x4 x5 x6 x7 x8 (some (.py (.list (done.map (rowB S))), true)) (some (.py (tn load), false)) (some (.py (.list (S.map tn)), fl)) x12 x13 x14 x15 b) M = some (.ok ⟨.py (.list ((S.filter fun s => load.any fun x => has s x).map tn)), .fr, stL x0 x1 x2 x3 x4 x5 x6 x7 x8 (some (.py (.list (done.map (rowB S))), true)) (some (.py (tn load), false)) (some (.py (.list (S.map tn)), fl)) x12 x13 x14 x15 b, M⟩) :=
        comp_filter (.py ∘ tn) (fun s => load.any fun x => has s x) tn (fun s => [x0, x1, x2, x3, x4, x5, x6, x7, x8, some (.py (.list (done.map (rowB S))), true), some (.py (tn load), false), some (.py (.list (S.map tn)), fl), x12, x13, x14, x15, b, some (.py (tn s), false)]) S (sd := .py (.list (S.map tn))) (sm := if fl = true then .bo 11 else .sh) (by cases fl <;> simp [stL]) (by simp) (by omega) rfl (fun _ _ => rfl)
          (fun s _ => ⟨.py (.bool (load.any fun x => has s x)), by simp [hw, show (2 : Nat) ≤ sizeLine from by omega], rfl⟩) (fun s _ _ => ⟨.sh, by simp, rfl⟩) (fun _ _ => rfl) rfl
      have hlen : bi .len [.py (.list ((S.filter fun s => load.any fun x => has s x).map tn))] = some (.py (.int (stain S load : Int)), false) := by
        rw [len_l, List.length_map]
        rfl
      have hlen2 : bi .len [.py (.list (S.map tn))] = some (.py (.int (S.length : Int)), false) := by rw [len_l, List.length_map]
      have hmax : bi .max [.py (.int (stain S load : Int)), .py (.int ((S.length : Int) - stain S load))] = some (.py (.int (wv S load)), false) := by rw [max_i, wv]
      refine ⟨_, rfl, _, _, ?_, some (.py (tn load), false), some (.py (.int (stain S load : Int)), false), rfl, rfl⟩
      simp only [stL] at hc ⊢
      cases fl <;> simp [-len_l, -max_i, b_law_right_3, hc, hlen, hlen2, hmax, mk_row2, show done.length < sizeLine from by omega, show (2 : Nat) ≤ sizeLine from by omega])
  exact ⟨a, b, e1⟩
end k28

namespace k28
open Ev PySem
theorem rp_word (S : List (List Nat)) (x : Nat) : Rp 0 10 (wordB S x) := by
  unfold wordB
  split
  · exact ⟨rfl, rfl, by decide, by decide +kernel, by decide, by decide +kernel⟩
  · split
    · exact ⟨rfl, rfl, by decide, by decide +kernel, by decide, by decide +kernel⟩
    · exact ⟨rfl, rfl, by decide, by decide +kernel, by decide, by decide +kernel⟩
theorem rp_told {many : Nat} (h : many ≤ 6) (S : List (List Nat)) : Rp 1 100 (toldB many S) := by
  unfold toldB
  split
  · exact rp_non
  · have := rps_all (d := 0) (w := 10) (ps := wordsB many S) fun p hp => by
      obtain ⟨x, _, rfl⟩ := List.mem_map.mp hp
      exact rp_word S x
    exact (rp_tup this).mono (Nat.le_refl _) (by unfold wordsB; rw [List.length_map, List.length_range]; omega)
theorem rp_opt {o : Option Nat} (h : ∀ k, o = some k → k < 1000) : Rp 1 100 (optP o) := by
  cases o with
  | none => exact rp_non
  | some k => exact rp_nat (by have := h k rfl; omega) (by decide)
theorem first_lt : ∀ {ws : List (List Nat × Bool)} {S : List (List Nat)} {n k : Nat}, firstB S ws n = some k → k < n + ws.length
  | [], _, _, _, h => by cases h
  | w :: ws, S, n, k, h => by
    unfold firstB at h
    split at h
    · cases h
      rw [List.length_cons]
      omega
    · have := first_lt h
      rw [List.length_cons]
      omega
theorem rp_list {L : List (List Nat)} (h : ∀ l ∈ L, l ∈ F 6) (hl : L.length ≤ 64) : Rps 1 20000 (L.map tn) := by
  have := rps_all (d := 1) (w := 300) (ps := L.map tn) fun p hp => by
    obtain ⟨l, hm, rfl⟩ := List.mem_map.mp hp
    have q := F_mem (h l hm)
    exact rp_tn (fun x hx => by have := q.2.1 x hx; omega) q.2.2
  exact this.mono (Nat.le_refl _) (by rw [List.length_map]; omega)
theorem rp_row {S : List (List Nat)} {l : List Nat} (h : l ∈ F 6) (hS : S.length ≤ 64) : Rp 2 400 (rowB S l) := by
  have q := F_mem h
  have hs : stain S l ≤ S.length := List.length_filter_le _ _
  have hv : (wv S l).natAbs < 10 ^ 12 := by
    unfold wv
    split <;> omega
  have := rps_cons (rp_int (d := 1) (w := 40) hv (by decide)) (rps_cons (rp_tn (fun x hx => by have := q.2.1 x hx; omega) q.2.2) (rps_nil (w := 0)))
  exact (rp_tup this).mono (Nat.le_refl _) (by omega)
theorem best_mem : ∀ (rs : List PyData) (o : Option PyData), bestB o rs = none ∨ (∃ p, bestB o rs = some p ∧ (p ∈ rs ∨ o = some p))
  | [], none => .inl rfl
  | [], some p => .inr ⟨p, rfl, .inr rfl⟩
  | r :: rs, none => by
    rcases best_mem rs (some r) with h | ⟨p, h1, h2⟩
    · exact .inl h
    · refine .inr ⟨p, h1, ?_⟩
      rcases h2 with h2 | h2
      · exact .inl (List.mem_cons_of_mem _ h2)
      · cases h2
        exact .inl List.mem_cons_self
  | r :: rs, some b => by
    rcases best_mem rs (some (if PySem.W.dataLt r b then r else b)) with h | ⟨p, h1, h2⟩
    · exact .inl h
    · refine .inr ⟨p, h1, ?_⟩
      rcases h2 with h2 | h2
      · exact .inl (List.mem_cons_of_mem _ h2)
      · split at h2
        · cases h2
          exact .inl List.mem_cons_self
        · cases h2
          exact .inr rfl
theorem best_min : ∀ (rs : List PyData) (x : PyData), bestB (some x) rs = some (PySem.W.minD x rs)
  | [], x => rfl
  | r :: rs, x => by
    show bestB (some (if PySem.W.dataLt r x then r else x)) rs = _
    rw [best_min rs]
    rfl
theorem min_rows {S : List (List Nat)} {L : List (List Nat)} (hn : L ≠ []) : bi .min [.py (.list (L.map (rowB S)))] = some (.py (optD (bestB none (L.map (rowB S)))), false) := by
  cases L with
  | nil => exact (hn rfl).elim
  | cons l L =>
    have h1 : alikeL ((l :: L).map (rowB S)) = true := by
      unfold alikeL
      rw [List.all_eq_true]
      intro a ha
      obtain ⟨m, _, rfl⟩ := List.mem_map.mp ha
      rw [Bool.and_eq_true, List.all_eq_true]
      refine ⟨rfl, fun b hb => ?_⟩
      obtain ⟨k, _, rfl⟩ := List.mem_map.mp hb
      unfold rowB W.alike W.alikeAll W.alikeAll W.alikeAll
      rw [alike_tn]
      rfl
    have h2 : okL ((l :: L).map (rowB S)) = true := by
      have : ∀ L : List (List Nat), PyData.depthAll (L.map (rowB S)) ≤ 2 := by
        intro L
        induction L with
        | nil => exact Nat.zero_le _
        | cons a L ih =>
          rw [List.map_cons]
          show max (max 0 (max (tn a).depth 0) + 1) (PyData.depthAll (L.map (rowB S))) ≤ 2
          rw [depth_tn]
          omega
      have := this (l :: L)
      exact decide_eq_true (by omega)
    have e : biMM PySem.W.minD [.py (.list ((l :: L).map (rowB S)))] = some (.py (PySem.W.minD (rowB S l) (L.map (rowB S))), false) := by
      show (if alikeL ((l :: L).map (rowB S)) && okL ((l :: L).map (rowB S)) then _ else _) = _
      rw [h1, h2]
      rfl
    have e2 : bestB none ((l :: L).map (rowB S)) = some (PySem.W.minD (rowB S l) (L.map (rowB S))) := best_min _ _
    rw [e2]
    exact e
theorem ne_same (x : Str) : cm .ne (.py (.str x)) (.py (.str x)) = some false := by rw [ne_s]; simp
theorem right (C : Clo) {M : Mem} {n c : Nat} (hp : PotAt M n c) (hc : c ≤ 10 ^ 6) : ∃ M', f_law_right C [.cel n] M = some (.ok ⟨.py (.bool true), false, M'⟩) ∧ PotAt M' n (c + 200) := by
  have hz : (200 : Nat) ≤ sizeLine := by decide
  obtain ⟨d, M1, t1, h1, hp1⟩ := take noClo hp (by omega) (u := 6) (by decide) (by decide)
  have t1' : f_law_take noClo [.cel n, .py (.int 6)] M = some (.ok ⟨.py (.int (d : Int)), false, M1⟩) := t1
  have hmin : bi .min [.py (.int (1 + (d : Int))), .py (.int 3)] = some (.py (ni (min (1 + d) 3)), false) := by
    rw [min_i]
    have : (if (3 : Int) < (1 + (d : Int)) then (3 : Int) else 1 + (d : Int)) = ((min (1 + d) 3 : Nat) : Int) := by split <;> omega
    rw [this]
  have em : (1 : Int) + (d : Int) = ((1 + d : Nat) : Int) := by omega
  rw [em] at hmin
  generalize hmany : 1 + d = many at *
  have m1 : 1 ≤ many := by omega
  have m6 : many ≤ 6 := by omega
  generalize htop : min many 3 = top at *
  obtain ⟨least, M2, t2, h2, hp2⟩ := take noClo hp1 (by omega) (u := top + 1) (by omega) (by omega)
  have t2' : f_law_take noClo [.cel n, .py (.int ((top : Int) + 1))] M1 = some (.ok ⟨.py (.int (least : Int)), false, M2⟩) := t2
  obtain ⟨e, M3, t3, h3, hp3⟩ := take noClo hp2 (by omega) (u := top - least + 1) (by omega) (by omega)
  have t3' : f_law_take noClo [.cel n, .py (.int ((top : Int) - (least : Int) + 1))] M2 = some (.ok ⟨.py (.int (e : Int)), false, M3⟩) := by
    have q : ((top : Int) - (least : Int) + 1) = ((top - least + 1 : Nat) : Int) := by omega
    rw [q]
    exact t3
  have em2 : (least : Int) + (e : Int) = ((least + e : Nat) : Int) := by omega
  generalize hmost : least + e = most at *
  have hT : TT (many, least, most) ≠ [] := TT_ne (p := (many, least, most)) (by show least ≤ many; omega) (by show least ≤ most; omega)
  have hTl := TT_len (p := (many, least, most)) m6
  obtain ⟨p, M4, p1, p2, hp4⟩ := one_of noClo hp3 (by omega) (ps := (TT (many, least, most)).map tn) (by simp [hT]) (by rw [List.length_map]; omega)
  obtain ⟨r, hr, rfl⟩ := List.mem_map.mp p1
  obtain ⟨ws, M5, w1, w2, w3, hp5⟩ := washes noClo hp4 (by omega) m1 m6 r
  have g : Good many least most ws := ⟨m1, m6, by omega, by omega, w2, by omega⟩
  have gw : GoodW many ws := ⟨m1, m6, w2, w3⟩
  have hlots : f_law_lots noClo [.py (.int (many : Int)), .py (.int (least : Int)), .py (.int (most : Int))] M3 = some (.ok ⟨.py (.list ((TT (many, least, most)).map tn)), true, M3⟩) := s_lots noClo M3 (p := (many, least, most)) m6
  have hlots1 : f_law_lots noClo [.py (.int (many : Int)), .py (.int 1), .py (.int (many : Int))] M5 = some (.ok ⟨.py (.list ((TT (many, 1, many)).map tn)), true, M5⟩) := s_lots noClo M5 (p := (many, 1, many)) m6
  obtain ⟨fl, a, b, e1⟩ := right_go C M5 (some (.cel n, false)) (some (.py (ni many), false)) (some (.py (ni top), false)) (some (.py (ni least), false)) (some (.py (ni most), false)) (some (.py (.list ((TT (many, least, most)).map tn)), false)) (some (.py (wss ws), false)) none none none none none none ws 0 (TT (many, least, most)) false none none none g.wlen (by omega)
  obtain ⟨x8, x15, e2⟩ := words_go C M5 (some (.cel n, false)) (some (.py (ni top), false)) (some (.py (ni least), false)) (some (.py (ni most), false)) (some (.py (.list ((TT (many, least, most)).map tn)), false)) (some (.py (wss ws), false)) none none (some (.py (optP (wrongB (TT (many, least, most)) ws 0 none)), false)) a b none none m6 (leftB (many, least, most) ws) fl (by have := left_len (p := (many, least, most)) (ws := ws) m6; omega)
  have hSl := left_len (p := (many, least, most)) (ws := ws) m6
  have hL := TT_len (p := (many, 1, many)) m6
  obtain ⟨x10, x16, e3⟩ := loads_go C M5 (some (.cel n, false)) (some (.py (ni many), false)) (some (.py (ni top), false)) (some (.py (ni least), false)) (some (.py (ni most), false)) (some (.py (.list ((TT (many, least, most)).map tn)), false)) (some (.py (wss ws), false)) (some (.py (.list (wordsB many (leftB (many, least, most) ws))), true)) x8 (some (.py (optP (wrongB (TT (many, least, most)) ws 0 none)), false)) a b x15 none (leftB (many, least, most) ws) fl (by omega) (TT (many, 1, many)) (by omega) (fun l hl => (F_mem (TT_F (p := (many, 1, many)) m6 l hl)).2.2)
  obtain ⟨M6, r1, hp6⟩ := refused gw noClo hp5 (by omega)
  refine ⟨M6, ?_, hp6.mono (by omega)⟩
  have hS : ((TT (many, least, most)).filter fun s => ws.all fun w => fitsB s w) = leftB (many, least, most) ws := rfl
  rw [hS] at e1
  have hr2 := rngL_up (n := many) (by omega)
  have hmay := g_may g noClo M5
  have hfirst := g_first g noClo M5
  have htold := g_told g noClo M5
  have hnext := g_next g noClo M5
  have rp1 := repr_ok (rp_tup (rp_list (left_F g) (by omega))) (by decide) (by decide)
  have hw : wrongB (TT (many, least, most)) ws 0 none = firstB (TT (many, least, most)) ws 0 := rfl
  rw [hw] at e1 e2 e3
  have rp2 := repr_ok (rp_opt (o := firstB (TT (many, least, most)) ws 0) fun k hk => by have := first_lt hk; omega) (by decide) (by decide)
  have rp3 := repr_ok (rp_told m6 (leftB (many, least, most) ws)) (by decide) (by decide)
  have rp4 : bi .repr [.py (optD (bestB none ((TT (many, 1, many)).map (rowB (leftB (many, least, most) ws)))))] = some (.py (.str (optD (bestB none ((TT (many, 1, many)).map (rowB (leftB (many, least, most) ws))))).shown), false) := by
    refine repr_ok (d := 2) (w := 400) ?_ (by decide) (by decide)
    rcases best_mem ((TT (many, 1, many)).map (rowB (leftB (many, least, most) ws))) none with h | ⟨p, h1, h2⟩
    · rw [h]
      exact rp_non
    · rw [h1]
      rcases h2 with h2 | h2
      · obtain ⟨l, hl, rfl⟩ := List.mem_map.mp h2
        exact rp_row (TT_F (p := (many, 1, many)) m6 l hl) (by omega)
      · cases h2
  have hmin2 := min_rows (S := leftB (many, least, most) ws) (L := TT (many, 1, many)) (TT_ne (p := (many, 1, many)) m1 m1)
  have hti : evE F_law_right (fun _ => C) (.ite (.cmp (.var 11) [.ne] (.cons false (.lst .nil) .nil)) (.bi .tuple (.cons false (.var 7) .nil)) (.lit .none)) (stL (some (.cel n, false)) (some (.py (ni many), false)) (some (.py (ni top), false)) (some (.py (ni least), false)) (some (.py (ni most), false)) (some (.py (.list ((TT (many, least, most)).map tn)), false)) (some (.py (wss ws), false)) (some (.py (.list (wordsB many (leftB (many, least, most) ws))), true)) x8 none none (some (.py (.list ((leftB (many, least, most) ws).map tn)), fl)) (some (.py (optP (firstB (TT (many, least, most)) ws 0)), false)) a b x15 none) M5 = some (.ok ⟨.py (toldB many (leftB (many, least, most) ws)), .sh, stL (some (.cel n, false)) (some (.py (ni many), false)) (some (.py (ni top), false)) (some (.py (ni least), false)) (some (.py (ni most), false)) (some (.py (.list ((TT (many, least, most)).map tn)), false)) (some (.py (wss ws), false)) (some (.py (.list (wordsB many (leftB (many, least, most) ws))), true)) x8 none none (some (.py (.list ((leftB (many, least, most) ws).map tn)), fl)) (some (.py (optP (firstB (TT (many, least, most)) ws 0)), false)) a b x15 none, M5⟩) := by
    simp only [stL]
    by_cases q : leftB (many, least, most) ws = []
    · have h2 := ne_nil []
      simp at h2
      cases fl <;> simp [q, h2, toldB, show (0 : Nat) ≤ sizeLine from by omega]
    · cases fl <;> simp [q, ne_nil, toldB, show (0 : Nat) ≤ sizeLine from by omega]
  simp only [stL] at e1 e2 e3 hti
  rw [show optP none = PyData.none from rfl] at e1
  unfold f_law_right
  rw [runF_eq rfl]
  show outOf (evSs F_law_right (fun _ => C) d_law_right.body [some (.cel n, false), none, none, none, none, none, none, none, none, none, none, none, none, none, none, none, none, none] M) = _
  cases fl <;> simp [-min_i, -e_ite, d_law_right, t1', em, hmin, t2', t3', em2, hlots, p2, w1, l_law_right_1, it_wss, e1, hmay, rp1, ne_same, hfirst, rp2, hr2, l_law_right_2, e2, htold, rp3, hti, hlots1, l_law_right_3, e3, hnext, rp4, hmin2, r1, show (0 : Nat) ≤ sizeLine from by omega]
end k28

namespace k28
open Ev PySem
theorem pw_or {α : Type} {R : α → α → Prop} : ∀ {l : List α}, l.Pairwise R → ∀ a ∈ l, ∀ b ∈ l, a = b ∨ R a b ∨ R b a
  | [], _, a, ha, _, _ => by cases ha
  | x :: l, h, a, ha, b, hb => by
    rw [List.pairwise_cons] at h
    rcases List.mem_cons.mp ha with rfl | ha2
    · rcases List.mem_cons.mp hb with rfl | hb2
      · exact .inl rfl
      · exact .inr (.inl (h.1 b hb2))
    · rcases List.mem_cons.mp hb with rfl | hb2
      · exact .inr (.inr (h.1 a ha2))
      · exact pw_or h.2 a ha2 b hb2
theorem sort_is {xs ys : List PyData} (hp : ys.Perm xs) (hs : ys.Pairwise fun a b => PySem.W.dataLt a b = true ∧ PySem.W.dataLt b a = false) : sortD xs = ys := by
  have T := PySem.W.sortLe_total (PyProof.Rows.listOrd PyProof.Rows.itemOrd) false fun b : PyData => PySem.W.keyToks (id b)
  have h1 := List.pairwise_mergeSort (le := PySem.W.dataLe false id) T.trans (fun a b => by rw [Bool.or_eq_true]; exact T.total a b) xs
  have h2 : (xs.mergeSort (PySem.W.dataLe false id)).Perm ys := (List.mergeSort_perm xs _).trans hp.symm
  have irr : ∀ a b : PyData, PySem.W.dataLe false id a b = !PySem.W.dataLt b a := fun _ _ => rfl
  have as : ∀ a ∈ ys, ∀ b ∈ ys, PySem.W.dataLe false id a b = true → PySem.W.dataLe false id b a = true → a = b := fun a ha b hb q1 q2 => by
    rw [irr] at q1 q2
    rcases pw_or hs a ha b hb with h | h | h
    · exact h
    · rw [h.1] at q2
      cases q2
    · rw [h.1] at q1
      cases q1
  refine List.Perm.eq_of_pairwise (le := fun a b => PySem.W.dataLe false id a b = true) ?_ h1 ?_ h2
  · exact fun a b ha hb => as a (h2.mem_iff.mp ha) b hb
  · refine hs.imp fun h => ?_
    rw [irr, h.2]
    rfl
theorem TT_is {p : Tr} (L : List (List Nat)) (hp : L.Perm ((F p.1).filter fun s => decide (p.2.1 ≤ s.length) && decide (s.length ≤ p.2.2))) (hs : (L.map tn).Pairwise fun a b => PySem.W.dataLt a b = true ∧ PySem.W.dataLt b a = false) : TT p = L := by
  unfold TT
  rw [sort_is (hp.map tn) hs, List.map_map]
  exact (List.map_congr_left (g := id) fun a _ => un_tn a).trans (List.map_id _)
theorem tt1 : TT (3, 1, 1) = [[0], [1], [2]] := TT_is _ (by decide +kernel) (by decide +kernel)
theorem tt2 : TT (4, 1, 1) = [[0], [1], [2], [3]] := TT_is _ (by decide +kernel) (by decide +kernel)
theorem tt3 : TT (4, 1, 4) = [[0], [0, 1], [0, 1, 2], [0, 1, 2, 3], [0, 1, 3], [0, 2], [0, 2, 3], [0, 3], [1], [1, 2], [1, 2, 3], [1, 3], [2], [2, 3], [3]] := TT_is _ (by decide +kernel) (by decide +kernel)
/-! ### the law -/
def ws1 : List (List Nat × Bool) := [([0, 1], true)]
theorem good1 : Good 3 1 1 ws1 := ⟨by decide, by decide, by decide, by decide, fun w hw => by
  rw [List.mem_singleton.mp hw]
  exact ⟨by simp, by decide, by decide⟩, by decide⟩
theorem good2 : Good 4 1 1 [] := ⟨by decide, by decide, by decide, by decide, (fun w hw => nomatch hw), by decide⟩
theorem told1 (M : Mem) : f_told noClo [.py (.int 3), .py (.tuple [.tuple [.tuple [.int 0, .int 1], .bool true]]), .py (.int 1), .py (.int 1)] M = some (.ok ⟨.py (.tuple [opn, opn, nev]), false, M⟩) := by
  have h := g_told good1 noClo M
  have e : toldB 3 (leftB (3, 1, 1) ws1) = .tuple [opn, opn, nev] := by
    unfold leftB
    rw [tt1]
    kernel_rfl
  rw [e] at h
  exact h
theorem next1 (M : Mem) : f_next_load noClo [.py (.int 4), .py (.tuple []), .py (.int 1), .py (.int 1)] M = some (.ok ⟨.py (.tuple [.int 2, .tuple [.int 0, .int 1]]), false, M⟩) := by
  have h := g_next good2 noClo M
  have e : optD (bestB none ((TT (4, 1, 4)).map (rowB (leftB (4, 1, 1) [])))) = .tuple [.int 2, .tuple [.int 0, .int 1]] := by
    unfold leftB
    rw [tt2, tt3]
    kernel_rfl
  rw [e] at h
  exact h
theorem repr1 : bi .repr [.py (.tuple [opn, opn, nev])] = some (.py (.str "('open', 'open', 'never')"), false) := by kernel_rfl
theorem ne2 : cm .ne (.py (.tuple [.int 2, .tuple [.int 0, .int 1]])) (.py (.tuple [.int 2, .tuple [.int 0, .int 1]])) = some false := by kernel_rfl
theorem places (C : Clo) (M : Mem) (ns : List Int) (h : ns.length ≤ 63) : ∃ k : Nat, k ≤ 63 ∧ f_law_places C [.scr ns, .py (.int 4)] M = some (.ok ⟨.py (.list ((List.range k).map ni)), true, M⟩) := by
  have hz : (200 : Nat) ≤ sizeLine := by decide
  have e : ∃ k : Nat, k ≤ 63 ∧ (if (if (ns.length : Int) < 4 then (ns.length : Int) else 4) > 1 then (if (ns.length : Int) < 4 then (ns.length : Int) else 4) else 1) = (k : Int) := by
    refine ⟨max 1 (min 4 ns.length), by omega, ?_⟩
    split <;> split <;> omega
  obtain ⟨k, hk, e⟩ := e
  refine ⟨k, hk, ?_⟩
  have h1 : bi .min [.py (.int 4), .py (.int (ns.length : Int))] = some (.py (.int (if (ns.length : Int) < 4 then (ns.length : Int) else 4)), false) := min_i _ _
  have h2 : bi .max [.py (.int 1), .py (.int (if (ns.length : Int) < 4 then (ns.length : Int) else 4))] = some (.py (.int (k : Int)), false) := by rw [max_i, e]
  have hr := rngL_up (n := k) (by omega)
  have hm : mkL ((List.range k).map fun (i : Nat) => D.py (.int (i : Int))) = .py (.list ((List.range k).map ni)) := mkL_map ni (List.range k)
  generalize (if (ns.length : Int) < 4 then (ns.length : Int) else 4) = v at *
  simp [-min_i, -max_i, f_law_places, runF, d_law_places, startN, h1, h2, hr, hm]
theorem law_turn (C : Clo) (M : Mem) (ns : List Int) (pl : Nat) (hp : pl ≤ 100) (a : Slot) : ∃ (b : Slot) (M' : Mem), evSs F_law (fun _ => C) b_law_1 [some (.scr ns, false), some (.py (ni pl), false), a, none] M = some (.ok (.nx [some (.scr ns, false), some (.py (ni pl), false), b, none] M')) := by
  have hz : (200 : Nat) ≤ sizeLine := by decide
  obtain ⟨ps, h1, h2⟩ := pot noClo M ns (pl := pl) (by omega)
  have h1' : f_law_pot noClo [.scr ns, .py (.int (pl : Int))] M = some (.ok ⟨.cel M.length, false, M ++ [ps]⟩) := h1
  have hr : rngL 0 3 1 = some ((List.range 3).map fun (i : Nat) => .py (.int i)) := rngL_up (n := 3) (by omega)
  obtain ⟨ys, M', e1, h3, h4⟩ := comp_st (Fs := F_law) (C := fun _ => C) (own := [("lap", 3)]) (t := .nm 3) (src := .rng1 (.lit (.int 3))) (cond := .no) (elt := .call 24 (.cons false (.var 2) .nil))
    (ρ := [some (.scr ns, false), some (.py (ni pl), false), some (.cel M.length, false), none]) (M := M ++ [ps]) (sd := .ml ((List.range 3).map (D.py ∘ ni))) (sm := .sh) (M' := M ++ [ps]) (ρ' := [some (.scr ns, false), some (.py (ni pl), false), some (.cel M.length, false), none]) (ρw := [some (.scr ns, false), some (.py (ni pl), false), some (.cel M.length, false), none])
    (D.py ∘ ni) (fun x => [some (.scr ns, false), some (.py (ni pl), false), some (.cel M.length, false), some (.py (ni x), false)])
    (fun done rs M' => rs = done.map (fun _ => D.py (.bool true)) ∧ PotAt M' M.length (200 * done.length)) (List.range 3)
    (by simp [hr, Function.comp_def]) (by simp) (by simp; omega) rfl ⟨rfl, h2⟩ (fun _ _ => rfl)
    (fun done x rest rs M1 e ⟨q1, q2⟩ => by
      obtain ⟨_, hlen, _⟩ := rng_pre e
      obtain ⟨M2, r1, r2⟩ := right noClo q2 (by omega)
      exact ⟨_, M1, true, e_no, rfl, .inl ⟨rfl, .py (.bool true), .sh, M2, by simp [r1], rfl, by rw [q1]; simp, by rw [List.length_append, List.length_singleton]; exact r2.mono (by omega)⟩⟩) rfl
  have hm : mkL ys = .py (.list ((List.range 3).map fun _ => .bool true)) := by
    rw [h3]
    exact mkL_map (fun _ => .bool true) (List.range 3)
  rw [hm] at e1
  have e1' : evE F_law (fun _ => C) c_law_1 [some (.scr ns, false), some (.py (ni pl), false), some (.cel M.length, false), none] (M ++ [ps]) = _ := e1
  have ha := allb (fun _ : Nat => true) (List.range 3)
  rw [List.all_eq_true.mpr fun _ _ => rfl] at ha
  generalize (List.range 3).map (fun _ : Nat => PyData.bool true) = L at *
  exact ⟨some (.cel M.length, false), M', by simp [b_law_1, h1', e1', ha]⟩
theorem the_law (ns : List Int) (h : ns.length ≤ 63) : ∃ M, runF (fnsOf recs []) d_law noClo [.scr ns] [] = some (.ok ⟨.py (.bool true), false, M⟩) := by
  obtain ⟨k, hk, hp⟩ := places noClo [] ns h
  obtain ⟨ρ', M', e1, a, b, hI⟩ := forE_inv (Fs := F_law) (C := fun _ => noClo) (t := .nm 1) (body := b_law_1) (D.py ∘ ni)
    (fun _ ρ _ => ∃ a b : Slot, ρ = [some (.scr ns, false), a, b, none])
    (List.range k) [some (.scr ns, false), none, none, none] [] ⟨none, none, rfl⟩
    (fun done x rest ρ M e ⟨a, b, hI⟩ => by
      subst hI
      obtain ⟨rfl, hlen, _⟩ := rng_pre e
      obtain ⟨b', M', q⟩ := law_turn noClo M ns done.length (by omega) b
      exact ⟨_, rfl, _, M', q, _, _, rfl⟩)
  rw [fns_eq]
  refine ⟨M', ?_⟩
  rw [runF_eq rfl]
  show outOf (evSs F_law (fun _ => noClo) d_law.body [some (.scr ns, false), none, none, none] []) = _
  simp [d_law, told1, repr1, ne_same, next1, ne2, l_law_1, hp, e1, show (0 : Nat) ≤ sizeLine from by decide, show (1 : Nat) ≤ sizeLine from by decide, show (2 : Nat) ≤ sizeLine from by decide]
theorem holds : PySem.Challenge.rw_drybytheirhour_k28_whole_which_lot_surel.Holds := all_of fun ns h _ => the_law ns h
end k28

theorem PySem.Challenge.cw_drybytheirhour_k28_whole_which_lot_surel_holds : PySem.Challenge.rw_drybytheirhour_k28_whole_which_lot_surel.Holds := by
  exact k28.holds
