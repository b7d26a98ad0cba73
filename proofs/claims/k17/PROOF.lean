import PyProof.Rows.All
import PyProof.ListRange
import HandS.RevTup
import HandS.RevRange
import HandS.Iter
import HandS.ForMost
import HandS.ForExc
import HandS.IsInst
import HandS.SortInts
import HandS.Zip
import HandS.Deep
import HandS.Wide
import HandS.SortRule
import KE.SortData
import HandS.Rev
import HandS.More
import HandS.WordsExc
import HandS.Ends
import HandS.Codes
import HandS.Defaults
import HandS.Text
import PySem.Challenge.RW_ringpop_k17_whole_any_order
set_option Elab.async false
set_option linter.all false
set_option maxRecDepth 100000
/-! RpSem: the IR of the Python subset, and its pure evaluator over PyData. -/
namespace Rp
open PySem

abbrev D := PyData

/-- an answer: a value, an exception (class by number, payload), or no answer -/
inductive Res (α : Type) where
  | ok (a : α) | exc (c : Nat) (p : D) | bad
def Res.bind {α β : Type} (r : Res α) (f : α → Res β) : Res β :=
  match r with | .ok a => f a | .exc c p => .exc c p | .bad => .bad
theorem Res.bind_ok {α β : Type} (a : α) (f : α → Res β) : (Res.ok a).bind f = f a := rfl
theorem Res.bind_exc {α β : Type} (c : Nat) (p : D) (f : α → Res β) : (Res.exc c p : Res α).bind f = .exc c p := rfl
theorem Res.bind_bad {α β : Type} (f : α → Res β) : (Res.bad : Res α).bind f = .bad := rfl
def Res.of {α : Type} : Option α → Res α
  | some a => .ok a
  | none => .bad
theorem Res.of_some {α : Type} (a : α) : Res.of (some a) = .ok a := rfl
theorem Res.of_none {α : Type} : Res.of (none : Option α) = .bad := rfl

/-! ### the IR -/
inductive Bop where
  | add | sub | mul | fdiv | mod | pow | xor | band | shr
  deriving DecidableEq, Repr
inductive Cop where
  | eq | ne | lt | le | gt | ge | isN | notN | inn | notin
  deriving DecidableEq, Repr
/-- built-in functions by name -/
inductive Bi where
  | len | abs | min | max | sum | sorted | list | tuple | int | str | dict | lenset
  deriving DecidableEq, Repr
/-- pure methods -/
inductive Mt where
  | get | index | join | partition | split | startswith | strip
  deriving DecidableEq, Repr
/-- classes for isinstance: built-in ones by number 0 bool, 1 int, 2 tuple, 3 list, 4 str; exceptions 100 + class -/
abbrev Ty := Nat

mutual
inductive Ex where
  | nul
  | var (i : Nat)
  | mv (i : Nat)
  | mvi (i : Nat) (e : Ex)
  | con (d : D)
  | glob (g : Nat)
  | bin (op : Bop) (a b : Ex)
  | neg (a : Ex)
  | cmp (op : Cop) (a b : Ex)
  | chain (o1 o2 : Cop) (a b c : Ex)
  | not (a : Ex)
  | and (es : Exs)
  | or (es : Exs)
  | idx (o i : Ex)
  | cut (o lo hi : Ex)
  | lst (es : Exs)
  | tup (es : Exs)
  | call (f : Nat) (es : Exs)
  | bi (f : Bi) (es : Exs)
  | mt (m : Mt) (o : Ex) (es : Exs)
  | isi (e : Ex) (t : List Ty)
  | lset (e : Ex)
  | revl (e : Ex)
  | calld (f : Nat) (es : Exs)
  | sortm (i : Nat)
  | comp (elt : Ex) (tg : List Nat) (it : Itx) (cond : Exs) (own : List Nat)
  | dnew
inductive Exs where
  | nil
  | cons (e : Ex) (es : Exs)
inductive Itx where
  | ls (e : Ex)
  | rng (es : Exs)
  | zip (a b : Ex)
  | enum (a : Ex)
  | rev (a : Ex)
end

/-! ### data -/
mutual
/-- no list, no dict within -/
def flat : D → Bool
  | .list _ => false
  | .dict _ => false
  | .tuple xs => flats xs
  | _ => true
def flats : List D → Bool
  | [] => true
  | d :: ds => flat d && flats ds
end

/-- a value with its owned cells: sh: shared, read only -/
inductive O where
  | sh (d : D)
  | lst (os : List O)
  | tup (os : List O)
  | dic (kvs : List (D × D))
mutual
def er : O → D
  | .sh d => d
  | .lst os => .list (ers os)
  | .tup os => .tuple (ers os)
  | .dic kvs => .dict kvs
def ers : List O → List D
  | [] => []
  | o :: os => er o :: ers os
end
mutual
/-- every list and dict in it is owned -/
def clean : O → Bool
  | .sh d => flat d
  | .lst os => cleans os
  | .tup os => cleans os
  | .dic _ => true
def cleans : List O → Bool
  | [] => true
  | o :: os => clean o && cleans os
end

/-! ### operators -/
def mulOk (i j : Int) : Bool := decide (i.natAbs.log2 + j.natAbs.log2 < 1000000)
def divOk (_ j : Int) : Bool := decide (0 < j) && decide (j.natAbs.log2 < 9000)
def powOk (i j : Int) : Bool := decide (0 ≤ j ∧ j ≤ 1000000 ∧ i.natAbs < 2 ^ 64)

def bop : Bop → D → D → Option D
  | .add, .int i, .int j => some (.int (i + j))
  | .add, .list a, .list b => if a.length + b.length ≤ sizeLine then some (.list (a ++ b)) else none
  | .add, .str a, .str b => if a.length + b.length ≤ sizeLine then some (.str (a ++ b)) else none
  | .sub, .int i, .int j => some (.int (i - j))
  | .mul, .int i, .int j => if mulOk i j then some (.int (i * j)) else none
  | .mul, .list a, .int k => if decide (-(2 ^ 63) ≤ k ∧ k < 2 ^ 63) && decide (a.length * k.toNat ≤ sizeLine) then some (.list (List.replicate k.toNat a).flatten) else none
  | .fdiv, .int i, .int j => if divOk i j then some (.int (i / j)) else none
  | .mod, .int i, .int j => if 0 < j then some (.int (i % j)) else none
  | .pow, .int i, .int j => if powOk i j then some (.int (i ^ j.toNat)) else none
  | .xor, .int i, .int j => some (.int (Builtin.bitXor i j))
  | .band, .int i, .int j => some (.int (Builtin.bitAnd i j))
  | .shr, .int i, .int j => if 0 ≤ j then some (.int (i / 2 ^ j.toNat)) else none
  | _, _, _ => none

def shaped (d : D) : Bool := SeqAt.shaped d
def cop : Cop → D → D → Option Bool
  | .eq, a, b => if shaped a && shaped b then some (PyData.eqv a b) else none
  | .ne, a, b => if shaped a && shaped b then some (!PyData.eqv a b) else none
  | .lt, .int i, .int j => some (decide (i < j))
  | .le, .int i, .int j => some (decide (i ≤ j))
  | .gt, .int i, .int j => some (decide (j < i))
  | .ge, .int i, .int j => some (decide (j ≤ i))
  | .isN, a, .none => some (match a with | .none => true | _ => false)
  | .notN, a, .none => some (match a with | .none => false | _ => true)
  | .inn, a, .list ds => if shaped a && shaped (.list ds) then some (ds.any fun z => PyData.eqv z a) else none
  | .notin, a, .list ds => if shaped a && shaped (.list ds) then some (!ds.any fun z => PyData.eqv z a) else none
  | _, _, _ => none

/-- Python's index i in n things -/
abbrev pix (n : Nat) (i : Int) : Option Nat := L2.ixN n i
def dix : D → D → Option D
  | .list ds, .int i => (pix ds.length i).bind fun k => ds[k]?
  | .tuple ds, .int i => (pix ds.length i).bind fun k => ds[k]?
  | _, _ => none
def cutD {α : Type} (xs : List α) (lo hi : Option Int) : List α :=
  (xs.drop (HT.sIx xs.length 0 lo)).take (HT.sIx xs.length xs.length hi - HT.sIx xs.length 0 lo)

def dints : List D → Option (List Int)
  | [] => some []
  | .int i :: ds => (dints ds).map (i :: ·)
  | _ => none
def minI : Int → List Int → Int
  | m, [] => m
  | m, x :: xs => minI (if x < m then x else m) xs
def maxI : Int → List Int → Int
  | m, [] => m
  | m, x :: xs => maxI (if m < x then x else m) xs
/-- the first place of a thing -/
def find : D → List D → Option Nat
  | _, [] => none
  | d, x :: xs => if PyData.eqv x d then some 0 else (find d xs).map (· + 1)
def dget (k : Int) : List (D × D) → Option D
  | [] => none
  | p :: ps => if PyData.eqv p.1 (.int k) then some p.2 else dget k ps
def dput (k : Int) (v : D) (ps : List (D × D)) : List (D × D) :=
  if (ps.any fun p => PyData.eqv p.1 (.int k)) = true then ps.map (fun p => if PyData.eqv p.1 (.int k) = true then (p.1, v) else p) else ps ++ [(.int k, v)]

/-- a new list's annotation -/
def shl (ds : List D) : O := .lst (ds.map .sh)

def sortOk (ds : List D) : Bool := (ds.all fun d => ds.all fun e => PySem.W.alike d e) &&
  ((ds.all fun d => match d with | .tuple (_ :: _) => true | _ => false) || ds.all fun d => match d with | .tuple _ => false | .none => false | _ => true) && (ds.all fun d => d.canLay0 && decide (d.depth < 60))
def sortD (ds : List D) : List D := ds.mergeSort (PySem.W.dataLe false id)
def sortO (os : List O) : List O := os.mergeSort (PySem.W.dataLe false er)
def bfn : Bi → List D → Option O
  | .len, [.list ds] => some (.sh (.int ds.length))
  | .len, [.tuple ds] => some (.sh (.int ds.length))
  | .abs, [.int i] => some (.sh (.int (if i < 0 then -i else i)))
  | .min, [.list ds] => match dints ds with | some (x :: xs) => some (.sh (.int (minI x xs))) | _ => none
  | .max, [.list ds] => match dints ds with | some (x :: xs) => some (.sh (.int (maxI x xs))) | _ => none
  | .min, [.int i, .int j] => some (.sh (.int (if j < i then j else i)))
  | .max, [.int i, .int j] => some (.sh (.int (if i < j then j else i)))
  | .sum, [.list ds] => (dints ds).map fun l => .sh (.int l.sum)
  | .list, [.list ds] => some (shl ds)
  | .list, [.tuple ds] => some (shl ds)
  | .sorted, [.list ds] => if sortOk ds then some (shl (sortD ds)) else none
  | .tuple, [.list ds] => some (.sh (.tuple ds))
  | .int, [.int i] => some (.sh (.int i))
  | .int, [.bool b] => some (.sh (.int (if b then 1 else 0)))
  | _, _ => none
def mtOk : Mt → D → Bool
  | .get, .dict _ => true
  | .index, .list _ => true
  | .join, .str _ => true
  | .partition, .str _ => true
  | .split, .str _ => true
  | .startswith, .str _ => true
  | .strip, .str _ => true
  | _, _ => false
def mtf : Mt → D → List D → Option O
  | .get, .dict kvs, [.int k, d] => some (.sh ((dget k kvs).getD d))
  | .index, .list ds, [d] => if shaped d && shaped (.list ds) then (find d ds).map fun (k : Nat) => .sh (.int (k : Int)) else none
  | _, _, _ => none
/-- isinstance of a thing, against one built-in class -/
def isTy : D → Ty → Bool
  | .bool _, 0 => true
  | .bool _, 1 => true
  | .int _, 1 => true
  | .tuple _, 2 => true
  | .list _, 3 => true
  | .str _, 4 => true
  | _, _ => false

def mkO : D → O
  | .list ds => shl ds
  | d => .sh d
/-- a list times an int: a list made just here -/
def bopO : Bop → O → O → Option D
  | .mul, .lst os, y => bop .mul (.list (ers os)) (er y)
  | .mul, x, y => match er x with | .int i => bop .mul (.int i) (er y) | _ => none
  | op, x, y => bop op (er x) (er y)

/-! ### environments -/
abbrev Env0 := List (Option D)
abbrev En := List (Option O)
def eEnv (Γ : En) : Env0 := Γ.map (Option.map er)
def getS {α : Type} : List (Option α) → Nat → Option α
  | [], _ => none
  | x :: _, 0 => x
  | _ :: xs, i + 1 => getS xs i
def setS {α : Type} : List (Option α) → Nat → Option α → List (Option α)
  | [], _, _ => []
  | _ :: xs, 0, o => o :: xs
  | x :: xs, i + 1, o => x :: setS xs i o
def wipeS {α : Type} (γ : List (Option α)) : List Nat → List (Option α)
  | [] => γ
  | i :: is => wipeS (setS γ i none) is
/-- a target: one name takes the thing, several names a tuple's parts -/
def bindD (γ : Env0) : List Nat → D → Option Env0
  | [i], d => some (setS γ i (some d))
  | is, .tuple ds => if is.length = ds.length then some ((is.zip ds).foldl (fun g p => setS g p.1 (some p.2)) γ) else none
  | _, _ => none

def compL {α β : Type} (f : α → Res (Option β)) : List α → Res (List β)
  | [] => .ok []
  | x :: xs => match f x with
    | .ok (some y) => (compL f xs).bind fun rs => .ok (y :: rs)
    | .ok none => compL f xs
    | _ => .bad

def rngD : List D → Option (List D)
  | [.int j] => if decide (-(2 ^ 62) ≤ j ∧ j < 2 ^ 62) then some ((List.range j.toNat).map fun (k : Nat) => .int k) else none
  | [.int i, .int j] => if decide (-(2 ^ 62) ≤ i ∧ i < 2 ^ 62 ∧ -(2 ^ 62) ≤ j ∧ j < 2 ^ 62) then some ((List.range (j - i).toNat).map fun (k : Nat) => .int (i + k)) else none
  | [.int i, .int j, .int c] => if decide (c ≠ 0 ∧ c.natAbs < 1073741824) && Builtin.Range.small i j c && decide (0 ≤ Builtin.Range.rangeSize i j c) then some ((List.range (Builtin.Range.rangeSize i j c).toNat).map fun (k : Nat) => .int (i + k * c)) else none
  | _ => none
def zipD : D → D → Option (List D)
  | .list a, .list b => some ((a.zip b).map fun p => .tuple [p.1, p.2])
  | _, _ => none
def enumD : D → Option (List D)
  | .list a => some (a.zipIdx.map fun p => .tuple [.int p.2, p.1])
  | _ => none
def revD : D → Option (List D)
  | .list a => some a.reverse
  | _ => none
def lsD : D → Option (List D)
  | .list a => some a
  | .tuple a => some a
  | _ => none

def isB : D → Res Bool
  | .bool b => .ok b
  | _ => .bad
def part : Ex → (D → Res (Option Int)) → D → Res (Option Int) := fun _ f d => f d

def isFresh : O → Bool
  | .lst _ => true
  | _ => false
def isNul : Ex → Bool
  | .nul => true
  | _ => false
def partOf (n : Bool) (r : Res O) : Res (Option Int) := if n then .ok none else r.bind fun o => match er o with | .int i => .ok (some i) | _ => .bad
/-- how many unlike ones, where all are unlike -/
def lsetD : D → Option Int
  | .list ds => match dints ds with | some ns => if ns.length ≤ 4000 ∧ ns.Nodup then some ns.length else none | none => none
  | _ => none
/-! ### expressions -/
mutual
def ev (Φ : Nat → List O → Res O) (gt : Nat → Option D) (γ : Env0) : Ex → Res O
  | .nul => .bad
  | .var i => (Res.of (getS γ i)).bind fun d => .ok (.sh d)
  | .mv i => (Res.of (getS γ i)).bind fun d => .ok (.sh d)
  | .mvi i e => (Res.of (getS γ i)).bind fun d => (ev Φ gt γ e).bind fun k => (Res.of (dix d (er k))).bind fun x => .ok (.sh x)
  | .con d => .ok (.sh d)
  | .glob g => (Res.of (gt g)).bind fun d => .ok (.sh d)
  | .bin op a b => (ev Φ gt γ a).bind fun x => (ev Φ gt γ b).bind fun y => (Res.of (bopO op x y)).bind fun d => .ok (mkO d)
  | .neg a => (ev Φ gt γ a).bind fun x => match er x with | .int i => .ok (.sh (.int (-i))) | _ => .bad
  | .cmp op a b => (ev Φ gt γ a).bind fun x => (ev Φ gt γ b).bind fun y => (Res.of (cop op (er x) (er y))).bind fun c => .ok (.sh (.bool c))
  | .chain o1 o2 a b c => (ev Φ gt γ a).bind fun x => (ev Φ gt γ b).bind fun y => (Res.of (cop o1 (er x) (er y))).bind fun q =>
      if q then (ev Φ gt γ c).bind fun z => (Res.of (cop o2 (er y) (er z))).bind fun q2 => .ok (.sh (.bool q2)) else .ok (.sh (.bool false))
  | .not a => (ev Φ gt γ a).bind fun x => (isB (er x)).bind fun b => .ok (.sh (.bool (!b)))
  | .and es => (evAnd Φ gt γ es).bind fun b => .ok (.sh (.bool b))
  | .or es => (evOr Φ gt γ es).bind fun b => .ok (.sh (.bool b))
  | .idx o i => (ev Φ gt γ o).bind fun x => (ev Φ gt γ i).bind fun k => (Res.of (dix (er x) (er k))).bind fun d => .ok (.sh d)
  | .cut o lo hi => (ev Φ gt γ o).bind fun x => (partOf (isNul lo) (ev Φ gt γ lo)).bind fun l => (partOf (isNul hi) (ev Φ gt γ hi)).bind fun h =>
      match er x with | .list ds => .ok (shl (cutD ds l h)) | _ => .bad
  | .lst es => (evs Φ gt γ es).bind fun os => if os.length ≤ sizeLine then .ok (.lst os) else .bad
  | .tup es => (evs Φ gt γ es).bind fun os => if os.length ≤ sizeLine then .ok (.tup os) else .bad
  | .call f es => (evs Φ gt γ es).bind fun os => Φ f ((ers os).map .sh)
  | .calld f es => (evs Φ gt γ es).bind fun os => Φ f ((ers os ++ [PyData.none]).map .sh)
  | .sortm _ => .bad
  | .bi f es => (evs Φ gt γ es).bind fun os => Res.of (bfn f (ers os))
  | .mt m o es => (ev Φ gt γ o).bind fun x => if mtOk m (er x) then (evs Φ gt γ es).bind fun os => Res.of (mtf m (er x) (ers os)) else .bad
  | .lset e => (ev Φ gt γ e).bind fun x => (Res.of (lsetD (er x))).bind fun n => .ok (.sh (.int n))
  | .revl e => (ev Φ gt γ e).bind fun x => (Res.of (revD (er x))).bind fun ds => .ok (shl ds)
  | .isi e ts => (ev Φ gt γ e).bind fun x => .ok (.sh (.bool (ts.any fun t => isTy (er x) t)))
  | .comp elt tg it cond own => (evI Φ gt γ it).bind fun ds => (compL (fun d =>
      (Res.of (bindD (wipeS γ own) tg d)).bind fun γ' => (evAnd Φ gt γ' cond).bind fun b => if b then (ev Φ gt γ' elt).bind fun o => .ok (some o) else .ok none) ds.1).bind fun os =>
      if os.length < sizeLine then .ok (.lst os) else .bad
  | .dnew => .ok (.dic [])
def evs (Φ : Nat → List O → Res O) (gt : Nat → Option D) (γ : Env0) : Exs → Res (List O)
  | .nil => .ok []
  | .cons e es => (ev Φ gt γ e).bind fun o => (evs Φ gt γ es).bind fun os => .ok (o :: os)
def evAnd (Φ : Nat → List O → Res O) (gt : Nat → Option D) (γ : Env0) : Exs → Res Bool
  | .nil => .ok true
  | .cons e es => (ev Φ gt γ e).bind fun o => (isB (er o)).bind fun b => if b then evAnd Φ gt γ es else .ok false
def evOr (Φ : Nat → List O → Res O) (gt : Nat → Option D) (γ : Env0) : Exs → Res Bool
  | .nil => .ok false
  | .cons e es => (ev Φ gt γ e).bind fun o => (isB (er o)).bind fun b => if b then .ok true else evOr Φ gt γ es
/-- what is walked; true: nothing but new things is read on the way -/
def evI (Φ : Nat → List O → Res O) (gt : Nat → Option D) (γ : Env0) : Itx → Res (List D × Bool)
  | .ls e => (ev Φ gt γ e).bind fun o => (Res.of (lsD (er o))).bind fun ds => .ok (ds, isFresh o && flats ds)
  | .rng es => (evs Φ gt γ es).bind fun os => (Res.of (rngD (ers os))).bind fun ds => .ok (ds, true)
  | .zip a b => (ev Φ gt γ a).bind fun x => (ev Φ gt γ b).bind fun y => (Res.of (zipD (er x) (er y))).bind fun ds => .ok (ds, false)
  | .enum a => (ev Φ gt γ a).bind fun x => (Res.of (enumD (er x))).bind fun ds => .ok (ds, false)
  | .rev a => (ev Φ gt γ a).bind fun x => (Res.of (revD (er x))).bind fun ds => .ok (ds, false)
end

def evPart (Φ : Nat → List O → Res O) (gt : Nat → Option D) (γ : Env0) (e : Ex) : Res (Option Int) := partOf (isNul e) (ev Φ gt γ e)
/-! ### what an expression speaks of -/
mutual
def srcs : Ex → List Nat
  | .var i => [i]
  | .mv i => [i]
  | .mvi i e => i :: srcs e
  | .bin _ a b => srcs a ++ srcs b
  | .neg a => srcs a
  | .cmp _ a b => srcs a ++ srcs b
  | .chain _ _ a b c => srcs a ++ (srcs b ++ srcs c)
  | .not a => srcs a
  | .and es => srcss es
  | .or es => srcss es
  | .idx a b => srcs a ++ srcs b
  | .cut a b c => srcs a ++ (srcs b ++ srcs c)
  | .lst es => srcss es
  | .tup es => srcss es
  | .call _ es => srcss es
  | .calld _ es => srcss es
  | .sortm i => [i]
  | .bi _ es => srcss es
  | .mt _ o es => srcs o ++ srcss es
  | .isi e _ => srcs e
  | .lset e => srcs e
  | .revl e => srcs e
  | .comp elt _ it cond _ => srcsI it ++ (srcs elt ++ srcss cond)
  | _ => []
def srcss : Exs → List Nat
  | .nil => []
  | .cons e es => srcs e ++ srcss es
def srcsI : Itx → List Nat
  | .ls e => srcs e
  | .rng es => srcss es
  | .zip a b => srcs a ++ srcs b
  | .enum a => srcs a
  | .rev a => srcs a
end
/-- these slots are shared from here on -/
def frz : List Nat → En → En
  | [], Γ => Γ
  | i :: is, Γ => frz is (setS Γ i ((getS Γ i).map fun o => .sh (er o)))

/-! ### statements -/
inductive Mu where
  | append | clear | pop | popAt | insert | reverse | set
  deriving DecidableEq, Repr
mutual
inductive Sm where
  | asg (tg : List Nat) (e : Ex)
  | mut (m : Mu) (x : Nat) (path : Exs) (args : Exs)
  | dput (x : Nat) (k e : Ex)
  | aug (i : Nat) (op : Bop) (e : Ex)
  | ret (e : Ex)
  | ite (c : Ex) (a b : Sms)
  | for (tg : List Nat) (it : Itx) (body : Sms)
  | whl (c : Ex) (body : Sms)
  | brk
  | pass
  | each (m : Mu) (y x : Nat) (path args : Exs)
  | each2 (m : Mu) (y x : Nat) (path path2 args : Exs)
  | asgm (tg : List Nat) (f : Nat) (es : Exs)
  | rai (c : Nat) (e : Ex)
inductive Sms where
  | nil
  | cons (s : Sm) (ss : Sms)
end
inductive Out where
  | nx (Γ : En) | rt (o : O) | bk (Γ : En) | exc (c : Nat) (p : D) | bad

/-- the answer goes on -/
def Res.out {α : Type} (r : Res α) (f : α → Out) : Out :=
  match r with | .ok a => f a | .exc c p => .exc c p | .bad => .bad
def Out.then (r : Out) (f : En → Out) : Out :=
  match r with | .nx Γ => f Γ | r => r

/-! a thing to be kept: with its owned cells -/
mutual
def evO (Φ : Nat → List O → Res O) (gt : Nat → Option D) : Ex → En → Res (O × En)
  | .mv i, Γ => match getS Γ i with
    | some (.sh d) => .ok (.sh d, Γ)
    | some o => .ok (o, setS Γ i none)
    | none => .bad
  | .mvi i e, Γ => match getS Γ i with
    | some (.lst os) => (ev Φ gt (eEnv Γ) e).bind fun k => match er k with
      | .int z => (Res.of ((pix os.length z).bind fun j => os[j]?)).bind fun o => .ok (o, setS Γ i none)
      | _ => .bad
    | _ => .bad
  | .lst es, Γ => (evOs Φ gt es Γ).bind fun p => if p.1.length ≤ sizeLine then .ok (.lst p.1, p.2) else .bad
  | .tup es, Γ => (evOs Φ gt es Γ).bind fun p => if p.1.length ≤ sizeLine then .ok (.tup p.1, p.2) else .bad
  | .sortm i, Γ => match getS Γ i with
    | some (.lst os) => if sortOk (ers os) then .ok (.lst (sortO os), setS Γ i none) else .bad
    | _ => .bad
  | e, Γ => (ev Φ gt (eEnv Γ) e).bind fun o => .ok (o, if clean o then Γ else frz (srcs e) Γ)
def evOs (Φ : Nat → List O → Res O) (gt : Nat → Option D) : Exs → En → Res (List O × En)
  | .nil, Γ => .ok ([], Γ)
  | .cons e es, Γ => (evO Φ gt e Γ).bind fun p => (evOs Φ gt es p.2).bind fun q => .ok (p.1 :: q.1, q.2)
end
def bindO (Γ : En) : List Nat → O → Option En
  | [i], o => some (setS Γ i (some o))
  | is, .tup os => if is.length = os.length then some ((is.zip os).foldl (fun g p => setS g p.1 (some p.2)) Γ) else none
  | is, .sh (.tuple ds) => if is.length = (ds.map O.sh).length then some ((is.zip (ds.map O.sh)).foldl (fun g p => setS g p.1 (some p.2)) Γ) else none
  | _, _ => none
def mutO : Mu → List O → List O → Option (List O)
  | .append, os, [o] => if os.length < sizeLine then some (os ++ [o]) else none
  | .clear, _, [] => some []
  | .reverse, os, [] => some os.reverse
  | .pop, os, [] => if os.length = 0 then none else some os.dropLast
  | .popAt, os, [.sh (.int i)] => if decide (-(2 ^ 63) ≤ i ∧ i < 2 ^ 63) then (pix os.length i).map fun k => os.eraseIdx k else none
  | .insert, os, [.sh (.int i), o] => if decide (os.length < sizeLine ∧ 0 ≤ i ∧ i < 2 ^ 63) then some (os.take i.toNat ++ [o] ++ os.drop i.toNat) else none
  | .set, os, [.sh (.int i), o] => (pix os.length i).map fun k => os.set k o
  | _, _, _ => none
/-- the list at a place within -/
def locO : List Int → O → Option (List O)
  | [], .lst os => some os
  | i :: is, .lst os => ((pix os.length i).bind fun j => os[j]?).bind (locO is)
  | i :: is, .tup os => ((pix os.length i).bind fun j => os[j]?).bind (locO is)
  | _, _ => none
/-- .. another one there -/
def repO (es : List O) : List Int → O → Option O
  | [], .lst _ => some (.lst es)
  | i :: is, .lst os => (pix os.length i).bind fun j => os[j]?.bind fun o => (repO es is o).map fun o' => .lst (os.set j o')
  | i :: is, .tup os => (pix os.length i).bind fun j => os[j]?.bind fun o => (repO es is o).map fun o' => .tup (os.set j o')
  | _, _ => none
/-- how many things at a place within -/
def lenO : List Int → O → Option Nat
  | [], .lst os => some os.length
  | [], .tup os => some os.length
  | i :: is, .lst os => ((pix os.length i).bind fun j => os[j]?).bind (lenO is)
  | i :: is, .tup os => ((pix os.length i).bind fun j => os[j]?).bind (lenO is)
  | _, _ => none
def atO (Γ : En) (x : Nat) (k : List Int) : Option (List O) := (getS Γ x).bind (locO k)
def putO (Γ : En) (x : Nat) (es : List O) (k : List Int) : Option En := (getS Γ x).bind fun o => (repO es k o).map fun o' => setS Γ x (some o')
def mutAt (m : Mu) (x : Nat) (k : List Int) (args : List O) (Γ : En) : Option En :=
  (atO Γ x k).bind fun es => (mutO m es args).bind fun es' => putO Γ x es' k
def evPath (Φ : Nat → List O → Res O) (gt : Nat → Option D) (γ : Env0) : Exs → Res (List Int)
  | .nil => .ok []
  | .cons e es => (ev Φ gt γ e).bind fun o => match er o with | .int i => (evPath Φ gt γ es).bind fun is => .ok (i :: is) | _ => .bad
/-- each thing of a list -/
def eachI (m : Mu) (x : Nat) (k : List Int) (args : List O) : List Nat → En → Option En
  | [], Γ => some Γ
  | i :: is, Γ => (mutAt m x (k ++ [(i : Int)]) args Γ).bind (eachI m x k args is)
/-- each of several lists may be cleared, or take a thing more -/
def each2Ok (m : Mu) (args ws : List O) : Bool := (match m, args with | .clear, [] => true | .append, [.sh d] => flat d | _, _ => false) && (ws.all fun o => match o with | .lst es => decide (es.length + ws.length ≤ sizeLine) | _ => false)
def scal : D → Bool
  | .none => true | .bool _ => true | .int _ => true | .str _ => true | _ => false
def forL (f : D → En → Out) : List D → En → Out
  | [], Γ => .nx Γ
  | d :: ds, Γ => match f d Γ with
    | .nx Γ' => forL f ds Γ'
    | .bk Γ' => .nx Γ'
    | r => r
def whlN (c : En → Res Bool) (f : En → Out) : Nat → En → Out
  | 0, _ => .bad
  | n + 1, Γ => (c Γ).out fun b => if b then (match f Γ with
      | .nx Γ' => whlN c f n Γ'
      | .bk Γ' => .nx Γ'
      | r => r) else .nx Γ
/-- as many turns as a while loop may take; not to be computed with -/
noncomputable def fuelW : Nat := Classical.choose (⟨1000000, rfl⟩ : ∃ n : Nat, n = 1000000)
theorem fuelW_eq : fuelW = 1000000 := Classical.choose_spec (⟨1000000, rfl⟩ : ∃ n : Nat, n = 1000000)
mutual
noncomputable def exec (Φ : Nat → List O → Res O) (gt : Nat → Option D) : Sm → En → Out
  | .asg tg e, Γ => (evO Φ gt e Γ).out fun p => (Res.of (bindO p.2 tg p.1)).out .nx
  | .mut .set x path args, Γ => match args with
    | .cons i (.cons e .nil) => (evO Φ gt e Γ).out fun p => (Res.of (getS p.2 x)).out fun _ => (evPath Φ gt (eEnv p.2) path).out fun ks => if (atO p.2 x ks).isSome then (ev Φ gt (eEnv p.2) i).out fun k =>
        (Res.of (mutAt .set x ks [.sh (er k), p.1] p.2)).out .nx else .bad
    | _ => .bad
  | .mut m x path args, Γ => (Res.of (getS Γ x)).out fun _ => (evPath Φ gt (eEnv Γ) path).out fun ks => if (atO Γ x ks).isSome then (evOs Φ gt args Γ).out fun p => (Res.of (mutAt m x ks p.1 p.2)).out .nx else .bad
  | .dput x k e, Γ => (ev Φ gt (eEnv Γ) e).out fun v => match getS Γ x with
      | some (.dic kvs) => (ev Φ gt (eEnv Γ) k).out fun z => match er z with
        | .int i => if scal (er v) && decide (kvs.length < sizeLine) then .nx (setS Γ x (some (.dic (dput i (er v) kvs)))) else .bad
        | _ => .bad
      | _ => .bad
  | .aug i op e, Γ => (Res.of (getS (eEnv Γ) i)).out fun a => (ev Φ gt (eEnv Γ) e).out fun b => (match a, er b with | .int _, .int _ => (Res.of (bop op a (er b))).out fun d => .nx (setS Γ i (some (.sh d))) | _, _ => .bad)
  | .ret e, Γ => (evO Φ gt e Γ).out fun p => .rt p.1
  | .ite c a b, Γ => (ev Φ gt (eEnv Γ) c).out fun o => (isB (er o)).out fun q => if q then execs Φ gt a Γ else execs Φ gt b Γ
  | .for tg it body, Γ => (evI Φ gt (eEnv Γ) it).out fun p =>
      forL (fun d Γ' => (Res.of (bindO Γ' tg (.sh d))).out fun Γ'' => execs Φ gt body Γ'') p.1 (if p.2 then Γ else frz (srcsI it) Γ)
  | .whl c body, Γ => whlN (fun Γ => (ev Φ gt (eEnv Γ) c).bind fun o => isB (er o)) (execs Φ gt body) fuelW Γ
  | .brk, Γ => .bk Γ
  | .pass, Γ => .nx Γ
  | .each m y x path args, Γ => (Res.of (getS Γ x)).out fun _ => (evPath Φ gt (eEnv Γ) path).out fun k => (Res.of (atO Γ x k)).out fun es => match evOs Φ gt args [] with
      | .ok p => if y < Γ.length then (Res.of (eachI m x k p.1 (List.range es.length) (setS Γ y none))).out .nx else .bad
      | _ => .bad
  | .each2 m y x path path2 args, Γ => (Res.of (getS Γ x)).out fun _ => (evPath Φ gt (eEnv Γ) path).out fun k => (Res.of (atO Γ x k)).out fun es => (evPath Φ gt (eEnv Γ) path2).out fun k2 => (Res.of (atO Γ x k2)).out fun es2 => match evOs Φ gt args [] with
      | .ok p => if y < Γ.length ∧ x ≠ y ∧ each2Ok m p.1 (es ++ es2) = true then .nx (setS (setS Γ y none) x none) else .bad
      | _ => .bad
  | .asgm tg f es, Γ => (evOs Φ gt es Γ).out fun p => match Φ f p.1 with
    | .ok o => (Res.of (bindO p.2 tg o)).out .nx
    | _ => .bad
  | .rai _ _, _ => .bad
noncomputable def execs (Φ : Nat → List O → Res O) (gt : Nat → Option D) : Sms → En → Out
  | .nil, Γ => .nx Γ
  | .cons s ss, Γ => (exec Φ gt s Γ).then (execs Φ gt ss)
end

/-! ### defs -/
structure Fd where
  np : Nat
  nl : Nat
  body : Sms
abbrev Tab := Nat → Option Fd
def startO (nl : Nat) (os : List O) : En := os.map some ++ List.replicate (nl - os.length) none
def start (nl : Nat) (ds : List D) : En := ds.map (fun d => some (.sh d)) ++ List.replicate (nl - ds.length) none
theorem startO_sh (nl : Nat) (ds : List D) : startO nl (ds.map .sh) = start nl ds := by simp [startO, start, Function.comp_def]
noncomputable def runFd (Φ : Nat → List O → Res O) (gt : Nat → Option D) (fd : Fd) (os : List O) : Res O :=
  if os.length = fd.np then
    match execs Φ gt fd.body (startO fd.nl os) with
    | .rt o => .ok o
    | .nx _ => .ok (.sh .none)
    | .exc c p => .exc c p
    | _ => .bad
  else .bad
noncomputable def callO (tab : Tab) (gt : Nat → Option D) : Nat → Nat → List O → Res O
  | 0, _, _ => .bad
  | n + 1, f, os => match tab f with
    | some fd => runFd (callO tab gt n) gt fd os
    | none => .bad
/-- .. of shared things -/
noncomputable def callF (tab : Tab) (gt : Nat → Option D) (n f : Nat) (ds : List D) : Res O := callO tab gt n f (ds.map .sh)
end Rp

set_option Elab.async false
set_option linter.all false
set_option maxRecDepth 100000
set_option maxHeartbeats 1000000
/-! RpRel: what stands in the heap for a datum, for an owned thing. -/
namespace Rp
open PySem PySem.Spec PyProof.Rows L2

def keyD : Key → D
  | .inl i => .int i
  | .inr x => .str x
def valD : V → Option D
  | .non => some .none
  | .bl b => some (.bool b)
  | .int i => some (.int i)
  | .str x => some (.str x)
  | _ => none
def KRel : List (Key × V) → List (D × D) → Prop := Paired fun p q => keyD p.1 = q.1 ∧ valD p.2 = some q.2

mutual
/-- v stands for d in H; the lists and dicts in it are at addresses of which av holds -/
inductive Rv (H : Hp) (av : Addr → Prop) : V → D → Prop
  | non : Rv H av .non .none
  | bl (b : Bool) : Rv H av (.bl b) (.bool b)
  | int (i : Int) : Rv H av (.int i) (.int i)
  | str (x : Str) : Rv H av (.str x) (.str x)
  | lst {a : Addr} {xs : List V} {ds : List D} : Rd H a (.lst xs) → av a → RvAll H av xs ds → Rv H av (.ref a) (.list ds)
  | tup {a : Addr} {xs : List V} {ds : List D} : Rd H a (.tup xs) → RvAll H av xs ds → Rv H av (.ref a) (.tuple ds)
  | dic {a : Addr} {kvs : List (Key × V)} {ps : List (D × D)} : H a = some (.dK kvs) → av a → KRel kvs ps → Rv H av (.ref a) (.dict ps)
inductive RvAll (H : Hp) (av : Addr → Prop) : List V → List D → Prop
  | nil : RvAll H av [] []
  | cons {v : V} {vs : List V} {d : D} {ds : List D} : Rv H av v d → RvAll H av vs ds → RvAll H av (v :: vs) (d :: ds)
end

/-- what a change of the heap leaves: what av holds of, and whatever is no list and no dict -/
structure Kept (av : Addr → Prop) (H H' : Hp) : Prop where
  on : ∀ a o, H a = some o → av a → H' a = some o
  fix : ∀ a o, H a = some o → (∀ xs, o ≠ .lst xs) → (∀ kvs, o ≠ .dK kvs) → H' a = some o
theorem Kept.of {av : Addr → Prop} {H H' : Hp} (s : Same H H') : Kept av H H' := ⟨fun a o e _ => s a o e, fun a o e _ _ => s a o e⟩
theorem Kept.refl {av : Addr → Prop} {H : Hp} : Kept av H H := ⟨fun _ _ e _ => e, fun _ _ e _ _ => e⟩
theorem Kept.trans {av : Addr → Prop} {H H1 H2 : Hp} (a : Kept av H H1) (b : Kept av H1 H2) : Kept av H H2 :=
  ⟨fun c o e h => b.on c o (a.on c o e h) h, fun c o e h1 h2 => b.fix c o (a.fix c o e h1 h2) h1 h2⟩
theorem Kept.weak {av av' : Addr → Prop} {H H' : Hp} (k : Kept av H H') (h : ∀ a, av' a → av a) : Kept av' H H' := ⟨fun a o e x => k.on a o e (h a x), k.fix⟩
theorem Kept.seq {av : Addr → Prop} {H H' : Hp} {a : Addr} {u : HO} (k : Kept av H H') (h : Rd H a u) (ha : av a) : Rd H' a u := by
  rcases h with h | ⟨o, h⟩
  · exact .inl (k.on _ _ h ha)
  · exact .inr ⟨o, k.on _ _ h ha⟩
theorem Kept.seqT {av : Addr → Prop} {H H' : Hp} {a : Addr} {xs : List V} (k : Kept av H H') (h : Rd H a (.tup xs)) : Rd H' a (.tup xs) := by
  rcases h with h | ⟨o, h⟩
  · exact .inl (k.fix _ _ h (fun _ z => by cases z) fun _ z => by cases z)
  · exact .inr ⟨o, k.fix _ _ h (fun _ z => by cases z) fun _ z => by cases z⟩

mutual
theorem Rv.kept {H H' : Hp} {av av' : Addr → Prop} (k : Kept av H H') (w : ∀ a, av a → av' a) : ∀ {d : D} {v : V}, Rv H av v d → Rv H' av' v d
  | .none, _, h => by cases h; exact .non
  | .bool b, _, h => by cases h; exact .bl b
  | .int i, _, h => by cases h; exact .int i
  | .str x, _, h => by cases h; exact .str x
  | .list ds, _, h => by
    cases h with
    | lst hs ha hx => exact .lst (k.seq hs ha) (w _ ha) (RvAll.kept k w hx)
  | .tuple ds, _, h => by
    cases h with
    | tup hs hx => exact .tup (k.seqT hs) (RvAll.kept k w hx)
  | .dict ps, _, h => by
    cases h with
    | dic hs ha hx => exact .dic (k.on _ _ hs ha) (w _ ha) hx
theorem RvAll.kept {H H' : Hp} {av av' : Addr → Prop} (k : Kept av H H') (w : ∀ a, av a → av' a) : ∀ {ds : List D} {vs : List V}, RvAll H av vs ds → RvAll H' av' vs ds
  | [], _, h => by cases h; exact .nil
  | d :: ds, _, h => by
    cases h with
    | cons h1 h2 => exact .cons (Rv.kept k w h1) (RvAll.kept k w h2)
end
theorem Rv.same {H H' : Hp} {av : Addr → Prop} {v : V} {d : D} (h : Rv H av v d) (s : Same H H') : Rv H' av v d := h.kept (.of s) fun _ x => x
theorem RvAll.same {H H' : Hp} {av : Addr → Prop} {vs : List V} {ds : List D} (h : RvAll H av vs ds) (s : Same H H') : RvAll H' av vs ds := h.kept (.of s) fun _ x => x
theorem Rv.weak {H : Hp} {av av' : Addr → Prop} {v : V} {d : D} (h : Rv H av v d) (w : ∀ a, av a → av' a) : Rv H av' v d := h.kept .refl w
theorem RvAll.weak {H : Hp} {av av' : Addr → Prop} {vs : List V} {ds : List D} (h : RvAll H av vs ds) (w : ∀ a, av a → av' a) : RvAll H av' vs ds := h.kept .refl w
theorem RvAll.length {H : Hp} {av : Addr → Prop} : ∀ {vs : List V} {ds : List D}, RvAll H av vs ds → vs.length = ds.length
  | [], _, h => by cases h; rfl
  | v :: vs, _, h => by
    cases h with
    | cons h1 h2 => simp [RvAll.length h2]
theorem RvAll.get {H : Hp} {av : Addr → Prop} : ∀ {ds : List D} {vs : List V} {i : Nat} {d : D}, RvAll H av vs ds → ds[i]? = some d → ∃ v, vs[i]? = some v ∧ Rv H av v d
  | [], _, _, _, h, e => by simp at e
  | x :: xs, _, 0, d, h, e => by
    cases h with
    | cons h1 h2 => simp at e; subst e; exact ⟨_, rfl, h1⟩
  | x :: xs, _, i + 1, d, h, e => by
    cases h with
    | cons h1 h2 =>
      obtain ⟨v, e1, r⟩ := RvAll.get (i := i) (d := d) h2 (by simpa using e)
      exact ⟨v, by simpa using e1, r⟩
theorem RvAll.append {H : Hp} {av : Addr → Prop} : ∀ {ds es : List D} {vs us : List V}, RvAll H av vs ds → RvAll H av us es → RvAll H av (vs ++ us) (ds ++ es)
  | [], _, _, _, h, h' => by cases h; exact h'
  | x :: xs, _, _, _, h, h' => by
    cases h with
    | cons h1 h2 => exact .cons h1 (RvAll.append h2 h')
theorem RvAll.take {H : Hp} {av : Addr → Prop} : ∀ {ds : List D} {vs : List V} (n : Nat), RvAll H av vs ds → RvAll H av (vs.take n) (ds.take n)
  | _, _, 0, h => by simp; exact .nil
  | [], _, n + 1, h => by cases h; exact .nil
  | x :: xs, _, n + 1, h => by
    cases h with
    | cons h1 h2 => exact .cons h1 (RvAll.take n h2)
theorem RvAll.drop {H : Hp} {av : Addr → Prop} : ∀ {ds : List D} {vs : List V} (n : Nat), RvAll H av vs ds → RvAll H av (vs.drop n) (ds.drop n)
  | _, _, 0, h => by simpa using h
  | [], _, n + 1, h => by cases h; exact .nil
  | x :: xs, _, n + 1, h => by
    cases h with
    | cons h1 h2 => exact RvAll.drop n h2
theorem RvAll.rev {H : Hp} {av : Addr → Prop} : ∀ {ds : List D} {vs : List V}, RvAll H av vs ds → RvAll H av vs.reverse ds.reverse
  | [], _, h => by cases h; exact .nil
  | x :: xs, _, h => by
    cases h with
    | cons h1 h2 => simp only [List.reverse_cons]; exact RvAll.append (RvAll.rev h2) (.cons h1 .nil)
theorem RvAll.of_append {H : Hp} {av : Addr → Prop} : ∀ {ds es : List D} {vs : List V}, RvAll H av vs (ds ++ es) → ∃ v1 v2, vs = v1 ++ v2 ∧ RvAll H av v1 ds ∧ RvAll H av v2 es
  | [], _, vs, h => ⟨[], vs, rfl, .nil, h⟩
  | x :: xs, es, _, h => by
    cases h with
    | cons h1 h2 =>
      obtain ⟨v1, v2, e, r1, r2⟩ := RvAll.of_append (ds := xs) h2
      subst e
      exact ⟨_ :: v1, v2, rfl, .cons h1 r1, r2⟩
/-- scalars -/
theorem Rv.val {H : Hp} {av : Addr → Prop} {v : V} {d : D} (h : valD v = some d) : Rv H av v d := by
  cases v <;> simp [valD] at h <;> subst h
  · exact .non
  · exact .bl _
  · exact .int _
  · exact .str _
theorem Rv.flat_any {H : Hp} {av av' : Addr → Prop} : ∀ {d : D} {v : V}, flat d = true → Rv H av v d → Rv H av' v d := by
  intro d
  exact PyData.rec (motive_1 := fun d => ∀ {v : V}, flat d = true → Rv H av v d → Rv H av' v d)
    (motive_2 := fun ds => ∀ {vs : List V}, flats ds = true → RvAll H av vs ds → RvAll H av' vs ds)
    (motive_3 := fun _ => True) (motive_4 := fun _ => True)
    (fun _ h => by cases h; exact .non) (fun b _ _ h => by cases h; exact .bl b) (fun i _ _ h => by cases h; exact .int i) (fun x _ _ h => by cases h; exact .str x)
    (fun xs _ _ hf => by simp [flat] at hf) (fun xs ih _ hf h => by
      cases h with
      | tup hs hx => exact .tup hs (ih (by simpa [flat] using hf) hx))
    (fun _ _ _ hf => by simp [flat] at hf)
    (fun _ h => by cases h; exact .nil) (fun d ds ih1 ih2 _ hf h => by
      cases h with
      | cons h1 h2 =>
        simp [flats] at hf
        exact .cons (ih1 hf.1 h1) (ih2 hf.2 h2))
    trivial (fun _ _ _ _ => trivial) (fun _ _ _ _ => trivial) d
theorem RvAll.flat_any {H : Hp} {av av' : Addr → Prop} : ∀ {ds : List D} {vs : List V}, flats ds = true → RvAll H av vs ds → RvAll H av' vs ds
  | [], _, _, h => by cases h; exact .nil
  | d :: ds, _, hf, h => by
    simp [flats] at hf
    cases h with
    | cons h1 h2 => exact .cons (Rv.flat_any hf.1 h1) (RvAll.flat_any hf.2 h2)
mutual
/-- shaped data as HandS reads it -/
theorem Rv.dp {K : PySem.W.Frag} {H : Hp} {av : Addr → Prop} : ∀ {d : D} {v : V}, d.canLay0 = true → Rv H av v d → Dp K H v d
  | .none, _, _, h => by cases h; exact .non
  | .bool b, _, _, h => by cases h; exact .bl b
  | .int i, _, _, h => by cases h; exact .int i
  | .str x, _, _, h => by cases h; exact .str x
  | .list ds, _, c, h => by
    cases h with
    | lst hs ha hx => exact .lst (.inl hs) (RvAll.dp (by simpa [PyData.canLay0] using c) hx)
  | .tuple ds, _, c, h => by
    cases h with
    | tup hs hx => exact .tup (.inl hs) (RvAll.dp (by simpa [PyData.canLay0] using c) hx)
  | .dict ps, _, c, h => by simp [PyData.canLay0] at c
theorem RvAll.dp {K : PySem.W.Frag} {H : Hp} {av : Addr → Prop} : ∀ {ds : List D} {vs : List V}, PyData.canLayAll0 ds = true → RvAll H av vs ds → DpAll K H vs ds
  | [], _, _, h => by cases h; exact .nil
  | d :: ds, _, c, h => by
    simp [PyData.canLayAll0] at c
    cases h with
    | cons h1 h2 => exact .cons (Rv.dp c.1 h1) (RvAll.dp c.2 h2)
end

/-! ### owned things -/
mutual
def rO (H : Hp) (av : Addr → Prop) : O → V → List Addr → Prop
  | .sh d, v, cs => Rv H av v d ∧ cs = []
  | .lst os, v, cs => ∃ (a : Addr) (vs : List V) (cs' : List Addr), v = .ref a ∧ H a = some (.lst vs) ∧ cs = a :: cs' ∧ rOs H av os vs cs'
  | .tup os, v, cs => ∃ (a : Addr) (vs : List V), v = .ref a ∧ H a = some (.tup vs) ∧ rOs H av os vs cs
  | .dic ps, v, cs => ∃ (a : Addr) (kvs : List (Key × V)), v = .ref a ∧ H a = some (.dK kvs) ∧ cs = [a] ∧ KRel kvs ps
def rOs (H : Hp) (av : Addr → Prop) : List O → List V → List Addr → Prop
  | [], vs, cs => vs = [] ∧ cs = []
  | o :: os, vs, cs => ∃ (v : V) (vs' : List V) (c1 c2 : List Addr), vs = v :: vs' ∧ cs = c1 ++ c2 ∧ rO H av o v c1 ∧ rOs H av os vs' c2
end
mutual
theorem rO.kept {H H' : Hp} {av av' : Addr → Prop} (k : Kept av H H') (w : ∀ a, av a → av' a) : ∀ {o : O} {v : V} {cs : List Addr}, rO H av o v cs → (∀ a ∈ cs, ∀ u, H a = some u → H' a = some u) → rO H' av' o v cs
  | .sh d, v, cs, h, _ => by
    simp only [rO] at h ⊢
    exact ⟨h.1.kept k w, h.2⟩
  | .lst os, v, cs, h, hc => by
    simp only [rO] at h ⊢
    obtain ⟨a, vs, cs', e1, e2, e3, h⟩ := h
    subst e3
    exact ⟨a, vs, cs', e1, hc a (by simp) _ e2, rfl, rOs.kept k w h fun b hb => hc b (by simp [hb])⟩
  | .tup os, v, cs, h, hc => by
    simp only [rO] at h ⊢
    obtain ⟨a, vs, e1, e2, h⟩ := h
    exact ⟨a, vs, e1, k.fix _ _ e2 (fun _ z => by cases z) (fun _ z => by cases z), rOs.kept k w h hc⟩
  | .dic ps, v, cs, h, hc => by
    simp only [rO] at h ⊢
    obtain ⟨a, kvs, e1, e2, e3, h⟩ := h
    subst e3
    exact ⟨a, kvs, e1, hc a (by simp) _ e2, rfl, h⟩
theorem rOs.kept {H H' : Hp} {av av' : Addr → Prop} (k : Kept av H H') (w : ∀ a, av a → av' a) : ∀ {os : List O} {vs : List V} {cs : List Addr}, rOs H av os vs cs → (∀ a ∈ cs, ∀ u, H a = some u → H' a = some u) → rOs H' av' os vs cs
  | [], vs, cs, h, _ => by simpa only [rOs] using h
  | o :: os, vs, cs, h, hc => by
    simp only [rOs] at h ⊢
    obtain ⟨v, vs', c1, c2, e1, e2, h1, h2⟩ := h
    subst e2
    exact ⟨v, vs', c1, c2, e1, rfl, rO.kept k w h1 fun b hb => hc b (by simp [hb]), rOs.kept k w h2 fun b hb => hc b (by simp [hb])⟩
end
mutual
theorem rO.rv {H : Hp} {av av' : Addr → Prop} (w : ∀ a, av a → av' a) : ∀ {o : O} {v : V} {cs : List Addr}, rO H av o v cs → (∀ a ∈ cs, av' a) → Rv H av' v (er o)
  | .sh d, v, cs, h, _ => by
    simp only [rO] at h
    simp only [er]
    exact h.1.weak w
  | .lst os, v, cs, h, hc => by
    simp only [rO] at h
    simp only [er]
    obtain ⟨a, vs, cs', e1, e2, e3, h⟩ := h
    subst e1 e3
    exact .lst (.inl e2) (hc a (by simp)) (rOs.rv w h fun b hb => hc b (by simp [hb]))
  | .tup os, v, cs, h, hc => by
    simp only [rO] at h
    simp only [er]
    obtain ⟨a, vs, e1, e2, h⟩ := h
    subst e1
    exact .tup (.inl e2) (rOs.rv w h hc)
  | .dic ps, v, cs, h, hc => by
    simp only [rO] at h
    simp only [er]
    obtain ⟨a, kvs, e1, e2, e3, h⟩ := h
    subst e1 e3
    exact .dic e2 (hc a (by simp)) h
theorem rOs.rv {H : Hp} {av av' : Addr → Prop} (w : ∀ a, av a → av' a) : ∀ {os : List O} {vs : List V} {cs : List Addr}, rOs H av os vs cs → (∀ a ∈ cs, av' a) → RvAll H av' vs (ers os)
  | [], vs, cs, h, _ => by
    simp only [rOs] at h
    rw [h.1]
    exact .nil
  | o :: os, vs, cs, h, hc => by
    simp only [rOs] at h
    simp only [ers]
    obtain ⟨v, vs', c1, c2, e1, e2, h1, h2⟩ := h
    subst e1 e2
    exact .cons (rO.rv w h1 fun b hb => hc b (by simp [hb])) (rOs.rv w h2 fun b hb => hc b (by simp [hb]))
end
theorem rO.weak {H : Hp} {av av' : Addr → Prop} {o : O} {v : V} {cs : List Addr} (h : rO H av o v cs) (w : ∀ a, av a → av' a) : rO H av' o v cs := h.kept .refl w fun _ _ _ e => e
theorem rO.same {H H' : Hp} {av : Addr → Prop} {o : O} {v : V} {cs : List Addr} (h : rO H av o v cs) (s : Same H H') : rO H' av o v cs := h.kept (.of s) (fun _ x => x) fun a _ u e => s a u e
theorem rOs.weak {H : Hp} {av av' : Addr → Prop} {os : List O} {vs : List V} {cs : List Addr} (h : rOs H av os vs cs) (w : ∀ a, av a → av' a) : rOs H av' os vs cs := h.kept .refl w fun _ _ _ e => e
theorem rOs.same {H H' : Hp} {av : Addr → Prop} {os : List O} {vs : List V} {cs : List Addr} (h : rOs H av os vs cs) (s : Same H H') : rOs H' av os vs cs := h.kept (.of s) (fun _ x => x) fun a _ u e => s a u e
theorem rOs.shs {H : Hp} {av : Addr → Prop} : ∀ {ds : List D} {vs : List V}, RvAll H av vs ds → rOs H av (ds.map .sh) vs []
  | [], _, h => by cases h; simp [rOs]
  | d :: ds, _, h => by
    cases h with
    | cons h1 h2 =>
      simp only [List.map_cons, rOs]
      exact ⟨_, _, [], [], rfl, rfl, by simp only [rO]; exact ⟨h1, trivial⟩, rOs.shs h2⟩
theorem rOs.length {H : Hp} {av : Addr → Prop} : ∀ {os : List O} {vs : List V} {cs : List Addr}, rOs H av os vs cs → vs.length = os.length
  | [], _, _, h => by
    simp only [rOs] at h
    rw [h.1]; rfl
  | o :: os, _, _, h => by
    simp only [rOs] at h
    obtain ⟨v, vs', c1, c2, e1, e2, h1, h2⟩ := h
    subst e1
    simp [rOs.length h2]
theorem ers_map (os : List O) : ers os = os.map er := by
  induction os with
  | nil => rfl
  | cons o os ih => simp [ers, ih]
theorem ers_length (os : List O) : (ers os).length = os.length := by rw [ers_map]; simp
theorem ers_shs (ds : List D) : ers (ds.map .sh) = ds := by
  induction ds with
  | nil => rfl
  | cons d ds ih => simp [ers, er, ih]
/-- a clean thing leans on nothing shared -/
theorem clean_sh {d : D} (h : clean (.sh d) = true) : flat d = true := by simpa [clean] using h
mutual
theorem rO.clean_any {H : Hp} {av av' : Addr → Prop} : ∀ {o : O} {v : V} {cs : List Addr}, clean o = true → rO H av o v cs → rO H av' o v cs
  | .sh d, v, cs, c, h => by
    simp only [rO] at h ⊢
    exact ⟨h.1.flat_any (clean_sh c), h.2⟩
  | .lst os, v, cs, c, h => by
    simp only [rO] at h ⊢
    obtain ⟨a, vs, cs', e1, e2, e3, h⟩ := h
    exact ⟨a, vs, cs', e1, e2, e3, rOs.clean_any (by simpa [clean] using c) h⟩
  | .tup os, v, cs, c, h => by
    simp only [rO] at h ⊢
    obtain ⟨a, vs, e1, e2, h⟩ := h
    exact ⟨a, vs, e1, e2, rOs.clean_any (by simpa [clean] using c) h⟩
  | .dic ps, v, cs, c, h => by simpa only [rO] using h
theorem rOs.clean_any {H : Hp} {av av' : Addr → Prop} : ∀ {os : List O} {vs : List V} {cs : List Addr}, cleans os = true → rOs H av os vs cs → rOs H av' os vs cs
  | [], vs, cs, _, h => by simpa only [rOs] using h
  | o :: os, vs, cs, c, h => by
    simp only [cleans, Bool.and_eq_true] at c
    simp only [rOs] at h ⊢
    obtain ⟨v, vs', c1, c2, e1, e2, h1, h2⟩ := h
    exact ⟨v, vs', c1, c2, e1, e2, rO.clean_any c.1 h1, rOs.clean_any c.2 h2⟩
end

theorem rd_there {H : Hp} {a : Addr} {u : HO} (h : Rd H a u) : H a ≠ none := by
  rcases h with h | ⟨o, h⟩ <;> rw [h] <;> exact fun z => by cases z
mutual
theorem Rv.there {H : Hp} {av : Addr → Prop} : ∀ {d : D} {v : V}, Rv H av v d → Rv H (fun a => av a ∧ H a ≠ none) v d
  | .none, _, h => by cases h; exact .non
  | .bool b, _, h => by cases h; exact .bl b
  | .int i, _, h => by cases h; exact .int i
  | .str x, _, h => by cases h; exact .str x
  | .list ds, _, h => by
    cases h with
    | lst hs ha hx => exact .lst hs ⟨ha, rd_there hs⟩ (RvAll.there hx)
  | .tuple ds, _, h => by
    cases h with
    | tup hs hx => exact .tup hs (RvAll.there hx)
  | .dict ps, _, h => by
    cases h with
    | dic hs ha hx => exact .dic hs ⟨ha, fun z => by rw [z] at hs; cases hs⟩ hx
theorem RvAll.there {H : Hp} {av : Addr → Prop} : ∀ {ds : List D} {vs : List V}, RvAll H av vs ds → RvAll H (fun a => av a ∧ H a ≠ none) vs ds
  | [], _, h => by cases h; exact .nil
  | d :: ds, _, h => by
    cases h with
    | cons h1 h2 => exact .cons (Rv.there h1) (RvAll.there h2)
end
/-- apart from new addresses -/
theorem Rv.apart {H : Hp} {av : Addr → Prop} {d : D} {v : V} {cs : List Addr} (h : Rv H av v d) (n : ∀ a ∈ cs, H a = none) : Rv H (fun a => av a ∧ a ∉ cs) v d :=
  h.there.weak fun a x => ⟨x.1, fun z => x.2 (n a z)⟩
theorem RvAll.apart {H : Hp} {av : Addr → Prop} {ds : List D} {vs : List V} {cs : List Addr} (h : RvAll H av vs ds) (n : ∀ a ∈ cs, H a = none) : RvAll H (fun a => av a ∧ a ∉ cs) vs ds :=
  h.there.weak fun a x => ⟨x.1, fun z => x.2 (n a z)⟩
mutual
theorem rO.there {H : Hp} {av : Addr → Prop} : ∀ {o : O} {v : V} {cs : List Addr}, rO H av o v cs → rO H (fun a => av a ∧ H a ≠ none) o v cs ∧ ∀ a ∈ cs, H a ≠ none
  | .sh d, v, cs, h => by
    simp only [rO] at h ⊢
    exact ⟨⟨h.1.there, h.2⟩, by rw [h.2]; simp⟩
  | .lst os, v, cs, h => by
    simp only [rO] at h ⊢
    obtain ⟨a, vs, cs', e1, e2, e3, h⟩ := h
    obtain ⟨h1, h2⟩ := rOs.there h
    refine ⟨⟨a, vs, cs', e1, e2, e3, h1⟩, fun b hb => ?_⟩
    subst e3
    rcases List.mem_cons.mp hb with rfl | hb
    · rw [e2]; exact fun z => by cases z
    · exact h2 b hb
  | .tup os, v, cs, h => by
    simp only [rO] at h ⊢
    obtain ⟨a, vs, e1, e2, h⟩ := h
    obtain ⟨h1, h2⟩ := rOs.there h
    exact ⟨⟨a, vs, e1, e2, h1⟩, h2⟩
  | .dic ps, v, cs, h => by
    simp only [rO] at h ⊢
    obtain ⟨a, kvs, e1, e2, e3, h⟩ := h
    refine ⟨⟨a, kvs, e1, e2, e3, h⟩, fun b hb => ?_⟩
    subst e3
    obtain rfl := List.mem_singleton.mp hb
    rw [e2]; exact fun z => by cases z
theorem rOs.there {H : Hp} {av : Addr → Prop} : ∀ {os : List O} {vs : List V} {cs : List Addr}, rOs H av os vs cs → rOs H (fun a => av a ∧ H a ≠ none) os vs cs ∧ ∀ a ∈ cs, H a ≠ none
  | [], vs, cs, h => by
    simp only [rOs] at h ⊢
    exact ⟨h, by rw [h.2]; simp⟩
  | o :: os, vs, cs, h => by
    simp only [rOs] at h ⊢
    obtain ⟨v, vs', c1, c2, e1, e2, h1, h2⟩ := h
    obtain ⟨h3, h4⟩ := rO.there h1
    obtain ⟨h5, h6⟩ := rOs.there h2
    refine ⟨⟨v, vs', c1, c2, e1, e2, h3, h5⟩, fun b hb => ?_⟩
    subst e2
    rcases List.mem_append.mp hb with hb | hb
    · exact h4 b hb
    · exact h6 b hb
end
def cutH (H : Hp) (cs : List Addr) : Hp := fun a => if a ∈ cs then none else H a
theorem cutH_in {H : Hp} {cs : List Addr} {a : Addr} (h : a ∈ cs) : cutH H cs a = none := by simp [cutH, h]
theorem cutH_out {H : Hp} {cs : List Addr} {a : Addr} (h : a ∉ cs) : cutH H cs a = H a := by simp [cutH, h]
theorem cutH_none {H : Hp} {cs : List Addr} {a : Addr} (h : cutH H cs a = none) : a ∈ cs ∨ H a = none := by
  by_cases hm : a ∈ cs
  · exact .inl hm
  · rw [cutH_out hm] at h; exact .inr h
theorem cutH_same {H : Hp} {cs : List Addr} : Same (cutH H cs) H := fun a o e => by
  by_cases hm : a ∈ cs
  · rw [cutH_in hm] at e; cases e
  · rwa [cutH_out hm] at e
def Cells (H : Hp) (cs : List Addr) : Prop := ∀ a ∈ cs, (∃ xs, H a = some (.lst xs)) ∨ ∃ kvs, H a = some (.dK kvs)
theorem cutH_nil {H : Hp} : cutH H [] = H := by
  funext a
  simp [cutH]
end Rp

set_option Elab.async false
set_option linter.all false
set_option maxRecDepth 100000
set_option maxHeartbeats 1000000
/-! RpOps: the operators by data. -/
namespace Rp
open PySem PySem.Spec PyProof.Rows L2

/-- o comes back: new cells cs, what stood stays -/
def Post (H : Hp) (av : Addr → Prop) (o : O) (Q : VK) : Prop :=
  ∀ (v : V) (H' : Hp) (cs : List Addr), Same H H' → cs.Nodup → (∀ a ∈ cs, H a = none) → rO H' (fun a => av a ∧ a ∉ cs) o v cs → Q v H'
theorem Post.sh {H : Hp} {av : Addr → Prop} {d : D} {Q : VK} {v : V} {H' : Hp} (p : Post H av (.sh d) Q) (s : Same H H') (r : Rv H' av v d) : Q v H' :=
  p v H' [] s .nil (fun _ h => by cases h) (by simp only [rO]; exact ⟨r.weak fun a x => ⟨x, by simp⟩, trivial⟩)
theorem Post.val {H : Hp} {av : Addr → Prop} {d : D} {Q : VK} {v : V} (p : Post H av (.sh d) Q) (e : valD v = some d) : Q v H := p.sh (Same.refl H) (Rv.val e)
theorem same_new {H : Hp} {p : Addr} {o : HO} (h : H p = none) : Same H (upd H p o) := fun b x e => by
  rw [upd_ne (ne_of_none e h)]
  exact e
/-- a new list -/
theorem Post.lst {H : Hp} {av : Addr → Prop} {ds : List D} {Q : VK} {vs : List V} {p : Addr} (q : Post H av (shl ds) Q) (n : H p = none) (r : RvAll H av vs ds) : Q (.ref p) (upd H p (.lst vs)) := by
  refine q _ _ [p] (same_new n) (by simp) (fun a h => by rw [List.mem_singleton.mp h]; exact n) ?_
  simp only [shl, rO]
  refine ⟨p, vs, [], rfl, upd_same, rfl, rOs.shs ?_⟩
  exact (r.apart (cs := [p]) (fun a h => by rw [List.mem_singleton.mp h]; exact n)).same (same_new n)

/-- an operator on two values, by data -/
def r2D (f : D → D → Option D) : R2 := fun x y H Q => ∃ (av : Addr → Prop) (d1 d2 d : D), Rv H av x d1 ∧ Rv H av y d2 ∧ f d1 d2 = some d ∧ Post H av (mkO d) Q

section
variable {X : Cx}
theorem opr_imp {f : Value → Value → Sem Value} {r r' : R2} (h : OpR X f r) (i : ∀ x y H Q, r' x y H Q → r x y H Q) : OpR X f r' :=
  fun pins s σ H x y v u Q I rx ry q => h pins s σ H x y v u Q I rx ry (i _ _ _ _ q)
theorem OpR.none {f : Value → Value → Sem Value} : OpR X f (fun _ _ _ _ => False) := fun _ _ _ _ _ _ _ _ _ _ _ _ q => q.elim

/-- a list that is read -/
theorem Inv.rdL {pins : List (Addr × Obj)} {σ : L2.St} {H : Hp} {s : Shared} {a : Addr} {xs : List V} (I : Inv X pins σ H s) (h : Rd H a (.lst xs)) :
    ∃ (its : List Value) (o : Obj) (n : Nat), Vals xs its ∧ s.heap.get? a = some o ∧ o.cls = .type "list" ∧ o.dict = Option.none ∧ o.data = .seq its.toArray n ∧ xs.length ≤ sizeLine := by
  obtain ⟨its, r, ⟨o, n, e, c, d, q⟩, z⟩ := I.list (.inl h)
  exact ⟨its, o, n, r, e, c, d, q, z⟩
/-- list + list, both read -/
def rCatR : R2 := fun x y H Q => ∃ l b xs zs, x = .ref l ∧ y = .ref b ∧ Rd H l (.lst xs) ∧ Rd H b (.lst zs) ∧ xs.length + zs.length ≤ sizeLine ∧ ∀ p, H p = none → Q (.ref p) (upd H p (.lst (xs ++ zs)))
theorem op_catR : OpR X (binaryOp .Add) rCatR := by
  intro pins s σ H x y v u Q I rx ry h
  obtain ⟨l, b, xs, zs, rfl, rfl, hH, hB, hz, q⟩ := h
  cases rx
  cases ry
  obtain ⟨its, ⟨cls, dd, data, sl⟩, n, r, ho, hc, hdn, hd, z⟩ := Inv.rdL I hH
  obtain ⟨its2, ⟨cls2, dd2, data2, sl2⟩, n2, r2, ho2, hc2, hdn2, hd2, z2⟩ := Inv.rdL I hB
  simp only at hc hd hc2 hd2 hdn hdn2
  subst hc hd hc2 hd2 hdn hdn2
  have l1 := r.length
  have l2 := r2.length
  refine concat_meets ⟨_, ho, rfl⟩ ⟨_, ho2, rfl⟩ noFill_list_add seq_list_add PySem.F.slot_list_add PySem.F.entry_list_add (PySem.F.args_list_add_2 _ _) (list_addW l b its.toArray its2.toArray n n2 Option.none Option.none sl sl2 (by rw [List.size_toArray, List.size_toArray]; omega)) ⟨ho, ho2, ?_⟩
  have ea : its.toArray ++ its2.toArray = (its ++ its2).toArray := by simp
  rw [ea]
  exact ⟨.ref _, _, I.lnew (t' := s.toks) (r.append r2) (by rw [List.length_append]; omega), rfl, q _ I.fresh⟩

theorem mkO_int (i : Int) : mkO (.int i) = .sh (.int i) := rfl
theorem bop_add : OpR X (binaryOp .Add) (r2D (bop .add)) := by
  refine opr_imp ((op_add.or op_catR).or op_add_str) fun x y H Q h => ?_
  obtain ⟨av, d1, d2, d, r1, r2, e, p⟩ := h
  cases r1 <;> cases r2 <;> simp only [bop] at e <;> first
    | (cases e; done)
    | (cases e; exact .inl (.inl ⟨_, _, rfl, rfl, p.val rfl⟩))
    | skip
  · split at e
    · cases e
      exact .inr ⟨_, _, rfl, rfl, by assumption, p.val rfl⟩
    · cases e
  · rename_i a xs ds h1 ha hx b ys es h2 hb hy
    split at e
    · rename_i hz
      cases e
      have l1 := hx.length
      have l2 := hy.length
      exact .inl (.inr ⟨_, _, _, _, rfl, rfl, h1, h2, by omega, fun q n => p.lst n (hx.append hy)⟩)
    · cases e
theorem bop_sub : OpR X (binaryOp .Sub) (r2D (bop .sub)) := by
  refine opr_imp op_sub fun x y H Q h => ?_
  obtain ⟨av, d1, d2, d, r1, r2, e, p⟩ := h
  cases r1 <;> cases r2 <;> simp only [bop] at e <;> first
    | (cases e; done)
    | (cases e; exact ⟨_, _, rfl, rfl, p.val rfl⟩)
theorem bop_fdiv : OpR X (binaryOp .FloorDiv) (r2D (bop .fdiv)) := by
  refine opr_imp op_fdivW fun x y H Q h => ?_
  obtain ⟨av, d1, d2, d, r1, r2, e, p⟩ := h
  cases r1 <;> cases r2 <;> simp only [bop] at e <;> first
    | (cases e; done)
    | skip
  split at e
  · rename_i hz
    cases e
    simp only [divOk, Bool.and_eq_true, decide_eq_true_eq] at hz
    exact ⟨_, _, rfl, rfl, hz, p.val rfl⟩
  · cases e
theorem bop_mod : OpR X (binaryOp .Mod) (r2D (bop .mod)) := by
  refine opr_imp op_mod fun x y H Q h => ?_
  obtain ⟨av, d1, d2, d, r1, r2, e, p⟩ := h
  cases r1 <;> cases r2 <;> simp only [bop] at e <;> first
    | (cases e; done)
    | skip
  split at e
  · cases e
    exact ⟨_, _, rfl, rfl, by assumption, p.val rfl⟩
  · cases e
theorem bop_pow : OpR X (binaryOp .Pow) (r2D (bop .pow)) := by
  refine opr_imp op_pow fun x y H Q h => ?_
  obtain ⟨av, d1, d2, d, r1, r2, e, p⟩ := h
  cases r1 <;> cases r2 <;> simp only [bop] at e <;> first
    | (cases e; done)
    | skip
  split at e
  · rename_i hz
    cases e
    simp only [powOk, decide_eq_true_eq] at hz
    exact ⟨_, _, rfl, rfl, hz, p.val rfl⟩
  · cases e
theorem bop_xor : OpR X (binaryOp .BitXor) (r2D (bop .xor)) := by
  refine opr_imp op_xor fun x y H Q h => ?_
  obtain ⟨av, d1, d2, d, r1, r2, e, p⟩ := h
  cases r1 <;> cases r2 <;> simp only [bop] at e <;> first
    | (cases e; done)
    | (cases e; exact ⟨_, _, rfl, rfl, p.val rfl⟩)
theorem bop_band : OpR X (binaryOp .BitAnd) (r2D (bop .band)) := by
  refine opr_imp op_and fun x y H Q h => ?_
  obtain ⟨av, d1, d2, d, r1, r2, e, p⟩ := h
  cases r1 <;> cases r2 <;> simp only [bop] at e <;> first
    | (cases e; done)
    | (cases e; exact ⟨_, _, rfl, rfl, p.val rfl⟩)
theorem bop_shr : OpR X (binaryOp .RShift) (r2D (bop .shr)) := by
  refine opr_imp op_shr fun x y H Q h => ?_
  obtain ⟨av, d1, d2, d, r1, r2, e, p⟩ := h
  cases r1 <;> cases r2 <;> simp only [bop] at e <;> first
    | (cases e; done)
    | skip
  split at e
  · cases e
    exact ⟨_, _, rfl, rfl, by assumption, p.val rfl⟩
  · cases e

/-! a product: two ints, or a list made just here and an int -/
def rMulO : R2 := fun x y H Q => ∃ (av : Addr → Prop) (o1 o2 : O) (c1 c2 : List Addr) (d : D), rO H av o1 x c1 ∧ (∀ a ∈ c1, av a) ∧ rO H av o2 y c2 ∧ bopO .mul o1 o2 = some d ∧ Post H av (mkO d) Q
theorem er_int {o : O} {i : Int} (h : er o = .int i) : o = .sh (.int i) := by
  cases o <;> simp [er] at h
  rw [h]
theorem rep_all {H : Hp} {av : Addr → Prop} {vs : List V} {ds : List D} (h : RvAll H av vs ds) : ∀ n, RvAll H av (List.replicate n vs).flatten (List.replicate n ds).flatten
  | 0 => by simp; exact .nil
  | n + 1 => by
    simp only [List.replicate_succ, List.flatten_cons]
    exact h.append (rep_all h n)
theorem bop_mul : OpR X (binaryOp .Mult) rMulO := by
  refine opr_imp (op_mulW.or op_rep) fun x y H Q h => ?_
  obtain ⟨av, o1, o2, c1, c2, d, r1, w1, r2, e, p⟩ := h
  have both : ∀ i j, er o1 = .int i → er o2 = .int j → bop .mul (.int i) (.int j) = some d → (rI CMulW (fun i j => .int (i * j)) x y H Q) := by
    intro i j e1 e2 e
    have z1 := er_int e1
    have z2 := er_int e2
    rw [z1] at r1
    rw [z2] at r2
    simp only [rO] at r1 r2
    have q1 := r1.1
    have q2 := r2.1
    cases q1
    cases q2
    simp only [bop] at e
    split at e
    · rename_i hz
      cases e
      simp only [mulOk, decide_eq_true_eq] at hz
      exact ⟨_, _, rfl, rfl, hz, p.val rfl⟩
    · cases e
  cases o1 with
  | lst os =>
    simp only [bopO] at e
    cases e2 : er o2 with
    | int k =>
      have z2 := er_int e2
      subst z2
      simp only [rO] at r1 r2
      obtain ⟨a, vs, cs', rfl, ha, rfl, hos⟩ := r1
      have q2 := r2.1
      cases q2
      simp only [er, bop] at e
      split at e
      · rename_i hz
        simp only [Bool.and_eq_true, decide_eq_true_eq] at hz
        cases e
        have hv := rOs.rv (av' := av) (fun _ z => z) hos fun b hb => w1 b (by simp [hb])
        have hl := hv.length
        exact .inr ⟨_, _, _, rfl, rfl, ha, hz.1.1, hz.1.2, by rw [hl]; exact hz.2, fun q n => p.lst n (rep_all hv _)⟩
      · cases e
    | _ => rw [e2] at e; simp [bop] at e
  | sh d1 =>
    simp only [bopO, er] at e
    cases d1 with
    | int i =>
      simp only at e
      cases e2 : er o2 with
      | int j => rw [e2] at e; exact .inl (both i j rfl e2 e)
      | _ => rw [e2] at e; simp [bop] at e
    | _ => simp at e
  | tup os => simp [bopO, er] at e
  | dic ps => simp [bopO, er] at e

/-! comparisons -/
def r2C (f : D → D → Option Bool) : R2 := fun x y H Q => ∃ (av : Addr → Prop) (d1 d2 : D) (c : Bool), Rv H av x d1 ∧ Rv H av y d2 ∧ f d1 d2 = some c ∧ Q (.bl c) H
theorem cop_eq (hu : X.A.units + 64 < cLine) : OpR X (compareOp .Eq) (r2C (cop .eq)) := by
  refine opr_imp (op_eqD hu) fun x y H Q h => ?_
  obtain ⟨av, d1, d2, c, r1, r2, e, p⟩ := h
  simp only [cop] at e
  split at e
  · rename_i hz
    simp only [shaped, Bool.and_eq_true] at hz
    cases e
    exact ⟨d1, d2, r1.dp (SeqAt.canLay_of_shaped hz.1), r2.dp (SeqAt.canLay_of_shaped hz.2), hz.1, hz.2, p⟩
  · cases e
theorem cop_ne (hu : X.A.units + 64 < cLine) : OpR X (compareOp .NotEq) (r2C (cop .ne)) := by
  refine opr_imp (op_neD hu) fun x y H Q h => ?_
  obtain ⟨av, d1, d2, c, r1, r2, e, p⟩ := h
  simp only [cop] at e
  split at e
  · rename_i hz
    simp only [shaped, Bool.and_eq_true] at hz
    cases e
    exact ⟨d1, d2, r1.dp (SeqAt.canLay_of_shaped hz.1), r2.dp (SeqAt.canLay_of_shaped hz.2), hz.1, hz.2, p⟩
  · cases e
theorem cop_lt : OpR X (compareOp .Lt) (r2C (cop .lt)) := by
  refine opr_imp op_lt fun x y H Q h => ?_
  obtain ⟨av, d1, d2, c, r1, r2, e, p⟩ := h
  cases r1 <;> cases r2 <;> simp only [cop] at e <;> first
    | (cases e; done)
    | (cases e; exact ⟨_, _, rfl, rfl, p⟩)
theorem cop_le : OpR X (compareOp .LtE) (r2C (cop .le)) := by
  refine opr_imp op_le fun x y H Q h => ?_
  obtain ⟨av, d1, d2, c, r1, r2, e, p⟩ := h
  cases r1 <;> cases r2 <;> simp only [cop] at e <;> first
    | (cases e; done)
    | (cases e; exact ⟨_, _, rfl, rfl, p⟩)
theorem cop_gt : OpR X (compareOp .Gt) (r2C (cop .gt)) := by
  refine opr_imp op_gt fun x y H Q h => ?_
  obtain ⟨av, d1, d2, c, r1, r2, e, p⟩ := h
  cases r1 <;> cases r2 <;> simp only [cop] at e <;> first
    | (cases e; done)
    | (cases e; exact ⟨_, _, rfl, rfl, p⟩)
theorem cop_ge : OpR X (compareOp .GtE) (r2C (cop .ge)) := by
  refine opr_imp op_ge fun x y H Q h => ?_
  obtain ⟨av, d1, d2, c, r1, r2, e, p⟩ := h
  cases r1 <;> cases r2 <;> simp only [cop] at e <;> first
    | (cases e; done)
    | (cases e; exact ⟨_, _, rfl, rfl, p⟩)
theorem cop_isN : OpR X (compareOp .Is) (r2C (cop .isN)) := by
  refine opr_imp op_isN fun x y H Q h => ?_
  obtain ⟨av, d1, d2, c, r1, r2, e, p⟩ := h
  cases r2 <;> simp only [cop] at e <;> first
    | (cases e; done)
    | skip
  refine ⟨rfl, ?_⟩
  cases r1 <;> simp at e <;> subst e <;> simpa using p
theorem cop_notN : OpR X (compareOp .IsNot) (r2C (cop .notN)) := by
  refine opr_imp op_notN fun x y H Q h => ?_
  obtain ⟨av, d1, d2, c, r1, r2, e, p⟩ := h
  cases r2 <;> simp only [cop] at e <;> first
    | (cases e; done)
    | skip
  refine ⟨rfl, ?_⟩
  cases r1 <;> simp at e <;> subst e <;> simpa using p
end
end Rp

set_option Elab.async false
set_option linter.all false
set_option maxRecDepth 100000
set_option maxHeartbeats 1000000
/-! RpExpr: expressions of the row against the IR. -/
namespace Rp
open PySem PySem.Spec PyProof.Rows L2

/-! ### the match -/
structure MC where
  N : List Str
  fs : List (Nat × Str)
  gs : List (Nat × Str)
  nd : List Nat
def visB (sc : Scope) (x : Str) : Bool := match sc.names.lookup x with
  | some .local => true | some .cell => true | some .free => true | _ => false
def glB (sc : Scope) (x : Str) : Bool := match sc.names.lookup x with
  | some .globalImplicit => true | _ => false
def nmOk (x : Str) : Bool := !(x == ("__debug__" : Str)) && !(x == ("__classdict__" : Str)) && !(x == ("__name__" : Str))
def varB (M : MC) (sc : Scope) (i : Nat) (x : Str) : Bool := (M.N[i]? == some x) && visB sc x && nmOk x
def defB (M : MC) (sc : Scope) (f : Nat) (x : Str) : Bool := (M.fs.lookup f == some x) && glB sc x && nmOk x
def gloB (M : MC) (sc : Scope) (f : Nat) (x : Str) : Bool := (M.gs.lookup f == some x) && glB sc x && nmOk x
def biN : Bi → Str
  | .len => "len" | .abs => "abs" | .min => "min" | .max => "max" | .sum => "sum" | .sorted => "sorted"
  | .list => "list" | .tuple => "tuple" | .int => "int" | .str => "str" | .dict => "dict" | .lenset => "len"
def bltB (sc : Scope) (x y : Str) : Bool := (x == y) && glB sc x
def conB : D → Const → Bool
  | .int i, .int j => i == j
  | .str x, .str y => x == y
  | .bool a, .bool b => a == b
  | .none, .none => true
  | _, _ => false
def bopB : Bop → Operator → Bool
  | .add, .Add => true | .sub, .Sub => true | .mul, .Mult => true | .fdiv, .FloorDiv => true | .mod, .Mod => true
  | .pow, .Pow => true | .xor, .BitXor => true | .band, .BitAnd => true | .shr, .RShift => true
  | _, _ => false
def copB : Cop → CmpOp → Bool
  | .eq, .Eq => true | .ne, .NotEq => true | .lt, .Lt => true | .le, .LtE => true | .gt, .Gt => true | .ge, .GtE => true
  | .isN, .Is => true | .notN, .IsNot => true | .inn, .In => true | .notin, .NotIn => true
  | _, _ => false
/-- expressions whose form the rules ask nothing of -/
def plainE : Expr → Bool
  | .Starred _ _ => false | .Set _ _ _ => false | .Slice _ _ _ _ => false | .NamedExpr _ _ _ => false
  | _ => true
/-- neither a test's own form -/
def valueE : Expr → Bool
  | .UnaryOp _ _ _ => false | .BoolOp _ _ _ => false | .IfExp _ _ _ _ => false | .Compare _ _ _ _ => false
  | _ => true

theorem plain_star {e : Expr} (h : plainE e = true) (es : List Expr) (env : PySem.Env) : starEach (e :: es) env = (false, eval e env) :: starEach es env := by
  cases e <;> first | rfl | simp [plainE] at h
theorem plain_fold {e : Expr} (h : plainE e = true) (env : PySem.Env) (x : Value) : foldedSetIterable e env x = pure x := by
  cases e <;> first | rfl | simp [plainE] at h
theorem plain_mark {e : Expr} (h : plainE e = true) (op : CmpOp) : behindInMarks op e = false := by
  cases e <;> first | rfl | simp [plainE] at h
theorem plain_ix {e : Expr} (h : plainE e = true) : PlainIx e := by
  intro o i
  cases e <;> first | rfl | simp [plainE] at h
theorem value_true {e : Expr} (h : valueE e = true) (env : PySem.Env) (whole : Sem Value) : PySem.isTrue e env whole = (do let v ← whole; standAt e.pos; holding [v] (truthy v)) := by
  cases e <;> first | rfl | simp [valueE] at h

/-! ### the reading -/
structure Cfg where
  Φ : Nat → List O → Res O
  gt : Nat → Option D
  W : WX
  xr : Nat → D → Value → Option Addr → Hp → Prop
structure EnvR (H : Hp) (av : Addr → Prop) (γ : Env0) (σ : L2.St) (is : List Nat) : Prop where
  len : γ.length ≤ σ.length
  at_ : ∀ i ∈ is, ∀ d, getS γ i = some d → ∃ v, σ[i]? = some (some v) ∧ Rv H av v d
theorem EnvR.sub {H : Hp} {av : Addr → Prop} {γ : Env0} {σ : L2.St} {is js : List Nat} (h : EnvR H av γ σ is) (s : ∀ i ∈ js, i ∈ is) : EnvR H av γ σ js := ⟨h.len, fun i hi => h.at_ i (s i hi)⟩
theorem EnvR.left {H : Hp} {av : Addr → Prop} {γ : Env0} {σ : L2.St} {is js : List Nat} (h : EnvR H av γ σ (is ++ js)) : EnvR H av γ σ is := h.sub fun i hi => List.mem_append_left _ hi
theorem EnvR.right {H : Hp} {av : Addr → Prop} {γ : Env0} {σ : L2.St} {is js : List Nat} (h : EnvR H av γ σ (is ++ js)) : EnvR H av γ σ js := h.sub fun i hi => List.mem_append_right _ hi
theorem EnvR.same {H H' : Hp} {av : Addr → Prop} {γ : Env0} {σ : L2.St} {is : List Nat} (h : EnvR H av γ σ is) (s : Same H H') : EnvR H' av γ σ is := ⟨h.len, fun i hi d e => by
  obtain ⟨v, e1, r⟩ := h.at_ i hi d e
  exact ⟨v, e1, r.same s⟩⟩
theorem EnvR.apart {H : Hp} {av : Addr → Prop} {γ : Env0} {σ : L2.St} {is : List Nat} {cs : List Addr} (h : EnvR H av γ σ is) (n : ∀ a ∈ cs, H a = none) : EnvR H (fun a => av a ∧ a ∉ cs) γ σ is := ⟨h.len, fun i hi d e => by
  obtain ⟨v, e1, r⟩ := h.at_ i hi d e
  exact ⟨v, e1, r.apart n⟩⟩
def New (H : Hp) (av : Addr → Prop) : Prop := ∀ a, H a = none → av a
theorem New.same {H H' : Hp} {av : Addr → Prop} (h : New H av) (s : Same H H') : New H' av := fun a e => h a (s.free e)

/-- an answer: what follows, or an exception's way -/
def Ans {α : Type} (G : Cfg) (σ : L2.St) (H : Hp) (r : Res α) (P : α → Prop) : Prop :=
  match r with
  | .ok a => P a
  | .exc c p => ∀ H' cls d, Same H H' → G.xr c p cls d H' → G.W cls d σ H'
  | .bad => False
theorem Ans.bind {α β : Type} {G : Cfg} {σ : L2.St} {H : Hp} {r : Res α} {f : α → Res β} {P : β → Prop} (h : Ans G σ H (r.bind f) P) : Ans G σ H r (fun a => r = .ok a ∧ Ans G σ H (f a) P) := by
  cases r with
  | ok a => exact ⟨rfl, h⟩
  | exc c p => exact h
  | bad => exact h
theorem Ans.same {α : Type} {G : Cfg} {σ : L2.St} {H H1 : Hp} {r : Res α} {P : α → Prop} (h : Ans G σ H r P) (s : Same H H1) : Ans G σ H1 r P := by
  cases r with
  | ok a => exact h
  | exc c p => exact fun H' cls d s' x => h H' cls d (s.trans s') x
  | bad => exact h
theorem Ans.back {α : Type} {G : Cfg} {σ : L2.St} {H H1 : Hp} {r : Res α} {P : α → Prop} (h : Ans G σ H r P) (s : ∀ H', Same H1 H' → Same H H') : Ans G σ H1 r P := by
  cases r with
  | ok a => exact h
  | exc c p => exact fun H' cls d s' x => h H' cls d (s H' s') x
  | bad => exact h
theorem Ans.imp {α : Type} {G : Cfg} {σ : L2.St} {H : Hp} {r : Res α} {P P' : α → Prop} (h : Ans G σ H r P) (i : ∀ a, P a → P' a) : Ans G σ H r P' := by
  cases r with
  | ok a => exact i a h
  | exc c p => exact h
  | bad => exact h
theorem Ans.of {α : Type} {G : Cfg} {σ : L2.St} {H : Hp} {x : Option α} {P : α → Prop} (h : Ans G σ H (Res.of x) P) : ∃ a, x = some a ∧ P a := by
  cases x with
  | none => exact h.elim
  | some a => exact ⟨a, rfl, h⟩

def tE (G : Cfg) (e : Ex) : TE := fun σ H Q => ∃ (γ : Env0) (av : Addr → Prop), EnvR H av γ σ (srcs e) ∧ New H av ∧ Ans G σ H (ev G.Φ G.gt γ e) fun o => Post H av o Q
/-- a part is run -/
theorem tE.use {G : Cfg} {e : Ex} {γ : Env0} {av : Addr → Prop} {σ : L2.St} {H : Hp} {P : O → Prop} {Q : VK} (env : EnvR H av γ σ (srcs e)) (nw : New H av) (h : Ans G σ H (ev G.Φ G.gt γ e) P)
    (q : ∀ o, P o → Post H av o Q) : tE G e σ H Q := ⟨γ, av, env, nw, h.imp q⟩
theorem Post.imp {H : Hp} {av : Addr → Prop} {o : O} {Q Q' : VK} (p : Post H av o Q) (i : ∀ v H', Q v H' → Q' v H') : Post H av o Q' := fun v H' cs s nd n r => i v H' (p v H' cs s nd n r)
theorem tE.mono {G : Cfg} {e : Ex} {σ : L2.St} {H : Hp} {Q Q' : VK} (h : tE G e σ H Q) (i : ∀ v H', Q v H' → Q' v H') : tE G e σ H Q' := by
  obtain ⟨γ, av, e1, n, a⟩ := h
  exact ⟨γ, av, e1, n, a.imp fun o p => p.imp i⟩
/-- from a result: its datum -/
theorem rO.er {H H' : Hp} {av : Addr → Prop} {o : O} {v : V} {cs : List Addr} (r : rO H' (fun a => av a ∧ a ∉ cs) o v cs) (nw : New H av) (n : ∀ a ∈ cs, H a = none) : Rv H' av v (Rp.er o) :=
  r.rv (fun _ x => x.1) fun a ha => nw a (n a ha)
/-- .. at a later heap -/
theorem Post.back {H H1 : Hp} {av : Addr → Prop} {o : O} {Q : VK} (p : Post H av o Q) (s : Same H H1) : Post H1 av o Q :=
  fun v H' cs s' nd n r => p v H' cs (s.trans s') nd (fun a ha => s.free (n a ha)) r
/-- with a narrower av -/
theorem Post.wide {H : Hp} {av av' : Addr → Prop} {o : O} {Q : VK} (p : Post H av o Q) (w : ∀ a, av' a → av a) : Post H av' o Q :=
  fun v H' cs s nd n r => p v H' cs s nd n (r.weak fun a x => ⟨w a x.1, x.2⟩)

def locB (sc : Scope) (x : Str) : Bool := match sc.names.lookup x with
  | some .local => true | some .cell => true | _ => false
def cfB (sc : Scope) (x : Str) : Prop := sc.names.lookup x = some .cell ∨ sc.names.lookup x = some .free
/-- the scope sc, as the context has it -/
structure ScOk (X : Cx) (sc : Scope) : Prop where
  vis : ∀ x, visB sc x = true → Vis X.env.scope x
  gl : ∀ x, glB sc x = true → Gl X x
  loc : ∀ x, locB sc x = true → L2.Loc X.env.scope x ∧ (X.fn x = true ∨ X.env.scope.names.lookup x = some .local)
  cf : ∀ x, cfB sc x → cfB X.env.scope x
structure Good (M : MC) (G : Cfg) (X : Cx) : Prop where
  calm : X.calm = true
  nd : X.N.Nodup
  hN : X.N = M.N
  units : X.A.units + 65 < cLine
  fn : ∀ f x, M.fs.lookup f = some x → ∃ (k : Nat) (a : Addr) (fd : FuncData) (ps : List Str) (sp : Sp), X.mg x = some (.ref a) ∧ PySem.W.keepIn X.K (.ref a) = true ∧ Room k X.A ∧ (Binds X.K fd ps [] ∧ (M.nd.contains f = true → Binds X.K fd ps [.none])) ∧
    FnOk X.prog X.w X.K X.mg X.base (L2.CX X.prog X.w) k a fd ps sp ∧
    ∀ vs H Q E, (∃ (os : List O) (av : Addr → Prop) (cs : List Addr), rOs H (fun a => av a ∧ a ∉ cs) os vs cs ∧ cs.Nodup ∧ New (cutH H cs) av ∧ (match G.Φ f os with
      | .ok o => Post (cutH H cs) av o Q
      | .exc c p => ∀ H' cls d, Same (cutH H cs) H' → G.xr c p cls d H' → E cls d H'
      | .bad => False)) → sp vs H Q E
  gl : ∀ g x, M.gs.lookup g = some x → ∃ v u d, X.mg x = some u ∧ RelV v u ∧ G.gt g = some d ∧ valD v = some d
  bi : ∀ x : Str, x ∈ (["len", "abs", "min", "max", "sum", "sorted", "list", "tuple", "int", "str", "dict", "set", "range", "zip", "enumerate", "reversed", "isinstance", "bool"] : List Str) → X.mg x = none
  tk : Takes X G.W

theorem pe_imp {X : Cx} {e : Expr} {t t' : TE} (h : PE X e t) (i : ∀ σ H Q, t' σ H Q → t σ H Q) : PE X e t' := ⟨fun pins s σ H Q I q => h.run pins s σ H Q I (i _ _ _ q)⟩
theorem pt_imp {X : Cx} {e : Expr} {t t' : TT} (h : PT X e t) (i : ∀ σ H Q, t' σ H Q → t σ H Q) : PT X e t' := ⟨fun pins s σ H Q I q => h.run pins s σ H Q I (i _ _ _ q)⟩
theorem pa_imp {X : Cx} {e : List Expr} {t t' : TA} (h : PA X e t) (i : ∀ σ H Q, t' σ H Q → t σ H Q) : PA X e t' := ⟨fun pos pins s σ H Q I q => h.run pos pins s σ H Q I (i _ _ _ q)⟩

/-- an expression is what the IR says, as a value and as a test -/
structure SE (G : Cfg) (X : Cx) (e : Ex) (a : Expr) : Prop where
  pe : PE X a (tE G e)
  pt : PT X a (tTest (tE G e))
theorem SE.of {G : Cfg} {X : Cx} {e : Ex} {a : Expr} (h : PE X a (tE G e)) (v : valueE a = true) : SE G X e a := ⟨h, pt_val h (value_true v _)⟩

section
variable {M : MC} {G : Cfg} {X : Cx}
theorem varB_of {sc : Scope} {i : Nat} {x : Str} (h : varB M sc i x = true) (g : Good M G X) (hs : ScOk X sc) :
    X.N[i]? = some x ∧ Vis X.env.scope x ∧ (x == ("__debug__" : Str)) = false ∧ (x == ("__classdict__" : Str)) = false := by
  simp only [varB, nmOk, Bool.and_eq_true, Bool.not_eq_true', beq_iff_eq] at h
  obtain ⟨⟨h1, h2⟩, ⟨h3, h4⟩, _⟩ := h
  exact ⟨by rw [g.hN]; exact h1, hs.vis x h2, by simpa using h3, by simpa using h4⟩
theorem glB_of {sc : Scope} {x : Str} (h : glB sc x = true) (hs : ScOk X sc) : Gl X x := hs.gl x h
theorem visB_iff {sc : Scope} {x : Str} : visB sc x = true ↔ Vis sc x := by
  unfold visB Vis
  cases e : sc.names.lookup x with
  | none => simp
  | some k => cases k <;> simp
theorem glB_iff {sc : Scope} {x : Str} : glB sc x = true ↔ sc.names.lookup x = some .globalImplicit := by
  unfold glB
  cases e : sc.names.lookup x with
  | none => simp
  | some k => cases k <;> simp
theorem locB_iff {sc : Scope} {x : Str} : locB sc x = true ↔ L2.Loc sc x := by
  unfold locB L2.Loc
  cases e : sc.names.lookup x with
  | none => simp
  | some k => cases k <;> simp
/-- at a def's own level -/
theorem ScOk.top (h : ∀ x, X.fn x = true) : ScOk X X.env.scope := ⟨fun x h => visB_iff.mp h, fun x h => glB_iff.mp h, fun x hx => ⟨locB_iff.mp hx, .inl (h x)⟩, fun x h => h⟩
theorem nm_of {x : Str} (h : nmOk x = true) : (x == ("__debug__" : Str)) = false ∧ x ≠ "__name__" := by
  simp only [nmOk, Bool.and_eq_true, Bool.not_eq_true'] at h
  exact ⟨h.1.1, by simpa using h.2⟩

theorem tE_var {i : Nat} {e : Ex} (hs : srcs e = [i]) (he : ∀ γ, ev G.Φ G.gt γ e = (Res.of (getS γ i)).bind fun d => .ok (.sh d)) : ∀ σ H Q, tE G e σ H Q → tVar i σ H Q := by
  intro σ H Q ⟨γ, av, env, nw, h⟩
  rw [he] at h
  obtain ⟨d, ed, p⟩ := h.bind.of
  rw [hs] at env
  obtain ⟨v, ev, r⟩ := env.at_ i (by simp) d ed
  exact ⟨v, ev, p.2.sh (Same.refl H) r⟩
theorem se_var {sc : Scope} {i : Nat} {x : Str} {pos : Pos} (h : varB M sc i x = true) (g : Good M G X) (hs : ScOk X sc) : SE G X (.var i) (.Name x pos) := by
  obtain ⟨h1, h2, h3, h4⟩ := varB_of h g hs
  exact .of (pe_imp (pe_var h1 h2 h3 h4) (tE_var (by simp [srcs]) fun γ => by simp only [ev])) rfl
theorem se_mv {sc : Scope} {i : Nat} {x : Str} {pos : Pos} (h : varB M sc i x = true) (g : Good M G X) (hs : ScOk X sc) : SE G X (.mv i) (.Name x pos) := by
  obtain ⟨h1, h2, h3, h4⟩ := varB_of h g hs
  exact .of (pe_imp (pe_var h1 h2 h3 h4) (tE_var (by simp [srcs]) fun γ => by simp only [ev])) rfl
theorem tE_con {d : D} {v : V} (h : valD v = some d) : ∀ σ H Q, tE G (.con d) σ H Q → tC v σ H Q := by
  intro σ H Q ⟨γ, av, env, nw, q⟩
  simp only [ev] at q
  exact Post.val q h
theorem se_con {d : D} {c : Const} {j : Nat} {pos : Pos} (h : conB d c = true) : SE G X (.con d) (.Constant c j pos) := by
  refine .of ?_ rfl
  cases d <;> cases c <;> simp [conB] at h
  · exact pe_imp pe_non (tE_con rfl)
  · subst h; exact pe_imp pe_bl (tE_con rfl)
  · subst h; exact pe_imp pe_int (tE_con rfl)
  · subst h; exact pe_imp pe_str (tE_con rfl)
theorem se_glob {sc : Scope} {i : Nat} {x : Str} {pos : Pos} (h : gloB M sc i x = true) (g : Good M G X) (hs : ScOk X sc) : SE G X (.glob i) (.Name x pos) := by
  simp only [gloB, Bool.and_eq_true, beq_iff_eq] at h
  obtain ⟨v, u, d, h1, h2, h3, h4⟩ := g.gl i x h.1.1
  refine .of (pe_imp (pe_glob (glB_of h.1.2 hs) h1 h2 (nm_of h.2).1) ?_) rfl
  intro σ H Q ⟨γ, av, env, nw, q⟩
  simp only [ev, h3, Res.of_some, Res.bind_ok] at q
  exact Post.val q h4

/-- two parts in a row, both read -/
theorem two {a b : Ex} {γ : Env0} {av : Addr → Prop} {σ : L2.St} {H : Hp} {P : O → O → Prop} {Q : V → V → Hp → Prop} (env : EnvR H av γ σ (srcs a ++ srcs b)) (nw : New H av)
    (h : Ans G σ H (ev G.Φ G.gt γ a) fun x => Ans G σ H (ev G.Φ G.gt γ b) fun y => P x y)
    (q : ∀ x y v1 v2 H2 c1 c2, P x y → Same H H2 → rO H2 av x v1 c1 → (∀ a ∈ c1, av a) → rO H2 av y v2 c2 → (∀ a ∈ c2, av a) → Q v1 v2 H2) : tE G a σ H fun v1 H1 => tE G b σ H1 fun v2 H2 => Q v1 v2 H2 := by
  refine tE.use env.left nw h fun x hx v1 H1 c1 s1 nd1 n1 r1 => ?_
  refine tE.use (env.right.same s1) (nw.same s1) (hx.same s1) fun y hy v2 H2 c2 s2 nd2 n2 r2 => ?_
  exact q x y v1 v2 H2 c1 c2 hy (s1.trans s2) ((r1.same s2).weak fun _ z => z.1) (fun a ha => nw a (n1 a ha)) (r2.weak fun _ z => z.1) (fun a ha => nw a (s1.free (n2 a ha)))
theorem bopO_of {op : Bop} (h : op ≠ .mul) (x y : O) : bopO op x y = bop op (er x) (er y) := by
  cases op <;> first | rfl | exact absurd rfl h
theorem se_bin {op : Bop} {o : Operator} {a b : Ex} {a' b' : Expr} {pos : Pos} (h : bopB op o = true) (ha : SE G X a a') (hb : SE G X b b') : SE G X (.bin op a b) (.BinOp a' o b' pos) := by
  refine .of ?_ rfl
  by_cases hm : op = .mul
  · subst hm
    cases o <;> simp [bopB] at h
    refine pe_imp (pe_op bop_mul ha.pe hb.pe) ?_
    intro σ H Q ⟨γ, av, env, nw, q⟩
    simp only [ev] at q
    simp only [srcs] at env
    refine two env nw (q.bind.imp fun x hx => hx.2.bind.imp fun y hy => hy.2.bind.of) ?_
    intro x y v1 v2 H2 c1 c2 ⟨d, ed, p⟩ s r1 w1 r2 w2
    exact ⟨av, x, y, c1, c2, d, r1, w1, r2, ed, Post.back p.2 s⟩
  · have key : OpR X (binaryOp o) (r2D (bop op)) := by
      cases op <;> cases o <;> simp [bopB] at h <;> first | exact absurd rfl hm | exact bop_add | exact bop_sub | exact bop_fdiv | exact bop_mod | exact bop_pow | exact bop_xor | exact bop_band | exact bop_shr
    refine pe_imp (pe_op key ha.pe hb.pe) ?_
    intro σ H Q ⟨γ, av, env, nw, q⟩
    simp only [ev] at q
    simp only [srcs] at env
    refine two env nw (q.bind.imp fun x hx => hx.2.bind.imp fun y hy => hy.2.bind.of) ?_
    intro x y v1 v2 H2 c1 c2 ⟨d, ed, p⟩ s r1 w1 r2 w2
    rw [bopO_of hm] at ed
    exact ⟨av, er x, er y, d, r1.rv (fun _ z => z) w1, r2.rv (fun _ z => z) w2, ed, Post.back p.2 s⟩
theorem se_neg {a : Ex} {a' : Expr} {pos : Pos} (ha : SE G X a a') : PE X (.UnaryOp .USub a' pos) (tE G (.neg a)) := by
  refine pe_imp (pe_un un_neg ha.pe) ?_
  intro σ H Q ⟨γ, av, env, nw, q⟩
  simp only [ev] at q
  simp only [srcs] at env
  refine tE.use env nw q.bind fun x hx v1 H1 c1 s1 nd1 n1 r1 => ?_
  have hx := hx.2
  split at hx
  · rename_i i e
    have rv := rO.er r1 nw n1
    rw [e] at rv
    cases rv
    exact ⟨_, rfl, (Post.back hx s1).val rfl⟩
  · exact hx.elim
theorem cop_rule {op : Cop} {o : CmpOp} (h : copB op o = true) (hu : X.A.units + 65 < cLine) : OpR X (compareOp o) (r2C (cop op)) := by
  cases op <;> cases o <;> simp [copB] at h <;> first | exact cop_eq (by omega) | exact cop_ne (by omega) | exact cop_lt | exact cop_le | exact cop_gt | exact cop_ge | exact cop_isN | exact cop_notN | skip
  · refine opr_imp (op_inD hu) fun x y H Q h => ?_
    obtain ⟨av, d1, d2, c, r1, r2, e, p⟩ := h
    have r2c := r2
    cases r2 <;> simp only [cop] at e <;> first
      | (cases e; done)
      | skip
    split at e
    · rename_i hz
      simp only [shaped, Bool.and_eq_true] at hz
      cases e
      exact ⟨d1, _, r1.dp (SeqAt.canLay_of_shaped hz.1), r2c.dp (SeqAt.canLay_of_shaped hz.2), hz.1, hz.2, p⟩
    · cases e
  · refine opr_imp (op_notInD hu) fun x y H Q h => ?_
    obtain ⟨av, d1, d2, c, r1, r2, e, p⟩ := h
    have r2c := r2
    cases r2 <;> simp only [cop] at e <;> first
      | (cases e; done)
      | skip
    split at e
    · rename_i hz
      simp only [shaped, Bool.and_eq_true] at hz
      cases e
      exact ⟨d1, _, r1.dp (SeqAt.canLay_of_shaped hz.1), r2c.dp (SeqAt.canLay_of_shaped hz.2), hz.1, hz.2, p⟩
    · cases e
theorem se_cmp {op : Cop} {o : CmpOp} {a b : Ex} {a' b' : Expr} {pos : Pos} (h : copB op o = true) (g : Good M G X) (ha : SE G X a a') (hb : SE G X b b') (hp : plainE b' = true) : SE G X (.cmp op a b) (.Compare a' [o] [b'] pos) := by
  have key := cop_rule h g.units
  have red : ∀ σ H Q, tE G (.cmp op a b) σ H Q → tOp (r2C (cop op)) (tE G a) (tE G b) σ H Q := by
    intro σ H Q ⟨γ, av, env, nw, q⟩
    simp only [ev] at q
    simp only [srcs] at env
    refine two env nw (q.bind.imp fun x hx => hx.2.bind.imp fun y hy => hy.2.bind.of) ?_
    intro x y v1 v2 H2 c1 c2 ⟨d, ed, p⟩ s r1 w1 r2 w2
    exact ⟨av, er x, er y, d, r1.rv (fun _ z => z) w1, r2.rv (fun _ z => z) w2, ed, (Post.back p.2 s).val rfl⟩
  exact ⟨pe_imp (pe_cmpR key ha.pe hb.pe (plain_mark hp o)) red, pt_imp (pt_cmpR key ha.pe hb.pe (plain_mark hp o)) fun σ H Q q => red σ H _ q⟩
theorem se_chain {op op2 : Cop} {o o2 : CmpOp} {a b c : Ex} {a' b' c' : Expr} {pos : Pos} (h : copB op o = true) (h2 : copB op2 o2 = true) (g : Good M G X) (ha : SE G X a a') (hb : SE G X b b') (hc : SE G X c c') (hp : plainE c' = true) :
    SE G X (.chain op op2 a b c) (.Compare a' [o, o2] [b', c'] pos) := by
  have key := cop_rule h g.units
  have key2 := cop_rule h2 g.units
  have hm : lastMarks [o, o2] [b', c'] = false := by
    show behindInMarks o2 c' = false
    exact plain_mark hp o2
  have red : ∀ σ H Q, tE G (.chain op op2 a b c) σ H Q → tChain (r2C (cop op)) (r2C (cop op2)) (tE G a) (tE G b) (tE G c) σ H Q := by
    intro σ H Q ⟨γ, av, env, nw, q⟩
    simp only [ev] at q
    simp only [srcs] at env
    have env1 : EnvR H av γ σ (srcs a ++ srcs b) := env.sub fun i hi => by
      rcases List.mem_append.mp hi with z | z
      · exact List.mem_append_left _ z
      · exact List.mem_append_right _ (List.mem_append_left _ z)
    refine two env1 nw (q.bind.imp fun x hx => hx.2.bind.imp fun y hy => hy.2.bind.of) ?_
    intro x y v1 v2 H2 c1 c2 ⟨d, ed, p⟩ s r1 w1 r2 w2
    refine ⟨av, er x, er y, d, r1.rv (fun _ z => z) w1, r2.rv (fun _ z => z) w2, ed, d, rfl, ?_⟩
    have p := p.2
    cases d with
    | true =>
      simp only [if_true] at p ⊢
      refine tE.use (env.right.right.same s) (nw.same s) (p.same s).bind fun z hz v3 H3 c3 s3 nd3 n3 r3 => ?_
      obtain ⟨k, ek, pk⟩ := hz.2.bind.of
      exact ⟨av, er y, er z, k, (r2.same s3).rv (fun _ z => z) w2, rO.er r3 (nw.same s) n3, ek, ((Post.back pk.2 s).back s3).val rfl⟩
    | false =>
      simp only [Bool.false_eq_true, if_false] at p ⊢
      exact (Post.back p s).val rfl
  exact ⟨pe_imp (pe_chain key key2 ha.pe hb.pe hc.pe hm) red, pt_imp (pt_chain key key2 ha.pe hb.pe hc.pe hm) fun σ H Q q => red σ H _ q⟩
/-- a test's answer -/
theorem isB_of {α : Type} {σ : L2.St} {H : Hp} {d : D} {f : Bool → Res α} {P : α → Prop} (h : Ans G σ H ((isB d).bind f) P) : ∃ b, d = .bool b ∧ Ans G σ H (f b) P := by
  cases d <;> first | exact ⟨_, rfl, h⟩ | exact h.elim
theorem se_not {a : Ex} {a' : Expr} {pos : Pos} (ha : SE G X a a') : SE G X (.not a) (.UnaryOp .Not a' pos) := by
  refine ⟨pe_imp (pe_not ha.pe) ?_, pt_imp (pt_not ha.pt) ?_⟩
  · intro σ H Q ⟨γ, av, env, nw, q⟩
    simp only [ev] at q
    simp only [srcs] at env
    refine tE.use env nw q.bind fun x hx v1 H1 c1 s1 nd1 n1 r1 => ?_
    obtain ⟨b, e, p⟩ := isB_of hx.2
    have rv := rO.er r1 nw n1
    rw [e] at rv
    cases rv
    exact ⟨b, rfl, (Post.back p s1).val rfl⟩
  · intro σ H Q ⟨γ, av, env, nw, q⟩
    simp only [ev] at q
    simp only [srcs] at env
    refine tE.use env nw q.bind fun x hx v1 H1 c1 s1 nd1 n1 r1 => ?_
    obtain ⟨b, e, p⟩ := isB_of hx.2
    have rv := rO.er r1 nw n1
    rw [e] at rv
    cases rv
    obtain ⟨k, ek, q⟩ := (Post.back p s1).val (v := .bl (!b)) rfl
    cases ek
    exact ⟨b, rfl, q⟩
theorem se_idx {a b : Ex} {a' b' : Expr} {pos : Pos} (ha : SE G X a a') (hb : SE G X b b') (hp : plainE b' = true) : SE G X (.idx a b) (.Subscript a' b' pos) := by
  refine .of (pe_imp (pe_ix ix_seq ha.pe hb.pe (plain_ix hp)) ?_) rfl
  intro σ H Q ⟨γ, av, env, nw, q⟩
  simp only [ev] at q
  simp only [srcs] at env
  refine two env nw (q.bind.imp fun x hx => hx.2.bind.imp fun y hy => hy.2.bind.of) ?_
  intro x y v1 v2 H2 c1 c2 ⟨d, ed, p⟩ s r1 w1 r2 w2
  have q1 := r1.rv (fun _ z => z) w1
  have q2 := r2.rv (fun _ z => z) w2
  generalize er x = dx at q1 ed
  generalize er y = dy at q2 ed
  cases q1 <;> cases q2 <;> simp only [dix] at ed <;> first
    | (cases ed; done)
    | skip
  · rename_i p0 xs ds h1 h2 h3 i
    cases ek : pix ds.length i with
    | none => rw [ek] at ed; cases ed
    | some k =>
      rw [ek] at ed
      obtain ⟨z, ez, rz⟩ := h3.get (show ds[k]? = some d from ed)
      refine .inl ⟨_, _, _, z, rfl, rfl, .inl h1, ?_, (Post.back p.2 s).sh (Same.refl _) rz⟩
      unfold atI
      rw [h3.length]
      show (pix ds.length i).bind _ = _
      rw [ek]
      exact ez
  · rename_i p0 xs ds h1 h3 i
    cases ek : pix ds.length i with
    | none => rw [ek] at ed; cases ed
    | some k =>
      rw [ek] at ed
      obtain ⟨z, ez, rz⟩ := h3.get (show ds[k]? = some d from ed)
      refine .inr (.inl ⟨_, _, _, z, rfl, rfl, .inl h1, ?_, (Post.back p.2 s).sh (Same.refl _) rz⟩)
      unfold atI
      rw [h3.length]
      show (pix ds.length i).bind _ = _
      rw [ek]
      exact ez
end
end Rp

set_option Elab.async false
set_option linter.all false
set_option maxRecDepth 100000
set_option maxHeartbeats 2000000
/-! RpExpr2: lists of expressions, and, or, displays, calls, what is walked, comprehensions. -/
namespace Rp
open PySem PySem.Spec PyProof.Rows L2

inductive SEs (G : Cfg) (X : Cx) : Exs → List Expr → Prop
  | nil : SEs G X .nil []
  | cons {e : Ex} {es : Exs} {a : Expr} {as : List Expr} : SE G X e a → plainE a = true → SEs G X es as → SEs G X (.cons e es) (a :: as)

/-- results of several parts -/
def Posts (H : Hp) (av : Addr → Prop) (os : List O) (Q : List V → Hp → Prop) : Prop :=
  ∀ (vs : List V) (H' : Hp) (cs : List Addr), Same H H' → cs.Nodup → (∀ a ∈ cs, H a = none) → rOs H' (fun a => av a ∧ a ∉ cs) os vs cs → Q vs H'
def tA (G : Cfg) (es : Exs) : TA := fun σ H Q => ∃ (γ : Env0) (av : Addr → Prop), EnvR H av γ σ (srcss es) ∧ New H av ∧ Ans G σ H (evs G.Φ G.gt γ es) fun os => Posts H av os Q
theorem tA.use {G : Cfg} {es : Exs} {γ : Env0} {av : Addr → Prop} {σ : L2.St} {H : Hp} {P : List O → Prop} {Q : List V → Hp → Prop} (env : EnvR H av γ σ (srcss es)) (nw : New H av) (h : Ans G σ H (evs G.Φ G.gt γ es) P)
    (q : ∀ os, P os → Posts H av os Q) : tA G es σ H Q := ⟨γ, av, env, nw, h.imp q⟩
/-- one more part ahead -/
theorem rOs.join {H1 H2 : Hp} {av : Addr → Prop} {o : O} {os : List O} {v : V} {vs : List V} {c1 c2 : List Addr} (r : rO H1 (fun a => av a ∧ a ∉ c1) o v c1) (nd1 : c1.Nodup) (s : Same H1 H2) (n2 : ∀ a ∈ c2, H1 a = none) (nd2 : c2.Nodup)
    (rs : rOs H2 (fun a => (av a ∧ a ∉ c1) ∧ a ∉ c2) os vs c2) : (c1 ++ c2).Nodup ∧ rOs H2 (fun a => av a ∧ a ∉ c1 ++ c2) (o :: os) (v :: vs) (c1 ++ c2) := by
  have t := r.there
  refine ⟨List.nodup_append.mpr ⟨nd1, nd2, fun a ha b hb e => ?_⟩, ?_⟩
  · subst e
    exact t.2 a ha (n2 a hb)
  · simp only [rOs]
    refine ⟨v, vs, c1, c2, rfl, rfl, (t.1.same s).weak fun a x => ⟨x.1.1, fun z => ?_⟩, rs.weak fun a x => ⟨x.1.1, fun z => ?_⟩⟩
    · rcases List.mem_append.mp z with z | z
      · exact x.1.2 z
      · exact x.2 (n2 a z)
    · rcases List.mem_append.mp z with z | z
      · exact x.1.2 z
      · exact x.2 z
section
variable {M : MC} {G : Cfg} {X : Cx}
theorem SEs.pa {es : Exs} {as : List Expr} (h : SEs G X es as) : PA X as (tA G es) := by
  induction h with
  | nil =>
    refine pa_imp pa_nil ?_
    intro σ H Q ⟨γ, av, env, nw, q⟩
    simp only [evs] at q
    exact q [] H [] (Same.refl H) .nil (fun _ z => by cases z) (by simp only [rOs]; exact ⟨trivial, trivial⟩)
  | cons h1 hp h2 ih =>
    refine pa_imp (pa_cons h1.pe ih (plain_star hp _ _)) ?_
    intro σ H Q ⟨γ, av, env, nw, q⟩
    simp only [evs] at q
    simp only [srcss] at env
    refine tE.use env.left nw q.bind fun o ho v H1 c1 s1 nd1 n1 r1 => ?_
    have nw1 : New H1 (fun a => av a ∧ a ∉ c1) := fun a e => ⟨nw a (s1.free e), fun z => r1.there.2 a z e⟩
    refine tA.use ((env.right.apart n1).same s1) nw1 (ho.2.same s1).bind fun os hos vs H2 c2 s2 nd2 n2 r2 => ?_
    obtain ⟨nd, r⟩ := rOs.join r1 nd1 s2 n2 nd2 r2
    refine hos.2 (v :: vs) H2 (c1 ++ c2) (s1.trans s2) nd (fun a ha => ?_) r
    rcases List.mem_append.mp ha with z | z
    · exact n1 a z
    · exact s1.free (n2 a z)
theorem SEs.any_false {es : Exs} {as : List Expr} (h : SEs G X es as) (env : PySem.Env) (pos : Pos) : (backTo pos (starEach as env)).any (·.1) = false := by
  induction h with
  | nil => rfl
  | cons h1 hp h2 ih =>
    rw [plain_star hp]
    show (false || (backTo pos (starEach _ env)).any (·.1)) = false
    rw [ih]; rfl

/-! and, or -/
def tAnd (G : Cfg) (es : Exs) : TT := fun σ H Q => ∃ (γ : Env0) (av : Addr → Prop), EnvR H av γ σ (srcss es) ∧ New H av ∧ Ans G σ H (evAnd G.Φ G.gt γ es) fun b => ∀ H', Same H H' → Q b H'
def tOr (G : Cfg) (es : Exs) : TT := fun σ H Q => ∃ (γ : Env0) (av : Addr → Prop), EnvR H av γ σ (srcss es) ∧ New H av ∧ Ans G σ H (evOr G.Φ G.gt γ es) fun b => ∀ H', Same H H' → Q b H'
def tV (t : TT) : TE := fun σ H Q => t σ H fun b H' => Q (.bl b) H'
theorem SEs.and {es : Exs} {as : List Expr} {pos : Pos} (h : SEs G X es as) (ne : as ≠ []) : PE X (.BoolOp .And as pos) (tV (tAnd G es)) ∧ PW X (.BoolOp .And as pos) (tAnd G es) := by
  induction h with
  | nil => exact absurd rfl ne
  | @cons e es a as h1 hp h2 ih =>
    cases h2 with
    | nil =>
      have red : ∀ σ H (Q : Bool → Hp → Prop), tAnd G (.cons e .nil) σ H Q → tTest (tE G e) σ H Q := by
        intro σ H Q ⟨γ, av, env, nw, q⟩
        simp only [evAnd] at q
        simp only [srcss] at env
        refine tE.use env.left nw q.bind fun o ho v H1 c1 s1 nd1 n1 r1 => ?_
        obtain ⟨b, eb, q⟩ := isB_of ho.2
        have rv := rO.er r1 nw n1
        rw [eb] at rv
        cases rv
        refine ⟨b, rfl, ?_⟩
        cases b <;> exact q _ s1
      refine ⟨pe_imp (pe_one h1.pe) fun σ H Q q => tE.mono (red σ H _ q) fun v H' ⟨k, ek, q⟩ => by subst ek; exact q, ⟨fun w pins s σ H Q I q => (pw_and1 h1.pt).run w pins s σ H Q I (red σ H Q q)⟩⟩
    | @cons e2 es2 a2 as2 h3 hp2 h4 =>
      obtain ⟨i1, i2⟩ := ih (by simp)
      have red : ∀ σ H (Q : Bool → Hp → Prop), tAnd G (.cons e (.cons e2 es2)) σ H Q → tE G e σ H fun v H1 => ∃ c, v = .bl c ∧ if c = true then tAnd G (.cons e2 es2) σ H1 Q else Q false H1 := by
        intro σ H Q ⟨γ, av, env, nw, q⟩
        rw [evAnd] at q
        rw [srcss] at env
        refine tE.use env.left nw q.bind fun o ho v H1 c1 s1 nd1 n1 r1 => ?_
        obtain ⟨b, eb, q⟩ := isB_of ho.2
        have rv := rO.er r1 nw n1
        rw [eb] at rv
        cases rv
        refine ⟨b, rfl, ?_⟩
        cases b with
        | true => exact ⟨γ, av, env.right.same s1, nw.same s1, (q.same s1).imp fun b p H' s' => p H' (s1.trans s')⟩
        | false => exact q _ s1
      refine ⟨pe_imp (pe_and h1.pe i1) fun σ H Q q => tE.mono (red σ H _ q) fun v H' ⟨k, ek, q⟩ => ⟨k, ek, ?_⟩, ⟨fun w pins s σ H Q I q => (pw_and h1.pt i2).run w pins s σ H Q I (tE.mono (red σ H Q q) fun v H' ⟨k, ek, q⟩ => ⟨k, ek, ?_⟩)⟩⟩
      · cases k <;> (simp only [if_true, Bool.false_eq_true, if_false] at q ⊢; exact q)
      · cases k <;> (simp only [if_true, Bool.false_eq_true, if_false] at q ⊢; exact q)
theorem SEs.or {es : Exs} {as : List Expr} {pos : Pos} (h : SEs G X es as) (ne : as ≠ []) : PE X (.BoolOp .Or as pos) (tV (tOr G es)) ∧ PW X (.BoolOp .Or as pos) (tOr G es) := by
  induction h with
  | nil => exact absurd rfl ne
  | @cons e es a as h1 hp h2 ih =>
    cases h2 with
    | nil =>
      have red : ∀ σ H (Q : Bool → Hp → Prop), tOr G (.cons e .nil) σ H Q → tTest (tE G e) σ H Q := by
        intro σ H Q ⟨γ, av, env, nw, q⟩
        simp only [evOr] at q
        simp only [srcss] at env
        refine tE.use env.left nw q.bind fun o ho v H1 c1 s1 nd1 n1 r1 => ?_
        obtain ⟨b, eb, q⟩ := isB_of ho.2
        have rv := rO.er r1 nw n1
        rw [eb] at rv
        cases rv
        refine ⟨b, rfl, ?_⟩
        cases b <;> exact q _ s1
      refine ⟨pe_imp (pe_one h1.pe) fun σ H Q q => tE.mono (red σ H _ q) fun v H' ⟨k, ek, q⟩ => by subst ek; exact q, ⟨fun w pins s σ H Q I q => (pw_or1 h1.pt).run w pins s σ H Q I (red σ H Q q)⟩⟩
    | @cons e2 es2 a2 as2 h3 hp2 h4 =>
      obtain ⟨i1, i2⟩ := ih (by simp)
      have red : ∀ σ H (Q : Bool → Hp → Prop), tOr G (.cons e (.cons e2 es2)) σ H Q → tE G e σ H fun v H1 => ∃ c, v = .bl c ∧ if c = true then Q true H1 else tOr G (.cons e2 es2) σ H1 Q := by
        intro σ H Q ⟨γ, av, env, nw, q⟩
        rw [evOr] at q
        rw [srcss] at env
        refine tE.use env.left nw q.bind fun o ho v H1 c1 s1 nd1 n1 r1 => ?_
        obtain ⟨b, eb, q⟩ := isB_of ho.2
        have rv := rO.er r1 nw n1
        rw [eb] at rv
        cases rv
        refine ⟨b, rfl, ?_⟩
        cases b with
        | false => exact ⟨γ, av, env.right.same s1, nw.same s1, (q.same s1).imp fun b p H' s' => p H' (s1.trans s')⟩
        | true => exact q _ s1
      refine ⟨pe_imp (pe_or h1.pe i1) fun σ H Q q => tE.mono (red σ H _ q) fun v H' ⟨k, ek, q⟩ => ⟨k, ek, ?_⟩, ⟨fun w pins s σ H Q I q => (pw_or h1.pt i2).run w pins s σ H Q I (tE.mono (red σ H Q q) fun v H' ⟨k, ek, q⟩ => ⟨k, ek, ?_⟩)⟩⟩
      · cases k <;> (simp only [if_true, Bool.false_eq_true, if_false] at q ⊢; exact q)
      · cases k <;> (simp only [if_true, Bool.false_eq_true, if_false] at q ⊢; exact q)
theorem se_and {es : Exs} {as : List Expr} {pos : Pos} (h : SEs G X es as) (ne : as ≠ []) : SE G X (.and es) (.BoolOp .And as pos) := by
  obtain ⟨h1, h2⟩ := h.and (pos := pos) ne
  have red : ∀ σ H Q, tE G (.and es) σ H Q → tAnd G es σ H fun b H' => Q (.bl b) H' := by
    intro σ H Q ⟨γ, av, env, nw, q⟩
    simp only [ev] at q
    simp only [srcs] at env
    exact ⟨γ, av, env, nw, q.bind.imp fun b p H' s => (Post.back p.2 s).val rfl⟩
  refine ⟨pe_imp h1 red, pt_imp h2.pt fun σ H Q q => ?_⟩
  obtain ⟨γ, av, env, nw, p⟩ := red σ H _ q
  exact ⟨γ, av, env, nw, p.imp fun b z H' s => by obtain ⟨k, ek, z⟩ := z H' s; cases ek; exact z⟩
theorem se_or {es : Exs} {as : List Expr} {pos : Pos} (h : SEs G X es as) (ne : as ≠ []) : SE G X (.or es) (.BoolOp .Or as pos) := by
  obtain ⟨h1, h2⟩ := h.or (pos := pos) ne
  have red : ∀ σ H Q, tE G (.or es) σ H Q → tOr G es σ H fun b H' => Q (.bl b) H' := by
    intro σ H Q ⟨γ, av, env, nw, q⟩
    simp only [ev] at q
    simp only [srcs] at env
    exact ⟨γ, av, env, nw, q.bind.imp fun b p H' s => (Post.back p.2 s).val rfl⟩
  refine ⟨pe_imp h1 red, pt_imp h2.pt fun σ H Q q => ?_⟩
  obtain ⟨γ, av, env, nw, p⟩ := red σ H _ q
  exact ⟨γ, av, env, nw, p.imp fun b z H' s => by obtain ⟨k, ek, z⟩ := z H' s; cases ek; exact z⟩

/-! displays -/
theorem rO.fresh_lst {H1 : Hp} {av : Addr → Prop} {os : List O} {vs : List V} {cs : List Addr} {p : Addr} (r : rOs H1 (fun a => av a ∧ a ∉ cs) os vs cs) (nd : cs.Nodup) (np : H1 p = none) :
    (p :: cs).Nodup ∧ rO (upd H1 p (.lst vs)) (fun a => av a ∧ a ∉ p :: cs) (.lst os) (.ref p) (p :: cs) := by
  have t := r.there
  refine ⟨List.nodup_cons.mpr ⟨fun z => t.2 p z np, nd⟩, ?_⟩
  simp only [rO]
  refine ⟨p, vs, cs, rfl, upd_same, rfl, (t.1.same (same_new np)).weak fun a x => ⟨x.1.1, fun z => ?_⟩⟩
  rcases List.mem_cons.mp z with z | z
  · subst z; exact x.2 np
  · exact x.1.2 z
theorem se_lst {es : Exs} {as : List Expr} {pos : Pos} (h : SEs G X es as) : SE G X (.lst es) (.List as pos) := by
  refine .of (pe_imp (pe_lst h.pa) ?_) rfl
  intro σ H Q ⟨γ, av, env, nw, q⟩
  simp only [ev] at q
  simp only [srcs] at env
  refine tA.use env nw q.bind fun os hos vs H1 cs s1 nd n r => ?_
  have hos := hos.2
  have hl := r.length
  split at hos
  · rename_i hz
    refine ⟨by rw [hl]; exact hz, fun p np => ?_⟩
    obtain ⟨nd', r'⟩ := rO.fresh_lst r nd np
    refine hos (.ref p) _ (p :: cs) (s1.trans (same_new np)) nd' (fun a ha => ?_) r'
    rcases List.mem_cons.mp ha with z | z
    · subst z; exact s1.free np
    · exact n a z
  · exact hos.elim
theorem se_tup {es : Exs} {as : List Expr} {k : Nat} {pos : Pos} (h : SEs G X es as) : SE G X (.tup es) (.Tuple as k pos) := by
  refine .of (pe_imp (pe_tup h.pa) ?_) rfl
  intro σ H Q ⟨γ, av, env, nw, q⟩
  simp only [ev] at q
  simp only [srcs] at env
  refine tA.use env nw q.bind fun os hos vs H1 cs s1 nd n r => ?_
  have hos := hos.2
  have hl := r.length
  split at hos
  · rename_i hz
    refine ⟨by rw [hl]; exact hz, fun p np => ?_⟩
    refine hos (.ref p) _ cs (s1.trans (same_new np)) nd n ?_
    simp only [rO]
    exact ⟨p, vs, rfl, upd_same, r.same (same_new np)⟩
  · exact hos.elim
theorem se_dnew {pos : Pos} : SE G X .dnew (.Dict [] [] pos) := by
  refine .of (pe_imp pe_dnewK ?_) rfl
  intro σ H Q ⟨γ, av, env, nw, q⟩
  simp only [ev] at q
  intro p np
  refine q (.ref p) _ [p] (same_new np) (by simp) (fun a h => by rw [List.mem_singleton.mp h]; exact np) ?_
  simp only [rO]
  exact ⟨p, [], rfl, upd_same, rfl, .nil⟩

/-! calls of own defs -/
theorem rOs.ers {H H' : Hp} {av : Addr → Prop} {os : List O} {vs : List V} {cs : List Addr} (r : rOs H' (fun a => av a ∧ a ∉ cs) os vs cs) (nw : New H av) (n : ∀ a ∈ cs, H a = none) : RvAll H' av vs (Rp.ers os) :=
  r.rv (fun _ x => x.1) fun a ha => nw a (n a ha)
theorem run_fnSD {k : Nat} {f : Addr} {fd : FuncData} {ps : List Str} {sp : Sp} {E : L2.St → XK} {pins : List (Addr × Obj)} {σ : L2.St} {H : Hp} {s : Shared} {Q : VK} {us ds : List Value} {vs dvs : List V} (F : FnOk X.prog X.w X.K X.mg X.base (L2.CX X.prog X.w) k f fd ps sp) (hr : Room k X.A) (hb : Binds X.K fd ps ds) (hx : PassesAt (L2.CX X.prog X.w) X σ (E σ))
    (I : Inv X pins σ H s) (r : Vals vs us) (hd : Vals dvs ds) (h : sp (vs ++ dvs) H Q (E σ)) : wpAny (model X.prog X.w) X.A (call (.ref f) us) (EP X pins σ Q) X.xe s := by
  have r' : Vals (vs ++ dvs) (us ++ ds) := r.append hd
  have hl : (us ++ ds).length = ps.length := by rw [← r'.length]; exact F.len _ _ _ _ h
  refine wpAny_call (codeAny_mono (F.run X.A X.stack s H ⟨us, []⟩ (us ++ ds) (vs ++ dvs) Q (E σ) hr I.env0 (hb s us I.kIn hl) r' h) fun r s' hq => ?_)
  match r, hq with
  | .error e, hq => exact hx pins H s e s' I hq
  | .ok (.ret u), hq => exact I.after hq
def tCallSD (sp : Sp) (E : L2.St → XK) (dvs : List V) (t : TA) : TE := fun σ H Q => t σ H fun vs H1 => sp (vs ++ dvs) H1 Q (E σ)
theorem pe_callSD {k : Nat} {f : Addr} {fd : FuncData} {ps : List Str} {sp : Sp} {E : L2.St → XK} {x : Str} {p pos : Pos} {e : Expr} {es : List Expr} {t : TA} {ds : List Value} {dvs : List V} (F : FnOk X.prog X.w X.K X.mg X.base (L2.CX X.prog X.w) k f fd ps sp) (hr : Room k X.A) (hg : Gl X x) (hm : X.mg x = some (.ref f)) (hk : PySem.W.keepIn X.K (.ref f) = true) (hb : Binds X.K fd ps ds) (hd : Vals dvs ds) (hx : ∀ σ, PassesAt (L2.CX X.prog X.w) X σ (E σ))
    (ha : PA X (e :: es) t) (hdb : (x == ("__debug__" : Str)) = false := by decide) (he : starEach (e :: es) X.env = (false, eval e X.env) :: starEach es X.env := by rfl) (hpl : (backTo pos (starEach es X.env)).any (·.1) = false := by rfl) :
    PE X (.Call (.Name x p) (e :: es) [] pos) (tCallSD sp E dvs t) := by
  refine ⟨fun pins s σ H Q I h => wpAny_Call_Name_kw (ld_glob I hg hm (PySem.W.callWith_K (h₀ := X.base) I.ok.mod.kin hk (thn (ha.run pos pins s σ H _ I h) ?_) he hpl) hdb)⟩
  rintro us s1 ⟨vs, H1, I1, r, q⟩
  exact ⟨I1.kIn, run_fnSD F hr hb (hx σ) I1 r hd q⟩
theorem se_call {sc : Scope} {f : Nat} {x : Str} {es : Exs} {a : Expr} {as : List Expr} {p pos : Pos} (h : defB M sc f x = true) (g : Good M G X) (hs : ScOk X sc) (hes : SEs G X es (a :: as)) : SE G X (.call f es) (.Call (.Name x p) (a :: as) [] pos) := by
  simp only [defB, Bool.and_eq_true, beq_iff_eq] at h
  obtain ⟨k, ad, fd, ps, sp, h1, h2, h3, h4, h5, h6⟩ := g.fn f x h.1.1
  have hp : plainE a = true := by cases hes; assumption
  have htl : ∃ es', SEs G X es' as := by cases hes; exact ⟨_, by assumption⟩
  obtain ⟨es', htl⟩ := htl
  refine .of (pe_imp (pe_callS h5 h3 (glB_of h.1.2 hs) h1 h2 h4.1 (fun σ => passAt g.tk σ) hes.pa (nm_of h.2).1 (plain_star hp _ _) (htl.any_false _ _)) ?_) rfl
  intro σ H Q ⟨γ, av, env, nw, q⟩
  simp only [ev] at q
  simp only [srcs] at env
  refine tA.use env nw q.bind fun os hos vs H1 cs s1 nd n r => ?_
  refine h6 vs H1 Q _ ⟨(Rp.ers os).map .sh, av, [], (rOs.shs (rOs.ers r nw n)).weak fun a x => ⟨x, by simp⟩, .nil, by rw [cutH_nil]; exact nw.same s1, ?_⟩
  rw [cutH_nil]
  have hos := hos.2
  cases e : G.Φ f ((Rp.ers os).map .sh) with
  | ok o =>
    rw [e] at hos
    exact Post.back hos s1
  | exc c pl =>
    rw [e] at hos
    exact fun H' cls d s x => hos H' cls d (s1.trans s) x
  | bad =>
    rw [e] at hos
    exact hos.elim
theorem RvAll.snocN {H : Hp} {av : Addr → Prop} {ds : List D} {vs : List V} (h : RvAll H av vs ds) : RvAll H av (vs ++ [.non]) (ds ++ [.none]) := h.append (.cons .non .nil)
theorem se_calld {sc : Scope} {f : Nat} {x : Str} {es : Exs} {a : Expr} {as : List Expr} {p pos : Pos} (h : defB M sc f x = true) (hn : M.nd.contains f = true) (g : Good M G X) (hs : ScOk X sc) (hes : SEs G X es (a :: as)) : SE G X (.calld f es) (.Call (.Name x p) (a :: as) [] pos) := by
  simp only [defB, Bool.and_eq_true, beq_iff_eq] at h
  obtain ⟨k, ad, fd, ps, sp, h1, h2, h3, h4, h5, h6⟩ := g.fn f x h.1.1
  have hp : plainE a = true := by cases hes; assumption
  have htl : ∃ es', SEs G X es' as := by cases hes; exact ⟨_, by assumption⟩
  obtain ⟨es', htl⟩ := htl
  refine .of (pe_imp (pe_callSD h5 h3 (glB_of h.1.2 hs) h1 h2 (h4.2 hn) (dvs := [.non]) (.cons rfl .nil) (fun σ => passAt g.tk σ) hes.pa (nm_of h.2).1 (plain_star hp _ _) (htl.any_false _ _)) ?_) rfl
  intro σ H Q ⟨γ, av, env, nw, q⟩
  simp only [ev] at q
  simp only [srcs] at env
  refine tA.use env nw q.bind fun os hos vs H1 cs s1 nd n r => ?_
  refine h6 _ H1 Q _ ⟨(Rp.ers os ++ [PyData.none]).map .sh, av, [], (rOs.shs (rOs.ers r nw n).snocN).weak fun a x => ⟨x, by simp⟩, .nil, by rw [cutH_nil]; exact nw.same s1, ?_⟩
  rw [cutH_nil]
  have hos := hos.2
  cases e : G.Φ f ((Rp.ers os ++ [PyData.none]).map .sh) with
  | ok o =>
    rw [e] at hos
    exact Post.back hos s1
  | exc c pl =>
    rw [e] at hos
    exact fun H' cls d s x => hos H' cls d (s1.trans s) x
  | bad =>
    rw [e] at hos
    exact hos.elim
end
end Rp

set_option Elab.async false
set_option linter.all false
set_option maxRecDepth 100000
set_option maxHeartbeats 2000000
/-! RpExpr3: built-ins, isinstance, slices, what is walked. -/
namespace Rp
open PySem PySem.Spec PyProof.Rows L2

/-! ints in a list -/
theorem dints_of : ∀ {ds : List D} {ns : List Int}, dints ds = some ns → ds = ns.map PyData.int
  | [], ns, h => by simp [dints] at h; subst h; rfl
  | d :: ds, ns, h => by
    cases d <;> simp [dints] at h
    obtain ⟨l, h1, h2⟩ := h
    subst h2
    rw [dints_of h1]; rfl
theorem RvAll.ofInts {H : Hp} {av : Addr → Prop} : ∀ {ns : List Int} {vs : List V}, RvAll H av vs (ns.map PyData.int) → vs = ns.map V.int
  | [], _, h => by cases h; rfl
  | n :: ns, _, h => by
    cases h with
    | cons h1 h2 =>
      cases h1
      rw [RvAll.ofInts h2]; rfl
theorem minI_le : ∀ (m : Int) (l : List Int), minI m l ≤ m ∧ (∀ x ∈ l, minI m l ≤ x) ∧ (minI m l = m ∨ minI m l ∈ l)
  | m, [] => ⟨Int.le_refl _, by simp, .inl rfl⟩
  | m, x :: l => by
    simp only [minI]
    by_cases hx : x < m
    · obtain ⟨h1, h2, h3⟩ := minI_le x l
      simp only [hx, if_true]
      refine ⟨by omega, fun y hy => ?_, ?_⟩
      · rcases List.mem_cons.mp hy with rfl | hy
        · exact h1
        · exact h2 y hy
      · rcases h3 with h3 | h3
        · exact .inr (by rw [h3]; simp)
        · exact .inr (by simp [h3])
    · obtain ⟨h1, h2, h3⟩ := minI_le m l
      simp only [hx, if_false]
      refine ⟨h1, fun y hy => ?_, ?_⟩
      · rcases List.mem_cons.mp hy with rfl | hy
        · omega
        · exact h2 y hy
      · rcases h3 with h3 | h3
        · exact .inl h3
        · exact .inr (by simp [h3])
theorem maxI_ge : ∀ (m : Int) (l : List Int), m ≤ maxI m l ∧ (∀ x ∈ l, x ≤ maxI m l) ∧ (maxI m l = m ∨ maxI m l ∈ l)
  | m, [] => ⟨Int.le_refl _, by simp, .inl rfl⟩
  | m, x :: l => by
    simp only [maxI]
    by_cases hx : m < x
    · obtain ⟨h1, h2, h3⟩ := maxI_ge x l
      simp only [hx, if_true]
      refine ⟨by omega, fun y hy => ?_, ?_⟩
      · rcases List.mem_cons.mp hy with rfl | hy
        · exact h1
        · exact h2 y hy
      · rcases h3 with h3 | h3
        · exact .inr (by rw [h3]; simp)
        · exact .inr (by simp [h3])
    · obtain ⟨h1, h2, h3⟩ := maxI_ge m l
      simp only [hx, if_false]
      refine ⟨h1, fun y hy => ?_, ?_⟩
      · rcases List.mem_cons.mp hy with rfl | hy
        · omega
        · exact h2 y hy
      · rcases h3 with h3 | h3
        · exact .inl h3
        · exact .inr (by simp [h3])

/-- a built-in by data -/
def rCD (f : List D → Option O) : List V → Hp → VK → Prop := fun vs H Q => ∃ (av : Addr → Prop) (ds : List D) (o : O), RvAll H av vs ds ∧ f ds = some o ∧ Post H av o Q
section
variable {M : MC} {G : Cfg} {X : Cx}
theorem callr_imp {f : Value} {r r' : List V → Hp → VK → Prop} (h : CallR X f r) (i : ∀ xs H Q, r' xs H Q → r xs H Q) : CallR X f r' :=
  fun pins s σ H xs us Q I rx q => h pins s σ H xs us Q I rx (i _ _ _ q)
theorem callr_or {f : Value} {r r' : List V → Hp → VK → Prop} (h : CallR X f r) (h' : CallR X f r') : CallR X f (fun xs H Q => r xs H Q ∨ r' xs H Q) :=
  fun pins s σ H xs us Q I rx q => q.elim (fun q => h pins s σ H xs us Q I rx q) fun q => h' pins s σ H xs us Q I rx q
/-- an argument list of one or two -/
theorem rv1 {H : Hp} {av : Addr → Prop} {vs : List V} {d : D} (h : RvAll H av vs [d]) : ∃ v, vs = [v] ∧ Rv H av v d := by
  cases h with
  | cons h1 h2 => cases h2; exact ⟨_, rfl, h1⟩
theorem rv2 {H : Hp} {av : Addr → Prop} {vs : List V} {d e : D} (h : RvAll H av vs [d, e]) : ∃ v u, vs = [v, u] ∧ Rv H av v d ∧ Rv H av u e := by
  cases h with
  | cons h1 h2 =>
    cases h2 with
    | cons h2 h3 => cases h3; exact ⟨_, _, rfl, h1, h2⟩
theorem bi_len : CallR X (.builtin "len") (rCD (bfn .len)) := by
  refine callr_imp call_len_seq fun vs H Q ⟨av, ds, o, r, e, p⟩ => ?_
  unfold bfn at e
  split at e <;> first | (cases e; done) | skip
  all_goals (rename_i hb; first | (cases hb; done) | skip)
  · cases e
    obtain ⟨v, rfl, h⟩ := rv1 r
    cases h with
    | lst h1 h2 h3 => exact ⟨_, _, rfl, .inl (.inl h1), by rw [h3.length]; exact p.val rfl⟩
  · cases e
    obtain ⟨v, rfl, h⟩ := rv1 r
    cases h with
    | tup h1 h3 => exact ⟨_, _, rfl, .inr (.inl h1), by rw [h3.length]; exact p.val rfl⟩
theorem bi_abs : CallR X (.builtin "abs") (rCD (bfn .abs)) := by
  refine callr_imp call_abs fun vs H Q ⟨av, ds, o, r, e, p⟩ => ?_
  unfold bfn at e
  split at e <;> first | (cases e; done) | skip
  all_goals (rename_i hb; first | (cases hb; done) | skip)
  cases e
  obtain ⟨v, rfl, h⟩ := rv1 r
  cases h
  exact ⟨_, rfl, p.val rfl⟩
theorem bi_min (hc : X.calm = true) : CallR X (.builtin "min") (rCD (bfn .min)) := by
  refine callr_imp (callr_or (cr_min hc) (call_min2 hc)) fun vs H Q ⟨av, ds, o, r, e, p⟩ => ?_
  unfold bfn at e
  split at e <;> first | (cases e; done) | skip
  all_goals (rename_i hb; first | (cases hb; done) | skip)
  · obtain ⟨v, rfl, h⟩ := rv1 r
    split at e
    · rename_i x xs hx
      cases e
      cases h with
      | lst h1 h2 h3 =>
        rw [dints_of hx] at h3
        have hv := RvAll.ofInts h3
        subst hv
        obtain ⟨m1, m2, m3⟩ := minI_le x xs
        refine .inl ⟨_, x :: xs, rfl, .inl h1, by simp, fun m hm hle => ?_⟩
        have e : m = minI x xs := by
          have h4 : m ≤ minI x xs := by
            rcases m3 with m3 | m3
            · rw [m3]; exact hle x (by simp)
            · exact hle _ (by simp [m3])
          have h5 : minI x xs ≤ m := by
            rcases List.mem_cons.mp hm with rfl | hm
            · exact m1
            · exact m2 m hm
          omega
        rw [e]
        exact p.val rfl
    · cases e
  · cases e
    obtain ⟨v, u, rfl, h, h'⟩ := rv2 r
    cases h
    cases h'
    exact .inr ⟨_, _, rfl, p.val rfl⟩
theorem bi_max (hc : X.calm = true) : CallR X (.builtin "max") (rCD (bfn .max)) := by
  refine callr_imp (callr_or (cr_max hc) (call_max2 hc)) fun vs H Q ⟨av, ds, o, r, e, p⟩ => ?_
  unfold bfn at e
  split at e <;> first | (cases e; done) | skip
  all_goals (rename_i hb; first | (cases hb; done) | skip)
  · obtain ⟨v, rfl, h⟩ := rv1 r
    split at e
    · rename_i x xs hx
      cases e
      cases h with
      | lst h1 h2 h3 =>
        rw [dints_of hx] at h3
        have hv := RvAll.ofInts h3
        subst hv
        obtain ⟨m1, m2, m3⟩ := maxI_ge x xs
        refine .inl ⟨_, x :: xs, rfl, .inl h1, by simp, fun m hm hle => ?_⟩
        have e : m = maxI x xs := by
          have h4 : maxI x xs ≤ m := by
            rcases m3 with m3 | m3
            · rw [m3]; exact hle x (by simp)
            · exact hle _ (by simp [m3])
          have h5 : m ≤ maxI x xs := by
            rcases List.mem_cons.mp hm with rfl | hm
            · exact m1
            · exact m2 m hm
          omega
        rw [e]
        exact p.val rfl
    · cases e
  · cases e
    obtain ⟨v, u, rfl, h, h'⟩ := rv2 r
    cases h
    cases h'
    exact .inr ⟨_, _, rfl, p.val rfl⟩
theorem bi_sum (hc : X.calm = true) : CallR X (.builtin "sum") (rCD (bfn .sum)) := by
  refine callr_imp (cr_sum hc) fun vs H Q ⟨av, ds, o, r, e, p⟩ => ?_
  unfold bfn at e
  split at e <;> first | (cases e; done) | skip
  all_goals (rename_i hb; first | (cases hb; done) | skip)
  obtain ⟨v, rfl, h⟩ := rv1 r
  simp only [Option.map_eq_some_iff] at e
  obtain ⟨ns, ei, rfl⟩ := e
  cases h with
  | lst h1 h2 h3 =>
    rw [dints_of ei] at h3
    have hv := RvAll.ofInts h3
    subst hv
    exact ⟨_, ns, rfl, .inl h1, p.val rfl⟩
theorem bi_list : CallR X (.type "list") (rCD (bfn .list)) := by
  refine callr_imp call_list_of fun vs H Q ⟨av, ds, o, r, e, p⟩ => ?_
  unfold bfn at e
  split at e <;> first | (cases e; done) | skip
  all_goals (rename_i hb; first | (cases hb; done) | skip)
  · cases e
    obtain ⟨v, rfl, h⟩ := rv1 r
    cases h with
    | lst h1 h2 h3 => exact ⟨_, _, rfl, .inl (.inl h1), fun l n => p.lst n h3⟩
  · cases e
    obtain ⟨v, rfl, h⟩ := rv1 r
    cases h with
    | tup h1 h3 => exact ⟨_, _, rfl, .inr (.inl h1), fun l n => p.lst n h3⟩
theorem bi_tuple : CallR X (.type "tuple") (rCD (bfn .tuple)) := by
  refine callr_imp call_tuple_of fun vs H Q ⟨av, ds, o, r, e, p⟩ => ?_
  unfold bfn at e
  split at e <;> first | (cases e; done) | skip
  all_goals (rename_i hb; first | (cases hb; done) | skip)
  cases e
  obtain ⟨v, rfl, h⟩ := rv1 r
  cases h with
  | lst h1 h2 h3 => exact ⟨_, _, rfl, .inl ⟨.inl h1, fun l n => p.sh (same_new n) (.tup (.inl upd_same) (h3.same (same_new n)))⟩⟩
theorem bi_int : CallR X (.type "int") (rCD (bfn .int)) := by
  refine callr_imp call_int1 fun vs H Q ⟨av, ds, o, r, e, p⟩ => ?_
  unfold bfn at e
  split at e <;> first | (cases e; done) | skip
  all_goals (rename_i hb; first | (cases hb; done) | skip)
  · cases e
    obtain ⟨v, rfl, h⟩ := rv1 r
    cases h
    exact .inl ⟨_, rfl, p.val rfl⟩
  · cases e
    obtain ⟨v, rfl, h⟩ := rv1 r
    cases h
    exact .inr ⟨_, rfl, p.val rfl⟩
theorem bi_red {f : Bi} {es : Exs} : ∀ σ H Q, tE G (.bi f es) σ H Q → tCB (rCD (bfn f)) (tA G es) σ H Q := by
  intro σ H Q ⟨γ, av, env, nw, q⟩
  simp only [ev] at q
  simp only [srcs] at env
  refine tA.use env nw q.bind fun os hos vs H1 cs s1 nd n r => ?_
  obtain ⟨o, eo, p⟩ := hos.2.of
  exact ⟨av, Rp.ers os, o, rOs.ers r nw n, eo, Post.back p s1⟩
theorem se_bi {sc : Scope} {f : Bi} {x : Str} {es : Exs} {a : Expr} {as : List Expr} {p pos : Pos} (h : bltB sc x (biN f) = true) (hf : f ≠ .sorted ∧ f ≠ .str ∧ f ≠ .dict ∧ f ≠ .lenset) (g : Good M G X) (hs : ScOk X sc) (hes : SEs G X es (a :: as)) :
    SE G X (.bi f es) (.Call (.Name x p) (a :: as) [] pos) := by
  simp only [bltB, Bool.and_eq_true, beq_iff_eq] at h
  obtain ⟨h1, h2⟩ := h
  subst h1
  have hp : plainE a = true := by cases hes; assumption
  have htl : ∃ es', SEs G X es' as := by cases hes; exact ⟨_, by assumption⟩
  obtain ⟨es', htl⟩ := htl
  have gl := glB_of h2 hs
  have st := plain_star hp as X.env
  have fl := htl.any_false X.env pos
  refine .of ?_ rfl
  obtain ⟨f1, f2, f3, f4⟩ := hf
  cases f with
  | len => exact pe_imp (pe_callB bi_len gl (g.bi _ (by simp [biN])) PySem.boot_len hes.pa (by decide) (by decide) st fl) bi_red
  | abs => exact pe_imp (pe_callB bi_abs gl (g.bi _ (by simp [biN])) PyProof.Rows.boot_abs hes.pa (by decide) (by decide) st fl) bi_red
  | min => exact pe_imp (pe_callB (bi_min g.calm) gl (g.bi _ (by simp [biN])) PyProof.Rows.boot_min hes.pa (by decide) (by decide) st fl) bi_red
  | max => exact pe_imp (pe_callB (bi_max g.calm) gl (g.bi _ (by simp [biN])) (by decide +kernel) hes.pa (by decide) (by decide) st fl) bi_red
  | sum => exact pe_imp (pe_callB (bi_sum g.calm) gl (g.bi _ (by simp [biN])) PyProof.Rows.boot_sum hes.pa (by decide) (by decide) st fl) bi_red
  | list => exact pe_imp (pe_callTy bi_list gl (g.bi _ (by simp [biN])) PyProof.Rows.boot_list hes.pa (by decide) (by decide) st fl) bi_red
  | tuple => exact pe_imp (pe_callTy bi_tuple gl (g.bi _ (by simp [biN])) PyProof.Rows.boot_tuple hes.pa (by decide) (by decide) st fl) bi_red
  | int => exact pe_imp (pe_callTy bi_int gl (g.bi _ (by simp [biN])) (by decide +kernel) hes.pa (by decide) (by decide) st fl) bi_red
  | sorted => exact absurd rfl f1
  | str => exact absurd rfl f2
  | dict => exact absurd rfl f3
  | lenset => exact absurd rfl f4

/-! isinstance against one built-in class -/
def tyN : Nat → Option String
  | 0 => some "bool" | 1 => some "int" | 2 => some "tuple" | 3 => some "list" | 4 => some "str" | _ => none
theorem Rv.ty {H : Hp} {av : Addr → Prop} {v : V} {d : D} (K : PySem.W.Frag) (r : Rv H av v d) : ∃ t : String, TyX K H v (.type t) ∧ ∀ k n, tyN k = some n → kitB t n = some (isTy d k) := by
  have key : ∀ t : String, (∀ k n, tyN k = some n → kitB t n = some (isTy d k)) ↔ (kitB t "bool" = some (isTy d 0) ∧ kitB t "int" = some (isTy d 1) ∧ kitB t "tuple" = some (isTy d 2) ∧ kitB t "list" = some (isTy d 3) ∧ kitB t "str" = some (isTy d 4)) := by
    intro t
    refine ⟨fun h => ⟨h 0 _ rfl, h 1 _ rfl, h 2 _ rfl, h 3 _ rfl, h 4 _ rfl⟩, fun ⟨h0, h1, h2, h3, h4⟩ k n e => ?_⟩
    match k, e with
    | 0, e => cases e; exact h0
    | 1, e => cases e; exact h1
    | 2, e => cases e; exact h2
    | 3, e => cases e; exact h3
    | 4, e => cases e; exact h4
  cases r with
  | non => exact ⟨_, .base .non, (key _).mpr ⟨by decide +kernel, by decide +kernel, by decide +kernel, by decide +kernel, by decide +kernel⟩⟩
  | bl b => exact ⟨_, .base (.bl b), (key _).mpr ⟨by show _ = some true; decide +kernel, by show _ = some true; decide +kernel, by show _ = some false; decide +kernel, by show _ = some false; decide +kernel, by show _ = some false; decide +kernel⟩⟩
  | int i => exact ⟨_, .base (.int i), (key _).mpr ⟨by show _ = some false; decide +kernel, by show _ = some true; decide +kernel, by show _ = some false; decide +kernel, by show _ = some false; decide +kernel, by show _ = some false; decide +kernel⟩⟩
  | str x => exact ⟨_, .base (.str x), (key _).mpr ⟨by show _ = some false; decide +kernel, by show _ = some false; decide +kernel, by show _ = some false; decide +kernel, by show _ = some false; decide +kernel, by show _ = some true; decide +kernel⟩⟩
  | lst h1 h2 h3 =>
    refine ⟨"list", ?_, (key _).mpr ⟨by show _ = some false; decide +kernel, by show _ = some false; decide +kernel, by show _ = some false; decide +kernel, by show _ = some true; decide +kernel, by show _ = some false; decide +kernel⟩⟩
    rcases h1 with h1 | ⟨o, h1⟩
    · exact .base (.lst h1)
    · exact .base (.frz h1)
  | tup h1 h3 =>
    refine ⟨"tuple", ?_, (key _).mpr ⟨by show _ = some false; decide +kernel, by show _ = some false; decide +kernel, by show _ = some true; decide +kernel, by show _ = some false; decide +kernel, by show _ = some false; decide +kernel⟩⟩
    rcases h1 with h1 | ⟨o, h1⟩
    · exact .base (.tup h1)
    · exact .fTuple h1
  | dic h1 h2 h3 =>
    exact ⟨"dict", .base (.dK h1), (key _).mpr ⟨by show _ = some false; decide +kernel, by show _ = some false; decide +kernel, by show _ = some false; decide +kernel, by show _ = some false; decide +kernel, by show _ = some false; decide +kernel⟩⟩
def tyB (k : Nat) (x : Str) : Bool := match k with
  | 0 => x == ("bool" : Str) | 1 => x == ("int" : Str) | 2 => x == ("tuple" : Str) | 3 => x == ("list" : Str) | 4 => x == ("str" : Str) | _ => false
theorem pe_tyname {sc : Scope} {k : Nat} {x : Str} {pos : Pos} (h : tyB k x = true) (hg : glB sc x = true) (g : Good M G X) (hs : ScOk X sc) : ∃ n, tyN k = some n ∧ PE X (.Name x pos) (tC (.ty n)) := by
  have gl := glB_of hg hs
  match k, h with
  | 0, h => obtain rfl := eq_of_beq h; exact ⟨_, rfl, pe_bltn gl (g.bi _ (by simp)) (by decide +kernel) rfl⟩
  | 1, h => obtain rfl := eq_of_beq h; exact ⟨_, rfl, pe_bltn gl (g.bi _ (by simp)) (by decide +kernel) rfl⟩
  | 2, h => obtain rfl := eq_of_beq h; exact ⟨_, rfl, pe_bltn gl (g.bi _ (by simp)) (by decide +kernel) rfl⟩
  | 3, h => obtain rfl := eq_of_beq h; exact ⟨_, rfl, pe_bltn gl (g.bi _ (by simp)) (by decide +kernel) rfl⟩
  | 4, h => obtain rfl := eq_of_beq h; exact ⟨_, rfl, pe_bltn gl (g.bi _ (by simp)) (by decide +kernel) rfl⟩
  | n + 5, h => simp [tyB] at h
theorem se_isi {sc : Scope} {k : Nat} {x y : Str} {e : Ex} {a : Expr} {p p2 pos : Pos} (h : bltB sc x "isinstance" = true) (hy : tyB k y = true) (hg : glB sc y = true) (g : Good M G X) (hs : ScOk X sc) (he : SE G X e a) (hp : plainE a = true) :
    SE G X (.isi e [k]) (.Call (.Name x p) [a, .Name y p2] [] pos) := by
  simp only [bltB, Bool.and_eq_true, beq_iff_eq] at h
  obtain ⟨h1, h2⟩ := h
  subst h1
  obtain ⟨n, en, hn⟩ := pe_tyname (pos := p2) hy hg g hs
  refine .of (pe_imp (pe_callB call_isi (glB_of h2 hs) (g.bi _ (by simp)) PyProof.Rows.boot_isinstance (pa_cons he.pe (pa_cons hn pa_nil) (plain_star hp _ _)) (by decide) (by decide) (plain_star hp _ _)) ?_) rfl
  intro σ H Q ⟨γ, av, env, nw, q⟩
  simp only [ev] at q
  simp only [srcs] at env
  refine tE.use env nw q.bind fun o ho v H1 c1 s1 nd1 n1 r1 => ?_
  obtain ⟨t, ht, hk⟩ := (rO.er r1 nw n1).ty X.K
  have e1 := hk k n en
  have p := Post.back ho.2 s1
  simp only [List.any_cons, List.any_nil, Bool.or_false] at p
  exact ⟨v, .ty n, .type t, .type n, _, rfl, .ty n, ht, kit_ty e1, p.val rfl⟩

/-! slices -/
theorem RvAll.cut {H : Hp} {av : Addr → Prop} {vs : List V} {ds : List D} (h : RvAll H av vs ds) (lo hi : Option Int) : RvAll H av (cutV vs lo hi) (cutD ds lo hi) := by
  unfold cutV cutD
  rw [h.length]
  exact (h.drop _).take _
def tO (G : Cfg) (e : Ex) : TO := fun σ H Q => ∃ (γ : Env0) (av : Addr → Prop), EnvR H av γ σ (srcs e) ∧ New H av ∧ Ans G σ H (evPart G.Φ G.gt γ e) fun o => ∀ H', Same H H' → Q o H'
theorem evPart_of {Φ : Nat → List O → Res O} {gt : Nat → Option D} {γ : Env0} {e : Ex} (h : e ≠ .nul) : evPart Φ gt γ e = (ev Φ gt γ e).bind fun o => match er o with | .int i => .ok (some i) | _ => .bad := by
  cases e <;> first | exact absurd rfl h | rfl
theorem po_imp {a : Option Expr} {t t' : TO} (h : PO X a t) (i : ∀ σ H Q, t' σ H Q → t σ H Q) : PO X a t' := ⟨fun pins s σ H Q I q => h.run pins s σ H Q I (i _ _ _ q)⟩
theorem po_nul : PO X none (tO G .nul) := by
  refine po_imp po_none ?_
  intro σ H Q ⟨γ, av, env, nw, q⟩
  have q : Ans G σ H (Res.ok none) _ := q
  exact q H (Same.refl H)
theorem po_ex {e : Ex} {a : Expr} (h : SE G X e a) (ne : e ≠ .nul) : PO X (some a) (tO G e) := by
  refine po_imp (po_some h.pe) ?_
  intro σ H Q ⟨γ, av, env, nw, q⟩
  rw [evPart_of ne] at q
  refine tE.use env nw q.bind fun o ho v H1 c1 s1 nd1 n1 r1 => ?_
  have ho := ho.2
  split at ho
  · rename_i i e
    have rv := rO.er r1 nw n1
    rw [e] at rv
    cases rv
    exact ⟨i, rfl, ho H1 s1⟩
  · exact ho.elim
theorem se_cut {o lo hi : Ex} {a : Expr} {l h : Option Expr} {p2 pos : Pos} (ho : SE G X o a) (hl : PO X l (tO G lo)) (hh : PO X h (tO G hi)) : SE G X (.cut o lo hi) (.Subscript a (.Slice l h none p2) pos) := by
  refine .of (pe_imp (pe_slice sl_list ho.pe hl hh) ?_) rfl
  intro σ H Q ⟨γ, av, env, nw, q⟩
  simp only [ev] at q
  have q : Ans G σ H ((ev G.Φ G.gt γ o).bind fun x => (evPart G.Φ G.gt γ lo).bind fun l => (evPart G.Φ G.gt γ hi).bind fun h => match er x with | .list ds => .ok (shl (cutD ds l h)) | _ => .bad) _ := q
  simp only [srcs] at env
  refine tE.use env.left nw q.bind fun x hx v H1 c1 s1 nd1 n1 r1 => ?_
  refine ⟨γ, av, env.right.left.same s1, nw.same s1, (hx.2.same s1).bind.imp fun l hl H2 s2 => ?_⟩
  refine ⟨γ, av, env.right.right.same (s1.trans s2), nw.same (s1.trans s2), ((hl.2.same s2).bind.imp fun h hh H3 s3 => ?_)⟩
  have hh := hh.2
  split at hh
  · rename_i ds e
    have rv := (rO.er r1 nw n1).same (s2.trans s3)
    rw [e] at rv
    cases rv with
    | lst h1 h2 h3 => exact ⟨_, _, rfl, .inl h1, fun p n => (Post.back hh (s1.trans (s2.trans s3))).lst n (h3.cut l h)⟩
  · exact hh.elim
/-! len(set(..)) -/
theorem se_lset {sc : Scope} {x y : Str} {e : Ex} {a : Expr} {p p2 q0 pos : Pos} (h : bltB sc x "len" = true) (hy : bltB sc y "set" = true) (g : Good M G X) (hs : ScOk X sc) (he : SE G X e a) (hp : plainE a = true) :
    SE G X (.lset e) (.Call (.Name x p) [.Call (.Name y p2) [a] [] q0] [] pos) := by
  simp only [bltB, Bool.and_eq_true, beq_iff_eq] at h hy
  obtain ⟨h1, h2⟩ := h
  obtain ⟨h3, h4⟩ := hy
  subst h1 h3
  refine .of (pe_imp (RZ.pe_lenSetI (glB_of h2 hs) (g.bi _ (by simp)) (glB_of h4 hs) (g.bi _ (by simp)) he.pe g.calm (plain_star hp _ _)) ?_) rfl
  intro σ H Q ⟨γ, av, env, nw, q⟩
  simp only [ev] at q
  simp only [srcs] at env
  refine tE.use env nw q.bind fun o ho v H1 c1 s1 nd1 n1 r1 => ?_
  obtain ⟨n, en, -, p⟩ := ho.2.bind.of
  have rv := rO.er r1 nw n1
  generalize er o = d at rv en
  cases rv <;> simp only [lsetD] at en <;> first | (cases en; done) | skip
  rename_i h1 h2 h3
  split at en
  · rename_i ns hns
    split at en
    · rename_i hc
      cases en
      rw [dints_of hns] at h3
      have hv := RvAll.ofInts h3
      subst hv
      exact ⟨_, ns, rfl, .inl h1, hc.2, hc.1, Post.val (Post.back p s1) rfl⟩
    · cases en
  · cases en
end
end Rp

set_option Elab.async false
set_option linter.all false
set_option maxRecDepth 100000
set_option maxHeartbeats 2000000
/-! RpExpr4: what is walked, targets, comprehensions. -/
namespace Rp
open PySem PySem.Spec PyProof.Rows L2

structure Walks (H : Hp) (av : Addr → Prop) (J : It) (ds : List D) : Prop where
  go : ∀ (i : Nat) (d : D) (H' : Hp), Kept av H H' → ds[i]? = some d → J.go i H' ∧ ∀ x H'', J.yld i H' x H'' → Same H' H'' ∧ Rv H'' av x d
  stop : ∀ (H' : Hp), Kept av H H' → J.stop ds.length H'
def tI (G : Cfg) (it : Itx) : TI := fun σ H R => ∃ (γ : Env0) (av : Addr → Prop), EnvR H av γ σ (srcsI it) ∧ New H av ∧ Ans G σ H (evI G.Φ G.gt γ it) fun p => ∀ J H', Same H H' → Walks H' (fun a => (av a ∧ (p.2 = true → H a = none)) ∧ H' a ≠ none) J p.1 → R J H'
theorem Walks.weak {H : Hp} {av av' : Addr → Prop} {J : It} {ds : List D} (w : ∀ a, av a → av' a) (h : Walks H av J ds) : Walks H av' J ds where
  go := fun i d H' k e => ⟨(h.go i d H' (k.weak w) e).1, fun x H'' y => ⟨((h.go i d H' (k.weak w) e).2 x H'' y).1, ((h.go i d H' (k.weak w) e).2 x H'' y).2.weak w⟩⟩
  stop := fun H' k => h.stop H' (k.weak w)
theorem Walks.no {H H0 : Hp} {av : Addr → Prop} {J : It} {ds : List D} (h : Walks H (fun a => av a ∧ H a ≠ none) J ds) : Walks H (fun a => (av a ∧ (false = true → H0 a = none)) ∧ H a ≠ none) J ds :=
  h.weak fun a x => ⟨⟨x.1, fun z => by cases z⟩, x.2⟩
theorem pi_imp {X : Cx} {tg a : Expr} {t t' : TI} (h : PI X tg a t) (i : ∀ σ H R, t' σ H R → t σ H R) : PI X tg a t' := ⟨fun pins s σ H R I q => h.run pins s σ H R I (i _ _ _ q)⟩
theorem kept_sq {K : PySem.W.Frag} {av : Addr → Prop} {H H' : Hp} {a : Addr} {xs : List V} (k : Kept (fun a => av a ∧ H a ≠ none) H H') (h : Rd H a (.lst xs)) (ha : av a) : SqL K H' a xs := .inl (k.seq h ⟨ha, rd_there h⟩)
section
variable {M : MC} {G : Cfg} {X : Cx}
theorem walks_list {K : PySem.W.Frag} {H : Hp} {av : Addr → Prop} {a : Addr} {xs : List V} {ds : List D} (h1 : Rd H a (.lst xs)) (h2 : av a) (h3 : RvAll H av xs ds) : Walks H (fun a => av a ∧ H a ≠ none) (Itl K a) ds where
  go := fun i d H' k e => by
    obtain ⟨x, ex, rx⟩ := h3.there.get e
    have sq := kept_sq (K := K) k h1 h2
    refine ⟨⟨xs, x, sq, ex⟩, fun y H'' ⟨e1, e2⟩ => ?_⟩
    subst e1
    have e3 := e2 xs sq
    rw [ex] at e3
    cases e3
    exact ⟨Same.refl _, rx.kept k fun _ z => z⟩
  stop := fun H' k => ⟨xs, kept_sq k h1 h2, by rw [h3.length]; exact Nat.le_refl _⟩
theorem walks_tup {K : PySem.W.Frag} {H : Hp} {av : Addr → Prop} {a : Addr} {xs : List V} {ds : List D} (h1 : Rd H a (.tup xs)) (h3 : RvAll H av xs ds) : Walks H (fun a => av a ∧ H a ≠ none) (Itt K a) ds where
  go := fun i d H' k e => by
    obtain ⟨x, ex, rx⟩ := h3.there.get e
    have sq : SqT K H' a xs := .inl (k.seqT h1)
    refine ⟨⟨xs, x, sq, ex⟩, fun y H'' ⟨e1, e2⟩ => ?_⟩
    subst e1
    have e3 := e2 xs sq
    rw [ex] at e3
    cases e3
    exact ⟨Same.refl _, rx.kept k fun _ z => z⟩
  stop := fun H' k => ⟨xs, .inl (k.seqT h1), by rw [h3.length]; exact Nat.le_refl _⟩
theorem pi_or {X : Cx} {tg a : Expr} {t t' : TI} (h : PI X tg a t) (h' : PI X tg a t') : PI X tg a (fun σ H R => t σ H R ∨ t' σ H R) := ⟨fun pins s σ H R I q => q.elim (h.run pins s σ H R I) (h'.run pins s σ H R I)⟩
theorem si_ls {tg : Expr} {e : Ex} {a : Expr} (h : SE G X e a) : PI X tg a (tI G (.ls e)) := by
  refine ⟨fun pins s σ H R I q => ?_⟩
  obtain ⟨γ, av, env, nw, q⟩ := q
  simp only [evI] at q
  simp only [srcsI] at env
  -- is it a list, or a tuple: the answer tells
  cases er1 : ev G.Φ G.gt γ e with
  | bad => rw [er1] at q; exact q.elim
  | exc c p => exact (pi_list h.pe).run pins s σ H R I ⟨γ, av, env, nw, by rw [er1] at q ⊢; exact q⟩
  | ok o =>
    rw [er1, Res.bind_ok] at q
    obtain ⟨ds, e1, -, p⟩ := q.bind.of
    have p : ∀ J H', Same H H' → Walks H' (fun a => (av a ∧ ((isFresh o && flats ds) = true → H a = none)) ∧ H' a ≠ none) J ds → R J H' := p
    cases ed : er o with
    | list es =>
      refine (pi_list h.pe).run pins s σ H R I (tE.use (P := fun o' => o' = o) env nw (by rw [er1]; rfl) fun o' eo v H1 c1 s1 nd1 n1 r1 => ?_)
      subst eo
      rw [ed] at e1
      simp only [lsD, Option.some.injEq] at e1
      subst e1
      by_cases hf : (isFresh o' && flats es) = true
      · rw [hf] at p
        simp only [Bool.and_eq_true] at hf
        cases o' with
        | lst os =>
          simp only [er, PyData.list.injEq] at ed
          simp only [rO] at r1
          obtain ⟨b, vs, cs', rfl, hb, rfl, hos⟩ := r1
          have hv := rOs.rv (av' := av) (fun _ z => z.1) hos fun c hc => nw c (n1 c (by simp [hc]))
          rw [ed] at hv
          exact ⟨_, rfl, ⟨_, .inl (.inl hb)⟩, p _ H1 s1 (walks_list (.inl hb) ⟨nw b (n1 b (by simp)), fun _ => n1 b (by simp)⟩ (hv.flat_any hf.2))⟩
        | _ => exact absurd hf.1 (by simp [isFresh])
      · have hf : (isFresh o' && flats es) = false := by simpa using hf
        rw [hf] at p
        have rv := rO.er r1 nw n1
        rw [ed] at rv
        cases rv with
        | lst h1 h2 h3 => exact ⟨_, rfl, ⟨_, .inl h1⟩, p _ H1 s1 (walks_list h1 h2 h3).no⟩
    | tuple es =>
      refine (pi_tup h.pe).run pins s σ H R I (tE.use (P := fun o' => o' = o) env nw (by rw [er1]; rfl) fun o' eo v H1 c1 s1 nd1 n1 r1 => ?_)
      subst eo
      rw [ed] at e1
      simp only [lsD, Option.some.injEq] at e1
      subst e1
      have hf : isFresh o' = false := by
        cases o' with
        | lst os => simp [er] at ed
        | _ => rfl
      rw [hf] at p
      have rv := rO.er r1 nw n1
      rw [ed] at rv
      cases rv with
      | tup h1 h3 => exact ⟨_, rfl, ⟨_, .inl h1⟩, p _ H1 s1 (walks_tup h1 h3).no⟩
    | _ => rw [ed] at e1; simp [lsD] at e1
theorem walks_rng {H : Hp} {av : Addr → Prop} {lo c : Int} {n : Nat} : Walks H av (Itc lo c n) ((List.range n).map fun (k : Nat) => PyData.int (lo + k * c)) where
  go := fun i d H' k e => by
    rw [List.getElem?_map] at e
    have hi : i < n := by
      cases q : (List.range n)[i]? with
      | none => rw [q] at e; cases e
      | some z =>
        have := (List.getElem?_eq_some_iff.mp q).1
        simpa using this
    rw [List.getElem?_range hi] at e
    cases e
    refine ⟨hi, fun x H'' ⟨e1, e2⟩ => ?_⟩
    subst e1 e2
    exact ⟨Same.refl _, .int _⟩
  stop := fun H' k => by
    show n ≤ _
    simp
theorem walks_rng1 {H : Hp} {av : Addr → Prop} {lo : Int} {n : Nat} : Walks H av (Itr lo n) ((List.range n).map fun (k : Nat) => PyData.int (lo + k)) where
  go := fun i d H' k e => by
    rw [List.getElem?_map] at e
    have hi : i < n := by
      cases q : (List.range n)[i]? with
      | none => rw [q] at e; cases e
      | some z =>
        have := (List.getElem?_eq_some_iff.mp q).1
        simpa using this
    rw [List.getElem?_range hi] at e
    cases e
    refine ⟨hi, fun x H'' ⟨e1, e2⟩ => ?_⟩
    subst e1 e2
    exact ⟨Same.refl _, .int _⟩
  stop := fun H' k => by
    show n ≤ _
    simp
theorem rv3 {H : Hp} {av : Addr → Prop} {vs : List V} {d e f : D} (h : RvAll H av vs [d, e, f]) : ∃ v u w, vs = [v, u, w] ∧ Rv H av v d ∧ Rv H av u e ∧ Rv H av w f := by
  cases h with
  | cons h1 h2 =>
    cases h2 with
    | cons h2 h3 =>
      cases h3 with
      | cons h3 h4 => cases h4; exact ⟨_, _, _, rfl, h1, h2, h3⟩
def exsLen : Exs → Nat
  | .nil => 0
  | .cons _ es => exsLen es + 1
theorem evs_len {Φ : Nat → List O → Res O} {gt : Nat → Option D} {γ : Env0} : ∀ {es : Exs} {os : List O}, evs Φ gt γ es = .ok os → os.length = exsLen es
  | .nil, os, h => by simp only [evs] at h; cases h; rfl
  | .cons e es, os, h => by
    simp only [evs] at h
    cases h1 : ev Φ gt γ e with
    | ok o =>
      rw [h1, Res.bind_ok] at h
      cases h2 : evs Φ gt γ es with
      | ok os2 =>
        rw [h2, Res.bind_ok] at h
        cases h
        simp [exsLen, evs_len h2]
      | exc c p => rw [h2] at h; cases h
      | bad => rw [h2] at h; cases h
    | exc c p => rw [h1] at h; cases h
    | bad => rw [h1] at h; cases h
theorem SEs.len {es : Exs} {as : List Expr} (h : SEs G X es as) : exsLen es = as.length := by
  induction h with
  | nil => rfl
  | cons h1 hp h2 ih => simp [exsLen, ih]
theorem SEs.plains {es : Exs} {as : List Expr} (h : SEs G X es as) : ∀ a ∈ as, plainE a = true := by
  induction h with
  | nil => simp
  | cons h1 hp h2 ih =>
    intro b hb
    rcases List.mem_cons.mp hb with rfl | hb
    · exact hp
    · exact ih b hb
theorem one_of {l : List D} (h : l.length = 1) : ∃ a, l = [a] := by
  match l, h with
  | [a], _ => exact ⟨a, rfl⟩
theorem two_of {l : List D} (h : l.length = 2) : ∃ a b, l = [a, b] := by
  match l, h with
  | [a, b], _ => exact ⟨a, b, rfl⟩
theorem three_of {l : List D} (h : l.length = 3) : ∃ a b c, l = [a, b, c] := by
  match l, h with
  | [a, b, c], _ => exact ⟨a, b, c, rfl⟩
theorem si_rng {sc : Scope} {tg : Expr} {x : Str} {es : Exs} {as : List Expr} {p pos : Pos} (h : bltB sc x "range" = true) (g : Good M G X) (hs : ScOk X sc) (hes : SEs G X es as) (hl : 1 ≤ as.length ∧ as.length ≤ 3) :
    PI X tg (.Call (.Name x p) as [] pos) (tI G (.rng es)) := by
  simp only [bltB, Bool.and_eq_true, beq_iff_eq] at h
  obtain ⟨h1, h2⟩ := h
  subst h1
  have gl := glB_of h2 hs
  have mm := g.bi "range" (by simp)
  have pl := hes.plains
  have ln := hes.len
  match as, hl with
  | [a], _ =>
    refine pi_imp (pi_range1 gl mm hes.pa (by rw [plain_star (pl a (by simp))]; rfl)) ?_
    intro σ H R ⟨γ, av, env, nw, q⟩
    simp only [evI] at q
    simp only [srcsI] at env
    refine tA.use env nw q.bind fun os hos vs H1 cs s1 nd n r => ?_
    obtain ⟨rs, e, -, p⟩ := hos.2.bind.of
    have rv := rOs.ers r nw n
    obtain ⟨d, ed⟩ := one_of (by rw [ers_length, evs_len hos.1, ln]; rfl : (Rp.ers os).length = 1)
    rw [ed] at rv e
    obtain ⟨v, rfl, r1⟩ := rv1 rv
    cases r1 <;> simp [rngD] at e
    rename_i j
    obtain ⟨⟨e1, e2⟩, rfl⟩ := e
    refine ⟨j, rfl, by omega, by omega, ?_⟩
    have w := walks_rng1 (H := H1) (av := fun a => (av a ∧ (true = true → H a = none)) ∧ H1 a ≠ none) (lo := 0) (n := j.toNat)
    simp only [Int.zero_add] at w
    exact Ans.imp (P' := fun _ => R _ H1) (show Ans G σ H1 (.ok ()) (fun _ => R _ H1) from p _ H1 s1 (by simpa using w)) (fun _ x => x)
  | [a, b], _ =>
    refine pi_imp (pi_range2 gl mm hes.pa (by rw [plain_star (pl a (by simp)), plain_star (pl b (by simp))]; rfl) (by rw [plain_star (pl b (by simp))]; rfl)) ?_
    intro σ H R ⟨γ, av, env, nw, q⟩
    simp only [evI] at q
    simp only [srcsI] at env
    refine tA.use env nw q.bind fun os hos vs H1 cs s1 nd n r => ?_
    obtain ⟨rs, e, -, p⟩ := hos.2.bind.of
    have rv := rOs.ers r nw n
    obtain ⟨d, d2, ed⟩ := two_of (by rw [ers_length, evs_len hos.1, ln]; rfl : (Rp.ers os).length = 2)
    rw [ed] at rv e
    obtain ⟨v, v2, rfl, r1, r2⟩ := rv2 rv
    cases r1 <;> cases r2 <;> simp [rngD] at e
    rename_i i j
    obtain ⟨⟨e1, e2, e3, e4⟩, rfl⟩ := e
    exact ⟨i, j, rfl, ⟨by omega, by omega, by omega, by omega⟩, p _ H1 s1 walks_rng1⟩
  | [a, b, c], _ =>
    refine pi_imp (pi_range3 gl mm hes.pa (plain_star (pl a (by simp)) _ _) (by rw [plain_star (pl b (by simp)), plain_star (pl c (by simp))]; rfl)) ?_
    intro σ H R ⟨γ, av, env, nw, q⟩
    simp only [evI] at q
    simp only [srcsI] at env
    refine tA.use env nw q.bind fun os hos vs H1 cs s1 nd n r => ?_
    obtain ⟨rs, e, -, p⟩ := hos.2.bind.of
    have rv := rOs.ers r nw n
    obtain ⟨d, d2, d3, ed⟩ := three_of (by rw [ers_length, evs_len hos.1, ln]; rfl : (Rp.ers os).length = 3)
    rw [ed] at rv e
    obtain ⟨v, v2, v3, rfl, r1, r2, r3⟩ := rv3 rv
    cases r1 <;> cases r2 <;> cases r3 <;> simp only [rngD] at e <;> first
      | (cases e; done)
      | skip
    rename_i i j c
    split at e
    · rename_i hz
      simp only [Bool.and_eq_true, decide_eq_true_eq] at hz
      cases e
      exact ⟨i, j, c, _, rfl, ⟨hz.1.1.1, hz.1.1.2, hz.1.2, by have := hz.2; omega⟩, p _ H1 s1 walks_rng⟩
    · cases e
theorem walks_zip {K : PySem.W.Frag} {H : Hp} {av : Addr → Prop} {a b : Addr} {xs ys : List V} {ds es : List D} (h1 : Rd H a (.lst xs)) (h2 : av a) (h3 : RvAll H av xs ds) (k1 : Rd H b (.lst ys)) (k2 : av b) (k3 : RvAll H av ys es) :
    Walks H (fun a => av a ∧ H a ≠ none) (Itz K a b) ((ds.zip es).map fun p => PyData.tuple [p.1, p.2]) where
  go := fun i d H' k e => by
    rw [List.getElem?_map] at e
    cases ez : (ds.zip es)[i]? with
    | none => rw [ez] at e; cases e
    | some pr =>
      rw [ez] at e
      cases e
      obtain ⟨e1, e2⟩ := List.getElem?_zip_eq_some.mp ez
      obtain ⟨x, ex, rx⟩ := h3.there.get e1
      obtain ⟨y, ey, ry⟩ := k3.there.get e2
      have sq := kept_sq (K := K) k h1 h2
      have sq2 := kept_sq (K := K) k k1 k2
      refine ⟨⟨xs, ys, x, y, sq, sq2, ex, ey⟩, fun v H'' ⟨T, x', y', ev, nT, eH, f1, f2⟩ => ?_⟩
      subst ev eH
      have g1 := f1 xs sq
      have g2 := f2 ys sq2
      rw [ex] at g1
      rw [ey] at g2
      cases g1
      cases g2
      have kk : Kept (fun a => av a ∧ H a ≠ none) H (upd H' T (.tup [x, y])) := k.trans (.of (same_new nT))
      exact ⟨same_new nT, .tup (.inl upd_same) (.cons (rx.kept kk fun _ z => z) (.cons (ry.kept kk fun _ z => z) .nil))⟩
  stop := fun H' k => by
    refine ⟨xs, ys, kept_sq k h1 h2, kept_sq k k1 k2, ?_⟩
    simp only [List.length_map, List.length_zip, h3.length, k3.length]
    omega
theorem walks_enum {K : PySem.W.Frag} {H : Hp} {av : Addr → Prop} {a : Addr} {xs : List V} {ds : List D} (h1 : Rd H a (.lst xs)) (h2 : av a) (h3 : RvAll H av xs ds) :
    Walks H (fun a => av a ∧ H a ≠ none) (Ite K a) (ds.zipIdx.map fun p => PyData.tuple [.int p.2, p.1]) where
  go := fun i d H' k e => by
    rw [List.getElem?_map, List.getElem?_zipIdx] at e
    cases ez : ds[i]? with
    | none => rw [ez] at e; cases e
    | some z =>
      rw [ez] at e
      simp only [Option.map_some, Option.some.injEq] at e
      subst e
      obtain ⟨x, ex, rx⟩ := h3.there.get ez
      have sq := kept_sq (K := K) k h1 h2
      refine ⟨⟨xs, x, sq, ex⟩, fun v H'' ⟨T, x', ev, nT, eH, f1⟩ => ?_⟩
      subst ev eH
      have g1 := f1 xs sq
      rw [ex] at g1
      cases g1
      have kk : Kept (fun a => av a ∧ H a ≠ none) H (upd H' T (.tup [.int (i : Nat), x])) := k.trans (.of (same_new nT))
      refine ⟨same_new nT, .tup (.inl upd_same) (.cons ?_ (.cons (rx.kept kk fun _ z => z) .nil))⟩
      simp only [Nat.zero_add]
      exact .int _
  stop := fun H' k => by
    refine ⟨xs, kept_sq k h1 h2, ?_⟩
    simp [h3.length]
theorem walks_rev {K : PySem.W.Frag} {H : Hp} {av : Addr → Prop} {a : Addr} {xs : List V} {ds : List D} (h1 : Rd H a (.lst xs)) (h2 : av a) (h3 : RvAll H av xs ds) : Walks H (fun a => av a ∧ H a ≠ none) (Itv K a xs.length) ds.reverse where
  go := fun i d H' k e => by
    have hi : i < ds.length := by
      have := (List.getElem?_eq_some_iff.mp e).1
      simpa using this
    rw [List.getElem?_reverse hi] at e
    obtain ⟨x, ex, rx⟩ := h3.there.get e
    have sq := kept_sq (K := K) k h1 h2
    rw [← h3.length] at ex
    refine ⟨⟨by rw [h3.length]; exact hi, xs, x, sq, ex⟩, fun y H'' ⟨e1, e2⟩ => ?_⟩
    subst e1
    have e3 := e2 xs sq
    rw [ex] at e3
    cases e3
    exact ⟨Same.refl _, rx.kept k fun _ z => z⟩
  stop := fun H' k => by
    show xs.length ≤ _
    simp [h3.length]
theorem si_zip {sc : Scope} {x : Str} {e e2 : Ex} {a a2 : Expr} {p pos tpos : Pos} {elts : List Expr} {kk : Nat} (h : bltB sc x "zip" = true) (g : Good M G X) (hs : ScOk X sc) (h1 : SE G X e a) (h2 : SE G X e2 a2) (p1 : plainE a = true) (p2 : plainE a2 = true) :
    PI X (.Tuple elts kk tpos) (.Call (.Name x p) [a, a2] [] pos) (tI G (.zip e e2)) := by
  simp only [bltB, Bool.and_eq_true, beq_iff_eq] at h
  obtain ⟨hx, hg⟩ := h
  subst hx
  have hes : SEs G X (.cons e (.cons e2 .nil)) [a, a2] := .cons h1 p1 (.cons h2 p2 .nil)
  refine pi_imp (pi_zip (glB_of hg hs) (g.bi _ (by simp)) hes.pa (plain_star p1 _ _) (by rw [plain_star p2]; rfl)) ?_
  intro σ H R ⟨γ, av, env, nw, q⟩
  simp only [evI] at q
  simp only [srcsI] at env
  have q2 : Ans G σ H (evs G.Φ G.gt γ (.cons e (.cons e2 .nil))) fun os => ∃ x y ds, os = [x, y] ∧ zipD (er x) (er y) = some ds ∧ ∀ J H', Same H H' → Walks H' (fun a => (av a ∧ (false = true → H a = none)) ∧ H' a ≠ none) J ds → R J H' := by
    simp only [evs]
    cases e1 : ev G.Φ G.gt γ e with
    | ok x =>
      rw [e1] at q
      cases e2' : ev G.Φ G.gt γ e2 with
      | ok y =>
        simp only [Res.bind_ok, e2'] at q ⊢
        obtain ⟨ds, ed, p⟩ := q.bind.of
        exact ⟨x, y, ds, rfl, ed, p.2⟩
      | exc c p => simp only [Res.bind_ok, e2', Res.bind_exc] at q ⊢; exact q
      | bad => simp only [Res.bind_ok, e2', Res.bind_bad] at q; exact q.elim
    | exc c p => rw [e1] at q; simp only [Res.bind_exc] at q ⊢; exact q
    | bad => rw [e1] at q; exact q.elim
  refine tA.use (by simp only [srcss]; exact env.sub fun i hi => by simpa using hi) nw q2 fun os ⟨x, y, ds, eo, ed, p⟩ vs H1 cs s1 nd n r => ?_
  subst eo
  have rv := rOs.ers r nw n
  simp only [Rp.ers] at rv
  obtain ⟨v, u, rfl, r1, r2⟩ := rv2 rv
  generalize er x = dx at r1 ed
  generalize er y = dy at r2 ed
  cases r1 <;> cases r2 <;> simp only [zipD] at ed <;> first
    | (cases ed; done)
    | skip
  cases ed
  rename_i a1 xs1 ds1 k1 k2 k3 b1 ys1 es1 l1 l2 l3
  exact ⟨_, _, _, _, rfl, .inl k1, .inl l1, p _ H1 s1 (walks_zip k1 k2 k3 l1 l2 l3).no⟩
theorem si_enum {sc : Scope} {x : Str} {e : Ex} {a : Expr} {p pos tpos : Pos} {elts : List Expr} {kk : Nat} (h : bltB sc x "enumerate" = true) (g : Good M G X) (hs : ScOk X sc) (h1 : SE G X e a) (p1 : plainE a = true) :
    PI X (.Tuple elts kk tpos) (.Call (.Name x p) [a] [] pos) (tI G (.enum e)) := by
  simp only [bltB, Bool.and_eq_true, beq_iff_eq] at h
  obtain ⟨hx, hg⟩ := h
  subst hx
  refine pi_imp (pi_enum (glB_of hg hs) (g.bi _ (by simp)) (pa_cons h1.pe pa_nil (plain_star p1 _ _)) (plain_star p1 _ _)) ?_
  intro σ H R ⟨γ, av, env, nw, q⟩
  simp only [evI] at q
  simp only [srcsI] at env
  refine tE.use env nw q.bind fun o ho v H1 c1 s1 nd1 n1 r1 => ?_
  obtain ⟨ds, e, -, p⟩ := ho.2.bind.of
  have rv := rO.er r1 nw n1
  generalize er o = d at rv e
  cases rv <;> simp only [enumD] at e <;> first
    | (cases e; done)
    | skip
  cases e
  rename_i k1 k2 k3
  exact ⟨_, _, rfl, .inl k1, p _ H1 s1 (walks_enum k1 k2 k3).no⟩
theorem si_rev {sc : Scope} {tg : Expr} {x : Str} {e : Ex} {a : Expr} {p pos : Pos} (h : bltB sc x "reversed" = true) (g : Good M G X) (hs : ScOk X sc) (h1 : SE G X e a) (p1 : plainE a = true) :
    PI X tg (.Call (.Name x p) [a] [] pos) (tI G (.rev e)) := by
  simp only [bltB, Bool.and_eq_true, beq_iff_eq] at h
  obtain ⟨hx, hg⟩ := h
  subst hx
  refine pi_imp (pi_reversed (glB_of hg hs) (g.bi _ (by simp)) (pa_cons h1.pe pa_nil (plain_star p1 _ _)) (plain_star p1 _ _)) ?_
  intro σ H R ⟨γ, av, env, nw, q⟩
  simp only [evI] at q
  simp only [srcsI] at env
  refine tE.use env nw q.bind fun o ho v H1 c1 s1 nd1 n1 r1 => ?_
  obtain ⟨ds, e, -, p⟩ := ho.2.bind.of
  have rv := rO.er r1 nw n1
  generalize er o = d at rv e
  cases rv <;> simp only [revD] at e <;> first
    | (cases e; done)
    | skip
  cases e
  rename_i k1 k2 k3
  exact ⟨_, _, rfl, .inl k1, p _ H1 s1 (walks_rev k1 k2 k3).no⟩
end
end Rp

set_option Elab.async false
set_option linter.all false
set_option maxRecDepth 100000
set_option maxHeartbeats 4000000
/-! RpExpr5: targets, comprehensions, and the theorem over all expressions. -/
namespace Rp
open PySem PySem.Spec PyProof.Rows L2

/-! ### slots -/
theorem getS_eq {α : Type} : ∀ (l : List (Option α)) (i : Nat), getS l i = (l[i]?).bind id
  | [], _ => by simp [getS]
  | x :: _, 0 => by simp [getS]
  | x :: l, i + 1 => by simp [getS, getS_eq l i]
theorem setS_eq {α : Type} : ∀ (l : List (Option α)) (i : Nat) (o : Option α), setS l i o = l.set i o
  | [], _, _ => rfl
  | x :: _, 0, _ => rfl
  | x :: l, i + 1, o => by simp [setS, setS_eq l i o]
theorem setS_len {α : Type} (l : List (Option α)) (i : Nat) (o : Option α) : (setS l i o).length = l.length := by rw [setS_eq]; simp
theorem getS_set {α : Type} (l : List (Option α)) (i j : Nat) (o : Option α) : getS (setS l i o) j = if i = j then (if i < l.length then o else none) else getS l j := by
  rw [getS_eq, getS_eq, setS_eq, List.getElem?_set]
  split
  · split <;> simp
  · rfl
theorem wipeS_len {α : Type} : ∀ (is : List Nat) (l : List (Option α)), (wipeS l is).length = l.length
  | [], _ => rfl
  | i :: is, l => by simp [wipeS, wipeS_len is, setS_len]
theorem getS_wipe {α : Type} : ∀ (is : List Nat) (l : List (Option α)) (j : Nat), getS (wipeS l is) j = if j ∈ is then none else getS l j
  | [], l, j => by simp [wipeS]
  | i :: is, l, j => by
    rw [wipeS, getS_wipe is, getS_set]
    by_cases h : j ∈ is
    · simp [h]
    · by_cases e : i = j
      · subst e; simp
      · simp [h, e, Ne.symm e]
theorem wipe_get (σ : L2.St) (j : Nat) : ∀ (is : List Nat), j ∉ is → (wipe σ is)[j]? = σ[j]?
  | [], _ => rfl
  | i :: is, h => by
    unfold wipe
    simp only [List.mem_cons, not_or] at h
    rw [List.getElem?_set, if_neg (Ne.symm h.1), wipe_get σ j is h.2]
theorem wipe_at (σ : L2.St) (j : Nat) : ∀ (is : List Nat), j ∈ is → (wipe σ is)[j]? = if j < σ.length then some none else none
  | [], h => by cases h
  | i :: is, h => by
    unfold wipe
    rw [List.getElem?_set]
    by_cases e : i = j
    · subst e
      rw [if_pos rfl, wipe_length]
    · rw [if_neg e]
      exact wipe_at σ j is (by rcases List.mem_cons.mp h with z | z; exact absurd z.symm e; exact z)
theorem wipe_ext {σ τ : L2.St} {is : List Nat} (hl : σ.length = τ.length) (h : ∀ j, j ∉ is → σ[j]? = τ[j]?) : wipe σ is = wipe τ is := by
  apply List.ext_getElem?
  intro j
  by_cases hj : j ∈ is
  · rw [wipe_at σ j is hj, wipe_at τ j is hj, hl]
  · rw [wipe_get σ j is hj, wipe_get τ j is hj, h j hj]

/-! ### targets -/
def gNs : List Nat → TGs
  | [] => gNil
  | i :: is => gCons (gName i) (gNs is)
def gT (K : PySem.W.Frag) : List Nat → TG
  | [i] => gName i
  | is => gTup K is.length (gNs is)
structure Bnd (H : Hp) (av : Addr → Prop) (tg : List Nat) (γ : Env0) (σ : L2.St) (γ' : Env0) (σ' : L2.St) : Prop where
  l1 : σ'.length = σ.length
  l2 : γ'.length = γ.length
  out : ∀ i, i ∉ tg → σ'[i]? = σ[i]? ∧ getS γ' i = getS γ i
  ins : ∀ i, i ∈ tg → ∀ d, getS γ' i = some d → ∃ v, σ'[i]? = some (some v) ∧ Rv H av v d
theorem Bnd.one {H : Hp} {av : Addr → Prop} {γ : Env0} {σ : L2.St} {i : Nat} {v : V} {d : D} (hl : γ.length ≤ σ.length) (r : Rv H av v d) : Bnd H av [i] γ σ (setS γ i (some d)) (σ.set i (some v)) where
  l1 := by simp
  l2 := setS_len _ _ _
  out := fun j hj => by
    have e : i ≠ j := fun z => hj (by simp [z])
    rw [List.getElem?_set, if_neg e, getS_set, if_neg e]
    exact ⟨rfl, rfl⟩
  ins := fun j hj d' e => by
    obtain rfl := List.mem_singleton.mp hj
    rw [getS_set, if_pos rfl] at e
    split at e
    · rename_i hlt
      cases e
      exact ⟨v, by rw [List.getElem?_set, if_pos rfl, if_pos (Nat.lt_of_lt_of_le hlt hl)], r⟩
    · cases e
theorem Bnd.comp {H : Hp} {av : Addr → Prop} {i : Nat} {is : List Nat} {γ γ1 γ2 : Env0} {σ σ1 σ2 : L2.St} (a : Bnd H av [i] γ σ γ1 σ1) (b : Bnd H av is γ1 σ1 γ2 σ2) : Bnd H av (i :: is) γ σ γ2 σ2 where
  l1 := b.l1.trans a.l1
  l2 := b.l2.trans a.l2
  out := fun j hj => by
    simp only [List.mem_cons, not_or] at hj
    obtain ⟨h1, h2⟩ := b.out j hj.2
    obtain ⟨h3, h4⟩ := a.out j (by simpa using hj.1)
    exact ⟨h1.trans h3, h2.trans h4⟩
  ins := fun j hj d e => by
    by_cases hm : j ∈ is
    · exact b.ins j hm d e
    · obtain ⟨h1, h2⟩ := b.out j hm
      rw [h2] at e
      have hj1 : j ∈ [i] := by
        rcases List.mem_cons.mp hj with z | z
        · simp [z]
        · exact absurd z hm
      obtain ⟨v, e1, r⟩ := a.ins j hj1 d e
      exact ⟨v, by rw [h1]; exact e1, r⟩
theorem gNs_ok {H : Hp} {av : Addr → Prop} : ∀ {is : List Nat} {ds : List D} {vs : List V} {γ : Env0} {σ : L2.St} {Q : L2.St → Hp → Prop}, is.length = ds.length → RvAll H av vs ds → γ.length ≤ σ.length →
    (∀ σ', Bnd H av is γ σ ((is.zip ds).foldl (fun g p => setS g p.1 (some p.2)) γ) σ' → Q σ' H) → gNs is vs σ H Q
  | [], [], _, γ, σ, Q, _, r, hl, q => by
    cases r
    exact ⟨rfl, q σ ⟨rfl, rfl, fun _ _ => ⟨rfl, rfl⟩, fun _ h => by cases h⟩⟩
  | i :: is, d :: ds, _, γ, σ, Q, hn, r, hl, q => by
    cases r with
    | cons r1 r2 =>
      refine ⟨_, _, rfl, ?_⟩
      have b1 := Bnd.one (i := i) hl r1
      refine gNs_ok (by simpa using hn) r2 (by rw [b1.l1, b1.l2]; exact hl) fun σ' b2 => ?_
      exact q σ' (b1.comp b2)
theorem gT_ok {K : PySem.W.Frag} {H : Hp} {av : Addr → Prop} {tg : List Nat} {v : V} {d : D} {γ γ' : Env0} {σ : L2.St} {Q : L2.St → Hp → Prop} (hb : bindD γ tg d = some γ') (r : Rv H av v d) (hl : γ.length ≤ σ.length)
    (q : ∀ σ', Bnd H av tg γ σ γ' σ' → Q σ' H) : gT K tg v σ H Q := by
  match tg, hb with
  | [i], hb =>
    simp only [bindD, Option.some.injEq] at hb
    subst hb
    exact q _ (Bnd.one hl r)
  | [], hb =>
    cases r <;> simp only [bindD] at hb <;> first
      | (cases hb; done)
      | skip
    split at hb
    · rename_i hz
      cases hb
      rename_i h1 h2
      exact ⟨_, _, rfl, .inl h1, by rw [h2.length]; exact hz.symm, gNs_ok hz h2 hl q⟩
    · cases hb
  | i :: j :: is, hb =>
    cases r <;> simp only [bindD] at hb <;> first
      | (cases hb; done)
      | skip
    split at hb
    · rename_i hz
      cases hb
      rename_i h1 h2
      exact ⟨_, _, rfl, .inl h1, by rw [h2.length]; exact hz.symm, gNs_ok hz h2 hl q⟩
    · cases hb
def tgB (M : MC) (sc : Scope) (i : Nat) (x : Str) : Bool := (M.N[i]? == some x) && locB sc x
def matchTs (M : MC) (sc : Scope) : List Nat → List Expr → Bool
  | [], [] => true
  | i :: is, .Name x _ :: es => tgB M sc i x && matchTs M sc is es
  | _, _ => false
def matchT (M : MC) (sc : Scope) : List Nat → Expr → Bool
  | [i], .Name x _ => tgB M sc i x
  | i :: j :: is, .Tuple es _ _ => matchTs M sc (i :: j :: is) es
  | _, _ => false
section
variable {M : MC} {G : Cfg} {X : Cx}
theorem pg_nm {sc : Scope} {i : Nat} {x : Str} {pos : Pos} (h : tgB M sc i x = true) (g : Good M G X) (hs : ScOk X sc) : PG X (.Name x pos) (gName i) := by
  simp only [tgB, Bool.and_eq_true, beq_iff_eq] at h
  obtain ⟨h1, h2⟩ := hs.loc x h.2
  exact pg_name g.nd (by rw [g.hN]; exact h.1) h1 h2
theorem pgs_nms {sc : Scope} (g : Good M G X) (hs : ScOk X sc) : ∀ {is : List Nat} {es : List Expr}, matchTs M sc is es = true → PGs X es (gNs is) ∧ (assignEach es X.env).length = is.length ∧ (assignEach es X.env).findIdx? (·.1) = none
  | [], es, h => by
    cases es with
    | nil => exact ⟨pgs_nil, rfl, rfl⟩
    | cons e es => cases e <;> simp [matchTs] at h
  | i :: is, es, h => by
    cases es with
    | nil => simp [matchTs] at h
    | cons e es =>
      cases e <;> simp only [matchTs, Bool.false_eq_true, Bool.and_eq_true] at h
      obtain ⟨h1, h2⟩ := h
      obtain ⟨q1, q2, q3⟩ := pgs_nms g hs h2
      refine ⟨pgs_cons (pg_nm h1 g hs) q1 rfl, ?_, ?_⟩
      · show (_ :: assignEach es X.env).length = _
        simp [q2]
      · show ((false, _) :: assignEach es X.env).findIdx? (·.1) = none
        rw [List.findIdx?_cons]
        simp only [Bool.false_eq_true, if_false]
        rw [q3]; rfl
theorem pg_t {sc : Scope} {tg : List Nat} {e : Expr} (h : matchT M sc tg e = true) (g : Good M G X) (hs : ScOk X sc) : PG X e (gT X.K tg) := by
  match tg, e with
  | [i], .Name x _ => exact pg_nm (by simpa [matchT] using h) g hs
  | i :: j :: is, .Tuple es _ _ =>
    simp only [matchT] at h
    obtain ⟨q1, q2, q3⟩ := pgs_nms g hs h
    exact pg_tup g.calm q1 q2 q3

/-! ### comprehensions -/
theorem relabel_any {env : PySem.Env} (f : Str → NameKind → NameKind) : ∀ {names : List (Str × NameKind)} {x : Str} {k : NameKind}, names.lookup x = some k → (names.map fun p => (p.1, f p.1 p.2)).lookup x = some (f x k)
  | [], x, k, h => by simp at h
  | (n, k0) :: r, x, k, h => by
    simp only [List.map_cons, List.lookup_cons] at h ⊢
    cases hx : x == n with
    | true =>
      rw [hx] at h
      have e := eq_of_beq hx
      subst e
      cases h
      rfl
    | false =>
      rw [hx] at h
      exact relabel_any (env := env) f h
theorem relabel_look {sc : Scope} {env : PySem.Env} {x : Str} {k : NameKind} (h : sc.names.lookup x = some k) : (relabel sc env).names.lookup x = some (if (k == NameKind.free && env.scope.kind == .function && env.kindOf x == some .cell) then .cell else k) := by
  have e : (relabel sc env).names = sc.names.map fun p => (p.1, (fun (n : Str) (k : NameKind) => if (k == NameKind.free && env.scope.kind == .function && env.kindOf n == some .cell) then NameKind.cell else k) p.1 p.2) := by
    unfold relabel
    simp only
    congr 1
    funext p
    obtain ⟨n, k⟩ := p
    simp only
    split <;> rfl
  rw [e]
  exact relabel_any (env := env) (fun (n : Str) (k : NameKind) => if (k == NameKind.free && env.scope.kind == .function && env.kindOf n == some .cell) then NameKind.cell else k) h
theorem relabel_other {sc : Scope} {env : PySem.Env} {x : Str} {k : NameKind} {cl : List (Str × Addr)} {C : Addr} (h : sc.names.lookup x = some k) (hk : k ≠ .free) : (compEnvC sc cl C env).scope.names.lookup x = some k := by
  show (relabel sc env).names.lookup x = some k
  rw [relabel_look h]
  have : (k == NameKind.free) = false := by cases k <;> first | rfl | exact absurd rfl hk
  rw [this]; rfl
theorem relabel_free {sc : Scope} {env : PySem.Env} {x : Str} {cl : List (Str × Addr)} {C : Addr} (h : sc.names.lookup x = some .free) : (compEnvC sc cl C env).scope.names.lookup x = some .cell ∨ (compEnvC sc cl C env).scope.names.lookup x = some .free := by
  show (relabel sc env).names.lookup x = _ ∨ (relabel sc env).names.lookup x = _
  rw [relabel_look h]
  split
  · exact .inl rfl
  · exact .inr rfl
abbrev Cfg.quiet (G : Cfg) : Cfg := { G with W := fun _ _ _ _ => False }
theorem Good.blk (g : Good M G X) (s : Shared) (H : Hp) (sc : Scope) (C : Addr) (cl : List (Str × Addr)) (fp : List Addr) : Good M G.quiet (X.blk s H sc (compEnvC sc cl C X.env) fp) where
  calm := g.calm
  nd := g.nd
  hN := g.hN
  units := g.units
  fn := g.fn
  gl := g.gl
  bi := g.bi
  tk := takes0
theorem ScOk.blk {sc sc' : Scope} (hs : ScOk X sc) {own : List (Str × Nat)} (ok : BlkOk X.N X.env.scope sc' own) (s : Shared) (H : Hp) (C : Addr) (cl : List (Str × Addr)) (fp : List Addr) : ScOk (X.blk s H sc' (compEnvC sc' cl C X.env) fp) sc' := by
  have look : ∀ x k, sc'.names.lookup x = some k → k ≠ .free → (compEnvC sc' cl C X.env).scope.names.lookup x = some k := fun x k h hk => relabel_other h hk
  have free : ∀ x, sc'.names.lookup x = some .free → (compEnvC sc' cl C X.env).scope.names.lookup x = some .cell ∨ (compEnvC sc' cl C X.env).scope.names.lookup x = some .free := fun x h => relabel_free h
  refine ⟨fun x h => ?_, fun x h => look x _ (glB_iff.mp h) (by decide), fun x h => ?_, fun x h => ?_⟩
  · rcases visB_iff.mp h with h | h | h
    · exact .inl (look x _ h (by decide))
    · exact .inr (.inl (look x _ h (by decide)))
    · rcases free x h with h | h
      · exact .inr (.inl h)
      · exact .inr (.inr h)
  · rcases locB_iff.mp h with h | h
    · exact ⟨.inl (look x _ h (by decide)), .inr (look x _ h (by decide))⟩
    · exact ⟨.inr (look x _ h (by decide)), .inl (by show (sc'.names.lookup x == some .cell) = true; rw [h]; rfl)⟩
  · rcases h with h | h
    · exact .inl (look x _ h (by decide))
    · exact free x h
def tTs (G : Cfg) : Exs → TT
  | .nil => tYes
  | .cons c _ => tTest (tE G c)
theorem compL_ok {α β : Type} {f : α → Res (Option β)} : ∀ {xs : List α} {P : Res (List β) → Prop}, (compL f xs = .bad ∨ ∃ rs, compL f xs = .ok rs)
  | [], _ => .inr ⟨[], rfl⟩
  | x :: xs, P => by
    simp only [compL]
    split
    · rcases compL_ok (f := f) (xs := xs) (P := P) with h | ⟨rs, h⟩
      · rw [h]; exact .inl rfl
      · rw [h]; exact .inr ⟨_, rfl⟩
    · exact compL_ok (f := f) (xs := xs) (P := P)
    · exact .inl rfl
theorem compL_snoc {α β : Type} {f : α → Res (Option β)} {x : α} : ∀ {xs : List α} {os : List β}, compL f xs = .ok os → compL f (xs ++ [x]) = (match f x with | .ok (some y) => .ok (os ++ [y]) | .ok none => .ok os | _ => .bad)
  | [], os, h => by
    simp only [compL] at h
    cases h
    simp only [List.nil_append, compL]
    cases f x with
    | ok r => cases r <;> rfl
    | exc c p => rfl
    | bad => rfl
  | z :: xs, os, h => by
    simp only [compL, List.cons_append] at h ⊢
    cases e : f z with
    | ok r =>
      rw [e] at h
      cases r with
      | none => simp only at h ⊢; exact compL_snoc h
      | some y =>
        simp only at h ⊢
        cases e2 : compL f xs with
        | ok o2 =>
          rw [e2, Res.bind_ok] at h
          cases h
          rw [compL_snoc e2]
          cases f x with
          | ok r => cases r <;> rfl
          | exc c p => rfl
          | bad => rfl
        | exc c p => rw [e2] at h; cases h
        | bad => rw [e2] at h; cases h
    | exc c p => rw [e] at h; cases h
    | bad => rw [e] at h; cases h
theorem compL_pre {α β : Type} {f : α → Res (Option β)} {x : α} : ∀ {xs : List α} {os : List β}, compL f (xs ++ [x]) = .ok os → ∃ o1, compL f xs = .ok o1 := by
  intro xs os h
  rcases compL_ok (f := f) (xs := xs) (P := fun _ => True) with e | ⟨o1, e⟩
  · exfalso
    have : ∀ (l : List α), compL f l = .bad → compL f (l ++ [x]) = .bad := by
      intro l
      induction l with
      | nil => intro h; cases h
      | cons z l ih =>
        intro h
        simp only [compL, List.cons_append] at h ⊢
        cases e : f z with
        | ok r =>
          rw [e] at h
          cases r with
          | none => exact ih h
          | some y =>
            simp only at h ⊢
            rcases compL_ok (f := f) (xs := l) (P := fun _ => True) with q | ⟨rs, q⟩
            · rw [ih q]; rfl
            · rw [q] at h; cases h
        | exc c p => rfl
        | bad => rfl
    rw [this xs e] at h
    cases h
  · exact ⟨o1, e⟩
theorem compL_take {α β : Type} {f : α → Res (Option β)} {xs : List α} {os : List β} (h : compL f xs = .ok os) : ∀ n, ∃ o1, compL f (xs.take n) = .ok o1 := by
  have : ∀ k (l : List α) (os : List β), l.length = k → compL f l = .ok os → ∀ n, ∃ o1, compL f (l.take n) = .ok o1 := by
    intro k
    induction k with
    | zero =>
      intro l os hl h n
      obtain rfl := List.length_eq_zero_iff.mp hl
      exact ⟨[], by simp [compL]⟩
    | succ k ih =>
      intro l os hl h n
      by_cases hn : l.length ≤ n
      · rw [List.take_of_length_le hn]; exact ⟨os, h⟩
      · have ne : l ≠ [] := fun z => by rw [z] at hl; cases hl
        have e := List.dropLast_concat_getLast ne
        rw [← e] at h
        obtain ⟨o1, h1⟩ := compL_pre h
        have := ih l.dropLast o1 (by simp [hl]) h1 n
        rw [List.dropLast_eq_take, List.take_take] at this
        rwa [Nat.min_eq_left (by omega)] at this
  exact this _ xs os rfl h
theorem getElem_take_succ {α : Type} {xs : List α} {i : Nat} {x : α} (h : xs[i]? = some x) : xs.take (i + 1) = xs.take i ++ [x] := by
  rw [List.take_add_one, h]; rfl
theorem ers_app (a b : List O) : ers (a ++ b) = ers a ++ ers b := by simp [ers_map]
/-- one more at the end -/
theorem rOs.snoc {H : Hp} {av : Addr → Prop} : ∀ {os : List O} {vs : List V} {cs : List Addr} {o : O} {v : V} {c : List Addr}, rOs H av os vs cs → rO H av o v c → rOs H av (os ++ [o]) (vs ++ [v]) (cs ++ c)
  | [], vs, cs, o, v, c, h, r => by
    simp only [rOs] at h
    obtain ⟨rfl, rfl⟩ := h
    simp only [List.nil_append, rOs]
    exact ⟨v, [], c, [], rfl, by simp, r, rfl, rfl⟩
  | o1 :: os, vs, cs, o, v, c, h, r => by
    simp only [rOs] at h
    obtain ⟨v1, vs', c1, c2, rfl, rfl, h1, h2⟩ := h
    simp only [List.cons_append, rOs]
    exact ⟨v1, vs' ++ [v], c1, c2 ++ c, rfl, by simp, h1, rOs.snoc h2 r⟩
theorem comp_red {K : PySem.W.Frag} {elt : Ex} {tg : List Nat} {it : Itx} {cond : Exs} {own : List Nat} (sub : ∀ i ∈ tg, i ∈ own) (hc : cond = .nil ∨ ∃ c, cond = .cons c .nil) :
    ∀ σ H Q, tE G (.comp elt tg it cond own) σ H Q → tLc (tI G it) (gT K tg) (tTs G.quiet cond) (tE G.quiet elt) own σ H Q := by
  intro σ H Q ⟨γ, av, env, nw, q⟩
  simp only [ev] at q
  simp only [srcs] at env
  refine ⟨γ, av, env.left, nw, q.bind.imp fun pr hds J H1 s1 wk => ?_⟩
  have q := hds.2
  have wk := wk.weak (av' := fun a => av a ∧ H1 a ≠ none) fun a x => ⟨x.1.1, x.2⟩
  obtain ⟨ds, fr⟩ := pr
  generalize hf : (fun d => (Res.of (bindD (wipeS γ own) tg d)).bind fun γ' => (evAnd G.Φ G.gt γ' cond).bind fun b => if b then (ev G.Φ G.gt γ' elt).bind fun o => .ok (some o) else .ok none) = f at q
  rcases compL_ok (f := f) (xs := ds) (P := fun _ => True) with hb | ⟨os, hos⟩
  · rw [hb] at q; exact q.elim
  rw [hos, Res.bind_ok] at q
  have hsz : os.length < sizeLine := by
    split at q
    · assumption
    · exact q.elim
  rw [if_pos hsz] at q
  have q : Post H av (.lst os) Q := q
  intro Dl nD
  have envW : EnvR H1 (fun a => av a ∧ H1 a ≠ none) (wipeS γ own) (wipe σ own) (srcs elt ++ srcss cond) := by
    refine ⟨by rw [wipeS_len, wipe_length]; exact env.len, fun i hi d e => ?_⟩
    rw [getS_wipe] at e
    split at e
    · cases e
    · rename_i hn
      obtain ⟨v, e1, r⟩ := env.at_ i (List.mem_append_right _ hi) d e
      exact ⟨v, by rw [wipe_get σ i own hn]; exact e1, (r.same s1).there⟩
  -- the state behind i turns
  let Inv : Nat → Hp → Prop := fun i H' => ∃ (o1 : List O) (vs : List V) (cs : List Addr), compL f (ds.take i) = .ok o1 ∧ Same H1 H' ∧ H' Dl = some (.lst vs) ∧ (Dl :: cs).Nodup ∧ (∀ a ∈ cs, H1 a = none) ∧ rOs H' (fun a => av a ∧ a ∉ Dl :: cs) o1 vs cs
  refine ⟨fun i m H' => m = ds.length - i ∧ i ≤ ds.length ∧ Inv i H', ⟨ds.length, by simp, Nat.zero_le _, [], [], [], by simp [compL], same_new nD, upd_same, by simp, by simp, by simp only [rOs]; exact ⟨trivial, trivial⟩⟩, ?_⟩
  rintro i m H' ⟨rfl, hi, o1, vs, cs, ho1, s', hD, nd, nc, r⟩
  have kp : Kept (fun a => av a ∧ H1 a ≠ none) H1 H' := .of s'
  by_cases hlt : i < ds.length
  · obtain ⟨d, ed⟩ : ∃ d, ds[i]? = some d := ⟨ds[i], List.getElem?_eq_getElem hlt⟩
    obtain ⟨hgo, hy⟩ := wk.go i d H' kp ed
    refine .inr ⟨hgo, Inv (i + 1), fun H2 h2 => ⟨ds.length - (i + 1), by omega, rfl, hlt, h2⟩, fun x H2 hyl => ?_⟩
    obtain ⟨s2, rx⟩ := hy x H2 hyl
    -- the turn's answer
    obtain ⟨o2, ho2⟩ := compL_take hos (i + 1)
    have ht := getElem_take_succ ed
    rw [ht, compL_snoc ho1] at ho2
    have hlen2 : o2.length ≤ os.length → True := fun _ => trivial
    have fd : f d = (Res.of (bindD (wipeS γ own) tg d)).bind fun γ' => (evAnd G.Φ G.gt γ' cond).bind fun b => if b then (ev G.Φ G.gt γ' elt).bind fun o => .ok (some o) else .ok none := by rw [← hf]
    cases eb : bindD (wipeS γ own) tg d with
    | none => rw [fd, eb] at ho2; cases ho2
    | some γ' =>
      rw [fd, eb, Res.of_some, Res.bind_ok] at ho2
      -- the cells that are in the making stand apart
      have rx2 : Rv H2 (fun a => (av a ∧ H1 a ≠ none)) x d := rx
      have key : ∀ a, (av a ∧ H1 a ≠ none) → av a ∧ a ∉ Dl :: cs := fun a h => ⟨h.1, fun z => by
        rcases List.mem_cons.mp z with rfl | z
        · exact h.2 nD
        · exact h.2 (nc a z)⟩
      refine gT_ok (av := fun a => av a ∧ a ∉ Dl :: cs) eb (rx2.weak key) (by rw [wipeS_len, wipe_length]; exact env.len) fun σ2 b => ?_
      refine ⟨(wipe_ext (by rw [b.l1, wipe_length]) fun j hj => ?_), ?_⟩
      · rw [(b.out j fun z => hj (sub j z)).1, wipe_get σ j own hj]
      have env2 : EnvR H2 (fun a => av a ∧ a ∉ Dl :: cs) γ' σ2 (srcs elt ++ srcss cond) := by
        refine ⟨by rw [b.l1, b.l2, wipeS_len, wipe_length]; exact env.len, fun j hj d' e => ?_⟩
        by_cases hm : j ∈ tg
        · exact b.ins j hm d' e
        · obtain ⟨e1, e2⟩ := b.out j hm
          rw [e2] at e
          obtain ⟨v, e3, r3⟩ := envW.at_ j hj d' e
          exact ⟨v, by rw [e1]; exact e3, (r3.weak key).same (s'.trans s2)⟩
      have nw2 : New H2 (fun a => av a ∧ a ∉ Dl :: cs) := fun a e => by
        have e' := s2.free e
        refine ⟨nw a (s1.free (s'.free e')), fun z => ?_⟩
        rcases List.mem_cons.mp z with rfl | z
        · rw [hD] at e'; cases e'
        · exact r.there.2 a z e'
      -- behind the element
      have fin : ∀ H3 o, Same H2 H3 → compL f (ds.take (i + 1)) = .ok (o1 ++ [o]) → Post H3 (fun a => av a ∧ a ∉ Dl :: cs) o fun y H4 => ∃ acc, H4 Dl = some (.lst acc) ∧ acc.length < sizeLine ∧ Inv (i + 1) (upd H4 Dl (.lst (acc ++ [y]))) := by
        intro H3 o s3 ho y H4 c4 s4 nd4 n4 r4
        have s5 : Same H' H4 := s2.trans (s3.trans s4)
        have hD4 : H4 Dl = some (.lst vs) := s5 _ _ hD
        have hvl := r.length
        have hlen : (o1 ++ [o]).length ≤ os.length := by
          have : ∀ (l : List D) (n : Nat) (a b : List O), compL f l = .ok a → compL f (l.take n) = .ok b → b.length ≤ a.length := by
            intro l
            induction l with
            | nil => intro n a b ha hb; simp [compL] at ha hb; subst ha hb; simp
            | cons z l ih =>
              intro n a b ha hb
              cases n with
              | zero => simp [compL] at hb; subst hb; simp
              | succ n =>
                simp only [List.take_succ_cons, compL] at ha hb
                cases e : f z with
                | ok rr =>
                  rw [e] at ha hb
                  cases rr with
                  | none => exact ih n a b ha hb
                  | some w =>
                    simp only at ha hb
                    cases e1 : compL f l with
                    | ok a1 =>
                      rw [e1, Res.bind_ok] at ha
                      cases ha
                      cases e2 : compL f (l.take n) with
                      | ok b1 =>
                        rw [e2, Res.bind_ok] at hb
                        cases hb
                        have := ih n a1 b1 e1 e2
                        simp; omega
                      | exc c p => rw [e2] at hb; cases hb
                      | bad => rw [e2] at hb; cases hb
                    | exc c p => rw [e1] at ha; cases ha
                    | bad => rw [e1] at ha; cases ha
                | exc c p => rw [e] at ha; cases ha
                | bad => rw [e] at ha; cases ha
          exact this ds (i + 1) os _ hos ho
        refine ⟨vs, hD4, by rw [hvl]; simp at hlen; omega, o1 ++ [o], vs ++ [y], cs ++ c4, ho, fun b u e => ?_, upd_same, ?_, fun a ha => ?_, ?_⟩
        · rw [upd_ne (ne_of_none e nD)]
          exact s5 _ _ (s' _ _ e)
        · have t := r.there
          have hnc : ∀ a ∈ c4, H' a = none := fun a ha => s2.free (s3.free (n4 a ha))
          refine List.nodup_cons.mpr ⟨fun z => ?_, List.nodup_append.mpr ⟨(List.nodup_cons.mp nd).2, nd4, fun a ha b hb e => ?_⟩⟩
          · rcases List.mem_append.mp z with z | z
            · exact (List.nodup_cons.mp nd).1 z
            · rw [hnc Dl z] at hD; cases hD
          · subst e
            exact t.2 a ha (hnc a hb)
        · rcases List.mem_append.mp ha with z | z
          · exact nc a z
          · exact s'.free (s2.free (s3.free (n4 a z)))
        · have hnc : ∀ a ∈ c4, H' a = none := fun a ha => s2.free (s3.free (n4 a ha))
          have up : Kept (fun a => av a ∧ a ∉ Dl :: (cs ++ c4)) H4 (upd H4 Dl (.lst (vs ++ [y]))) := by
            refine ⟨fun a u e h => ?_, fun a u e h1 h2 => ?_⟩
            · rw [upd_ne (fun z => h.2 (by simp [z]))]; exact e
            · rw [upd_ne (fun z => by subst z; rw [hD4] at e; cases e; exact h1 _ rfl)]; exact e
          have r0 : rOs H4 (fun a => av a ∧ a ∉ Dl :: (cs ++ c4)) o1 vs cs := (r.there.1.same s5).weak fun a h => ⟨h.1.1, fun z => by
            rcases List.mem_cons.mp z with z | z
            · exact h.1.2 (by simp [z])
            · rcases List.mem_append.mp z with z | z
              · exact h.1.2 (by simp [z])
              · exact h.2 (hnc a z)⟩
          have r5 : rO H4 (fun a => av a ∧ a ∉ Dl :: (cs ++ c4)) o y c4 := r4.weak fun a h => ⟨h.1.1, fun z => by
            rcases List.mem_cons.mp z with z | z
            · exact h.1.2 (by simp [z])
            · rcases List.mem_append.mp z with z | z
              · exact h.1.2 (by simp [z])
              · exact h.2 z⟩
          refine (r0.snoc r5).kept up (fun a h => h) fun a ha u e => ?_
          rw [upd_ne (fun z => ?_)]
          · exact e
          · subst z
            rcases List.mem_append.mp ha with z | z
            · exact (List.nodup_cons.mp nd).1 z
            · rw [hnc _ z] at hD; cases hD
      have skip : ∀ H3, Same H2 H3 → compL f (ds.take (i + 1)) = .ok o1 → Inv (i + 1) H3 := fun H3 s3 ho =>
        ⟨o1, vs, cs, ho, s'.trans (s2.trans s3), (s2.trans s3) _ _ hD, nd, nc, r.same (s2.trans s3)⟩
      rcases hc with rfl | ⟨c, rfl⟩
      · -- no test
        simp only [evAnd, Res.bind_ok, if_true] at ho2
        simp only [tTs, tYes, if_true]
        cases ee : ev G.Φ G.gt γ' elt with
        | ok o =>
          rw [ee] at ho2
          simp only [Res.bind_ok] at ho2
          refine tE.use (P := fun o' => o' = o) env2.left nw2 (by rw [ee]; rfl) fun o' eo => ?_
          subst eo
          exact fin H2 o' (Same.refl _) (by rw [ht, compL_snoc ho1, fd, eb, Res.of_some, Res.bind_ok]; simp only [evAnd, Res.bind_ok, if_true, ee])
        | exc c p => rw [ee] at ho2; cases ho2
        | bad => rw [ee] at ho2; cases ho2
      · simp only [evAnd] at ho2
        show tTest (tE G.quiet c) σ2 H2 _
        cases ec : ev G.Φ G.gt γ' c with
        | ok oc =>
          rw [ec] at ho2
          simp only [Res.bind_ok] at ho2
          cases edc : er oc with
          | bool b0 =>
            rw [edc] at ho2
            simp only [isB, Res.bind_ok] at ho2
            have env3 : EnvR H2 (fun a => av a ∧ a ∉ Dl :: cs) γ' σ2 (srcs c) := env2.right.sub fun j hj => by simp only [srcss]; exact List.mem_append_left _ hj
            refine tE.use (P := fun o' => o' = oc) env3 nw2 (by rw [ec]; rfl) fun o' eo v3 H3 c3 s3 nd3 n3 r3 => ?_
            subst eo
            have rv := rO.er r3 nw2 n3
            rw [edc] at rv
            cases rv
            refine ⟨b0, rfl, ?_⟩
            cases b0 with
            | true =>
              simp only [if_true, Res.bind_ok] at ho2 ⊢
              cases ee : ev G.Φ G.gt γ' elt with
              | ok o =>
                rw [ee] at ho2
                simp only [Res.bind_ok] at ho2
                refine tE.use (P := fun o' => o' = o) (env2.left.same s3) (nw2.same s3) (by rw [ee]; rfl) fun o' eo => ?_
                subst eo
                exact fin H3 o' s3 (by rw [ht, compL_snoc ho1, fd, eb, Res.of_some, Res.bind_ok]; simp only [evAnd, Res.bind_ok, if_true, ee, ec, edc, isB])
              | exc c p => rw [ee] at ho2; cases ho2
              | bad => rw [ee] at ho2; cases ho2
            | false =>
              simp only [Bool.false_eq_true, if_false, Res.bind_ok] at ho2 ⊢
              exact skip H3 s3 (by rw [ht, compL_snoc ho1, fd, eb, Res.of_some, Res.bind_ok]; simp only [evAnd, Res.bind_ok, if_false, ec, edc, isB, Bool.false_eq_true])
          | _ => rw [edc] at ho2; cases ho2
        | exc c p => rw [ec] at ho2; cases ho2
        | bad => rw [ec] at ho2; cases ho2
  · have e : i = ds.length := by omega
    subst e
    refine .inl ⟨wk.stop H' kp, ?_⟩
    rw [List.take_length] at ho1
    rw [hos] at ho1
    cases ho1
    refine q (.ref Dl) H' (Dl :: cs) (s1.trans s') nd (fun a ha => ?_) ?_
    · rcases List.mem_cons.mp ha with rfl | z
      · exact s1.free nD
      · exact s1.free (nc a z)
    · simp only [rO]
      exact ⟨Dl, vs, cs, rfl, hD, rfl, r⟩
end
end Rp

set_option Elab.async false
set_option linter.all false
set_option maxRecDepth 100000
set_option maxHeartbeats 4000000
/-! RpExpr6: methods, sorted, and the theorem over all expressions. -/
namespace Rp
open PySem PySem.Spec PyProof.Rows L2

/-! ### receivers of methods -/
def baseOk : Expr → Bool
  | .Call (.Name _ _) [] [] _ => false
  | _ => true
theorem base_ok {o : Expr} (h : baseOk o = true) (name : Str) (env : PySem.Env) (whole : Sem Value) : attributeBase o name env whole = whole := by
  cases o with
  | Call f as kws pos =>
    cases f <;> cases as <;> cases kws <;> first | rfl | (simp [baseOk] at h)
  | _ => rfl
section
variable {M : MC} {G : Cfg} {X : Cx}
theorem SEs.few {es : Exs} {as : List Expr} (h : SEs G X es as) (pos : Pos) (hl : as.length < 30) : ((backTo pos (starEach as X.env)).all (fun x => !x.1) && (backToKw pos (keywordEach [] X.env)).all (fun x => x.1.isSome) && decide (as.length + ([] : List Keyword).length + (if ([] : List Keyword).isEmpty then 0 else 1) < 30)) = true := by
  have e1 : (backTo pos (starEach as X.env)).all (fun x => !x.1) = true := by
    clear hl
    induction h with
    | nil => rfl
    | cons h1 hp h2 ih =>
      rw [plain_star hp]
      show (true && (backTo pos (starEach _ X.env)).all (fun x => !x.1)) = true
      rw [ih]; rfl
  rw [e1]
  simp only [Bool.true_and, Bool.and_eq_true, decide_eq_true_eq]
  exact ⟨rfl, by simpa using hl⟩

/-! ### methods -/
def mtN : Mt → Str
  | .get => "get" | .index => "index" | .join => "join" | .partition => "partition" | .split => "split" | .startswith => "startswith" | .strip => "strip"
/-- a method by data -/
def rMD (f : D → List D → Option O) : V → List V → Hp → VK → Prop := fun x xs H Q => ∃ (av : Addr → Prop) (d : D) (ds : List D) (o : O), Rv H av x d ∧ RvAll H av xs ds ∧ f d ds = some o ∧ Post H av o Q
theorem find_at {d : D} : ∀ {ds : List D} {k : Nat}, find d ds = some k → ∃ z, ds[k]? = some z ∧ PyData.eqv z d = true ∧ ∀ (m : Nat) (z' : D), m < k → ds[m]? = some z' → PyData.eqv z' d = false
  | [], k, h => by simp [find] at h
  | x :: xs, k, h => by
    simp only [find] at h
    split at h
    · rename_i hx
      cases h
      exact ⟨x, rfl, hx, fun m z' hm => absurd hm (Nat.not_lt_zero _)⟩
    · rename_i hx
      rw [Option.map_eq_some_iff] at h
      obtain ⟨j, hj, rfl⟩ := h
      obtain ⟨z, e1, e2, e3⟩ := find_at hj
      refine ⟨z, by simpa using e1, e2, fun m z' hm e => ?_⟩
      cases m with
      | zero => simp at e; subst e; simpa using hx
      | succ m => exact e3 m z' (by omega) (by simpa using e)
theorem md_index (hu : X.A.units + 65 < cLine) : MtR X "list.index" (rMD (mtf .index)) := by
  intro pins s σ H x xs v us Q I rx rxs ⟨av, d, ds, o, r1, r2, e, p⟩
  refine mt_indexD hu pins s σ H x xs v us Q I rx rxs ?_
  unfold mtf at e
  split at e <;> first | (cases e; done) | skip
  all_goals (rename_i hb; first | (cases hb; done) | skip)
  split at e
  · rename_i hz
    simp only [shaped, Bool.and_eq_true] at hz
    rw [Option.map_eq_some_iff] at e
    obtain ⟨k, hk, rfl⟩ := e
    obtain ⟨y, rfl, ry⟩ := rv1 r2
    obtain ⟨z, e1, e2, e3⟩ := find_at hk
    have q1 := r1.dp (K := X.K) (SeqAt.canLay_of_shaped hz.2)
    have q2 := ry.dp (K := X.K) (SeqAt.canLay_of_shaped hz.1)
    cases r1 with
    | lst k1 k2 k3 => exact ⟨_, _, _, _, _, z, rfl, rfl, q1, q2, hz.2, hz.1, e1, e2, e3, p.val rfl⟩
  · cases e
theorem kV_int {x : V} {H : Hp} {av : Addr → Prop} {i : Int} (r : Rv H av x (.int i)) : x = kV (.inl i) := by cases r; rfl
theorem keyD_eqv (k : Key) (i : Int) : PyData.eqv (keyD k) (.int i) = true ↔ k = .inl i := by
  cases k with
  | inl j => simp [keyD, PyData.eqv]
  | inr x => simp [keyD, PyData.eqv]
theorem dget_of {i : Int} : ∀ {kvs : List (Key × V)} {ps : List (D × D)}, KRel kvs ps → (dget i ps).map some = (valV kvs (.inl i)).map valD
  | [], _, h => by cases h; rfl
  | (k, v) :: kvs, _, h => by
    cases h with
    | cons h1 h2 =>
      rename_i q ps
      simp only [dget]
      obtain ⟨h3, h4⟩ := h1
      by_cases hk : k = .inl i
      · rw [valV_pos hk, if_pos (by rw [← h3]; exact (keyD_eqv _ _).mpr hk)]
        simp only [Option.map_some, h4]
      · rw [valV_neg hk, if_neg (by rw [← h3]; exact fun z => hk ((keyD_eqv _ _).mp z))]
        exact dget_of h2
theorem md_get (hu : X.A.units + 65 < cLine) : MtR X "dict.get" (rMD (mtf .get)) := by
  intro pins s σ H x xs v us Q I rx rxs ⟨av, d, ds, o, r1, r2, e, p⟩
  unfold mtf at e
  split at e <;> first | (cases e; done) | skip
  all_goals (rename_i hb; first | (cases hb; done) | skip)
  cases e
  obtain ⟨y, z, rfl, ry, rz⟩ := rv2 r2
  rename_i kvs0 k d0
  cases r1 with
  | dic h1 h2 h3 =>
    rename_i a kvs
    obtain rfl : v = Value.ref a := rx
    cases rxs with
    | cons q1 qt =>
      cases qt with
      | cons q2 qt =>
        cases qt
        have ey := kV_int ry
        subst ey
        have g : DGet H a (kV (.inl k)) (valV kvs (.inl k)) := DGet.k h1
        refine d_get2 (by omega) I g q1 q2 fun w' s' I' r' => ⟨_, H, I', r', ?_⟩
        have hd := dget_of (i := k) h3
        cases hv : valV kvs (.inl k) with
        | none =>
          rw [hv] at hd
          have e0 : dget k kvs0 = none := by
            cases q : dget k kvs0 with
            | none => rfl
            | some w => rw [q] at hd; cases hd
          rw [e0] at p
          exact p.sh (Same.refl H) rz
        | some w =>
          rw [hv] at hd
          cases q : dget k kvs0 with
          | none => rw [q] at hd; cases hd
          | some w2 =>
            rw [q] at hd p
            simp only [Option.map_some, Option.some.injEq] at hd
            exact p.sh (Same.refl H) (Rv.val hd.symm)
theorem rOs.evd {H H' : Hp} {av : Addr → Prop} {os : List O} {vs : List V} {cs : List Addr} (r : rOs H' (fun a => av a ∧ a ∉ cs) os vs cs) (nw : New H av) (n : ∀ a ∈ cs, H a = none) : RvAll H' av vs (Rp.ers os) := rOs.ers r nw n
def tyD : D → String
  | .none => "NoneType" | .bool _ => "bool" | .int _ => "int" | .str _ => "str" | .list _ => "list" | .tuple _ => "tuple" | .dict _ => "dict"
/-- a method call, by its rule -/
theorem se_mtR {m : Mt} {T : String} {id : String} {e : Ex} {a : Expr} {es : Exs} {b : Expr} {bs : List Expr} {apos pos : Pos} (pa : PlainAttrs T) (slot : Slot T (mtN m) id) (hty : typeOf (.builtin id) = pure (.type "method_descriptor")) (hm : MtR X id (rMD (mtf m)))
    (ty : ∀ d H av v, mtOk m d = true → Rv H av v d → tyV X.K T v H) (he : SE G X e a) (hes : SEs G X es (b :: bs)) (hb : baseOk a = true) (hl : (b :: bs).length < 30) (hline : (apos.endLine == pos.line) = true) :
    SE G X (.mt m e es) (.Call (.Attribute a (mtN m) apos) (b :: bs) [] pos) := by
  have hp : plainE b = true := by cases hes; assumption
  have htl : ∃ es', SEs G X es' bs := by cases hes; exact ⟨_, by assumption⟩
  obtain ⟨es', htl⟩ := htl
  refine .of (pe_imp (pe_bm pa slot hty hm he.pe hes.pa (base_ok hb _ _ _) (hes.few pos hl) hline (plain_star hp _ _) (htl.any_false _ _)) ?_) rfl
  intro σ H Q ⟨γ, av, env, nw, q⟩
  simp only [ev] at q
  simp only [srcs] at env
  refine tE.use env.left nw q.bind fun x hx v H1 c1 s1 nd1 n1 r1 => ?_
  have hx := hx.2
  split at hx
  · rename_i hok
    have rv := rO.er r1 nw n1
    refine ⟨ty _ _ _ _ hok rv, ?_⟩
    refine tA.use (env.right.same s1) (nw.same s1) (hx.same s1).bind fun os hos vs H2 c2 s2 nd2 n2 r2 => ?_
    obtain ⟨o, eo, p⟩ := hos.2.of
    exact ⟨av, er x, Rp.ers os, o, rv.same s2, rOs.ers r2 (nw.same s1) n2, eo, Post.back p (s1.trans s2)⟩
  · exact hx.elim
end
end Rp

set_option Elab.async false
set_option linter.all false
set_option maxRecDepth 100000
set_option maxHeartbeats 1000000
/-! RpRevl: list(reversed(a list)). -/
set_option Elab.async false
set_option linter.all false
set_option maxRecDepth 100000
set_option maxHeartbeats 2000000
namespace RpX
open PySem PySem.Spec PyProof.Rows L2
abbrev emptyL : Obj := { cls := .type "list", data := .seq #[] }
abbrev filledL (acc : Array Value) (c : Nat) : Obj := { cls := .type "list", dict := none, data := .seq acc c, slots := #[] }
abbrev wiped (h : Heap) (S : Addr) : Heap := h.update S (Obj.mapSeq fun _ => (#[] : Array Value))
section
variable {prog : Program} {w : World} {A : Around} {E : Value → Shared → Prop} {s : Shared} {it : Addr} {T : String} {fp wr : List Addr} {n : Nat} {P : Nat → Value → Prop} {St : Nat → Shared → Prop}
abbrev Holds (fp : List Addr) (s : Shared) (h : Heap) : Prop := ∀ b ∈ fp, ∀ o, s.heap.get? b = some o → h.get? b = some o
structure Drains (prog : Program) (w : World) (A : Around) (s : Shared) (it : Addr) (T : String) (fp wr : List Addr) (n : Nat) (P : Nat → Value → Prop) (St : Nat → Shared → Prop) : Prop where
  walk : WalksS prog w A it fp wr (fun a b => b = a) n P St
  few : n ≤ sizeLine
  old : ∀ b ∈ fp, b < s.heap.objs.size
  at_ : it ∈ fp
  start : ∀ h tk, Holds fp s h → St 0 { s with heap := h, toks := tk }
  cls : ∃ o, s.heap.get? it = some o ∧ o.cls = .type T
  kind : T = "list_reverseiterator" ∨ T = "range_iterator"
  self : ∀ h, Holds fp s h → ∀ (A : Around) (Q : Value → Shared → Prop) (E : Value → Shared → Prop), Q (.ref it) { s with heap := h } → wpAny (model prog w) A (pyIter (.ref it)) Q E { s with heap := h }
  hint : ∀ h, Holds fp s h → ∀ (A : Around) (Q : Bool → Shared → Prop) (E : Value → Shared → Prop), (∀ tk, Q false { s with heap := h, toks := tk }) → wpAny (model prog w) A (Builtin.List.listLengthHint (.ref it)) Q E { s with heap := h }
theorem Drains.extend {R : Result → Shared → Prop} {S : Addr} {c : Nat} {h : Heap} (d : Drains prog w A.in1 s it T fp wr n P St) (hS : h.get? S = some (filledL #[] c)) (off : S ∉ fp) (k : Holds fp s h)
    (hR : ∀ h' tk acc c, (∀ b o, b ≠ S → b ∉ wr → h.get? b = some o → h'.get? b = some o) → h'.get? S = some (filledL acc c) → ItemsOf P acc n → R (.ok (.ret .none)) { s with heap := h', toks := tk }) :
    wpAny (model prog w) A.in1 (Builtin.List.listExtendWith (.ref S) (.ref it) .none)
      (fun fin s' => match fin with | .done f => R (.ok f) s' | .again c' => c'.quiet = true ∧ codeAny (model prog w) A c' R s') (fun e s' => R (.error e) s') { s with heap := h } := by
  obtain ⟨o, at_, cls⟩ := d.cls
  have same : Builtin.List.listSameRef (.ref S) (.ref it) = false := decide_eq_false fun (z : S = it) => off (z ▸ d.at_)
  unfold Builtin.List.listExtendWith
  refine wpAny_bind (wpAny_typeOf (T := T) ⟨o, k it d.at_ o at_, cls⟩ ?_)
  have seq : (Value.type T == .type "list" || Value.type T == .type "tuple") = false := by rcases d.kind with z | z <;> subst z <;> decide
  rw [same, Bool.false_or, seq]
  simp only [Bool.false_eq_true, if_false]
  refine wpAny_bind (d.self h k _ _ _ (wpAny_bind (wpAny_holding (d.hint h k _ _ _ fun tk => ?_))))
  rw [if_neg (by rcases d.kind with z | z <;> subst z <;> decide)]
  refine wpAny_pure ⟨plainId_quiet F.plain_extend_loop _, codeAny_extend_loopS d.walk d.few S off _ n 0 _ #[] c rfl (Nat.zero_le _) (d.start h tk k) hS (ItemsOf.nil _) fun s' acc c' m eS items => ?_⟩
  rw [Moved.eq_with m]
  exact hR _ _ acc c' (fun b o bS bw e => m.heap b o (fun z => (List.mem_cons.mp z).elim bS bw) e) eS items
theorem Drains.list {Q : Value → Shared → Prop} (d : Drains prog w A.in1.in1 s it T fp wr n P St)
    (hQ : ∀ h' tk acc c, (∀ b o, b ∉ wr → s.heap.get? b = some o → h'.get? b = some o) → h'.get? s.heap.objs.size = some (filledL acc c) → ItemsOf P acc n → Q (.ref s.heap.objs.size) { s with heap := h', toks := tk }) :
    wpAny (model prog w) A (call (.type "list") [.ref it]) Q E s := by
  have new : (s.heap.push emptyL).get? s.heap.objs.size = some emptyL := Heap.get?_push_size _ rfl
  have off : s.heap.objs.size ∉ fp := fun z => Nat.lt_irrefl _ (d.old _ z)
  have made : codeAny (model prog w) A.in1 (.call (.builtin "list.__new__") ⟨.type "list" :: [.ref it], []⟩) (wants (fun v t => v = .ref s.heap.objs.size ∧ t = { s with heap := s.heap.push emptyL }) E) s := code_list_new _ ⟨rfl, rfl⟩
  refine callType_codes F.called_list (F.typeCall_list_1 _) F.entry_list_init made ?_
  rintro _ _ ⟨rfl, rfl⟩
  refine ⟨⟨_, new, rfl⟩, F.args_list_init_2 _ _, ?_⟩
  show wpAny _ _ (Builtin.List.listItems (.ref s.heap.objs.size) >>= fun old => Builtin.List.listUpdate (.ref s.heap.objs.size) (fun _ => #[]) >>= fun _ => letGo old.toList.reverse >>= fun _ => Builtin.List.listExtendWith (.ref s.heap.objs.size) (.ref it) .none) _ _ _
  unfold Builtin.List.listItems
  refine wpAny_bind (wpAny_bind (wpAny_seqItems new rfl (wpAny_pure (wpAny_bind (wpAny_updateSeq new rfl (wpAny_bind (wpAny_letGo ?_)))))))
  have old : ∀ b o, s.heap.get? b = some o → (wiped (s.heap.push emptyL) s.heap.objs.size).get? b = some o := fun b o e =>
    (Heap.get?_update_other _ _ (Nat.ne_of_gt (Heap.lt_size e))).trans (Heap.get?_push_of_some _ e)
  refine Drains.extend (A := A.in1) (s := s) (h := wiped (s.heap.push emptyL) s.heap.objs.size) d (Heap.get?_update_self _ new rfl) off (fun b _ o => old b o) fun h' tk acc c keep eS items => ⟨rfl, hQ h' tk acc c (fun b o bw e => ?_) eS items⟩
  exact keep b o (Nat.ne_of_lt (Heap.lt_size e)) bw (old b o e)
end
section
variable {prog : Program} {w : World} {A : Around} {E : Value → Shared → Prop} {s : Shared} {it l : Addr} {items : Array Value} {a c : Int} {n : Nat}
theorem hint_rev {Q : Bool → Shared → Prop} (cls : s.TypeIs (.ref it) "list_reverseiterator") (h : Q false s) : wpAny (model prog w) A (Builtin.List.listLengthHint (.ref it)) Q E s := by
  have sp : splitId "list_reverseiterator.__length_hint__" = some ("list_reverseiterator", "__length_hint__") := by decide +kernel
  have sub : isSubtype (.type "list_reverseiterator") (.type "list_reverseiterator") = pure true := by rw [isSubtype_type]; kernel_rfl
  unfold Builtin.List.listLengthHint
  refine wpAny_bind (wpAny_specialOf cls RT.nolen_lri (wpAny_bind (wpAny_specialOf cls RT.hint_lri ?_)))
  simp only [sp]
  refine wpAny_bind (wpAny_isInstance (b := true) cls sub ?_)
  exact wpAny_pure h
theorem rit_left (r : Addr) (x n c : Int) (t u v : Tok) :
    Meets (Builtin.«range_iterator.__length_hint__» ⟨[.ref r], []⟩) (fun _ R s => s.heap.get? r = some { cls := .type "range_iterator", dict := none, data := .fields #[.int x t, .int n u, .int c v], slots := #[] } ∧ ∀ u tk, R (.ok (.ret (.int n u))) { s with toks := tk }) :=
  .of_wp fun prog w A R s z => by
    obtain ⟨hp, g, d, tk, os⟩ := s
    obtain ⟨at_, z⟩ := z
    wp_walk
    exact ⟨_, rfl, z tk (tk + 1)⟩
theorem hint_rit {Q : Bool → Shared → Prop} (r : IsRangeIter s.heap it a n c) (fits : Builtin.List.listTooLong n = false) (h : ∀ tk, Q false { s with toks := tk }) : wpAny (model prog w) A (Builtin.List.listLengthHint (.ref it)) Q E s := by
  have sp : splitId "range_iterator.__length_hint__" = some ("range_iterator", "__length_hint__") := by decide +kernel
  have sub : isSubtype (.type "range_iterator") (.type "range_iterator") = pure true := by rw [isSubtype_type]; kernel_rfl
  have cls : s.TypeIs (.ref it) "range_iterator" := ⟨_, r, rfl⟩
  unfold Builtin.List.listLengthHint
  refine wpAny_bind (wpAny_specialOf cls PySem.F.nolen_ra (wpAny_bind (wpAny_specialOf cls PySem.F.hint_ra ?_)))
  simp only [sp]
  refine wpAny_bind (wpAny_isInstance (b := true) cls sub ?_)
  refine wpAny_bind (call_meets PySem.F.slot_range_iterator_length_hint cls PySem.F.entry_range_iterator_length_hint (PySem.F.args_range_iterator_length_hint_1 _) (rit_left it a n c _ _ _) ⟨r, fun u tk => ?_⟩)
  refine wpAny_bind (m := asInt? (.int n u)) (wpAny_pure ?_)
  have fits : Builtin.List.listTooLong ((n : Int)).toNat = false := by rw [Int.toNat_natCast]; exact fits
  simp only [fits, Bool.false_eq_true, if_false]
  exact wpAny_pure (h tk)
theorem drains_rev (hh : A.handled = none) (r : s.heap.IsRevIter it l ((items.size : Int) - 1)) (isl : s.heap.IsList l items) (ne : l ≠ it) (few : items.size ≤ sizeLine) :
    ∃ St, Drains prog w A.in1.in1 s it "list_reverseiterator" [it, l] [it] items.size (fun i v => items[items.size - 1 - i]? = some v) St := by
  obtain ⟨oi, ai, ci, di⟩ := id r
  obtain ⟨ol, al, cl, nl, dl⟩ := id isl
  have r2 : ∀ h, Holds [it, l] s h → h.IsRevIter it l ((items.size : Int) - 1) := fun h k => ⟨oi, k it (by simp) oi ai, ci, di⟩
  refine ⟨_, (Walks.listRev (prog := prog) (w := w) (A := A.in1.in1) hh it l ne items).toS, few, fun b z => ?_, by simp, fun h tk k => ?_, ⟨oi, ai, ci⟩, .inl rfl, fun h k A Q E q => wpAny_pyIter_revIter (r2 h k) q, fun h k A Q E q => hint_rev ⟨oi, k it (by simp) oi ai, ci⟩ (q s.toks)⟩
  · rcases List.mem_cons.mp z with z | z
    · exact z ▸ Heap.lt_size ai
    · exact List.mem_singleton.mp z ▸ Heap.lt_size al
  · refine ⟨Nat.zero_le _, ?_, ol, k l (by simp) ol al, cl, nl, dl⟩
    have z : (items.size : Int) - 1 - ((0 : Nat) : Int) = (items.size : Int) - 1 := Int.sub_zero _
    rw [z]
    exact r2 h k
theorem drains_rit (hh : A.handled = none) (r : IsRangeIter s.heap it a n c) (few : n ≤ sizeLine) (fits : Builtin.List.listTooLong n = false) :
    ∃ St, Drains prog w A.in1.in1 s it "range_iterator" [it] [it] n (fun i v => ∃ t, v = .int (a + i * c) t) St := by
  have r2 : ∀ h, Holds [it] s h → IsRangeIter h it a n c := fun h k => k it (by simp) _ r
  refine ⟨_, (Walks.range (prog := prog) (w := w) (A := A.in1.in1) hh it a c n).toS, few, fun b z => List.mem_singleton.mp z ▸ Heap.lt_size r, by simp, fun h tk k => ?_, ⟨_, r, rfl⟩, .inr rfl, fun h k A Q E q => wpAny_pyIter_rangeiter (r2 h k) q, fun h k A Q E q => hint_rit (r2 h k) fits q⟩
  show IsRangeIter h it (a + ((0 : Nat) : Int) * c) ((n : Int) - ((0 : Nat) : Int)) c
  rw [Int.natCast_zero, Int.zero_mul, Int.add_zero, Int.sub_zero]
  exact r2 h k
end
section
variable {X : Cx} {pins : List (Addr × Obj)} {σ : L2.St} {H : Hp} {s : Shared} {Q : VK}
theorem drained_ok {o : Obj} {T : String} {fp : List Addr} {n : Nat} {P : Nat → Value → Prop} {St : Nat → Shared → Prop} {xs : List V} (I : Inv X pins σ H s) (d : Drains X.prog X.w X.A.in1.in1 { s with heap := s.heap.push o } s.heap.objs.size T fp [s.heap.objs.size] n P St)
    (few : xs.length ≤ sizeLine) (rel : ∀ acc, ItemsOf P acc n → Vals xs acc.toList) (q : ∀ b, H b = none → Q (.ref b) (upd H b (.lst xs))) :
    wpAny (model X.prog X.w) X.A (call (.type "list") [.ref s.heap.objs.size]) (EP X pins σ Q) X.xe { s with heap := s.heap.push o } := by
  have J : Inv X pins σ H { s with heap := s.heap.push o } := I.kept (t' := s.toks) fun _ _ e => Heap.get?_push_of_some _ e
  have own := I.fpOk (H' := H) (Nat.le_refl _) (I.hok.fresh (Nat.le_refl _))
  refine d.list fun h' tk acc c keep new items => ⟨.ref (s.heap.push o).objs.size, _, J.turnedNew (t' := tk) (ch := [s.heap.objs.size]) (fun b u nb e => keep b u nb e) (fun b hb => List.mem_singleton.mp hb ▸ own) (Nat.le_refl _) (ob := .lst xs) ⟨few, acc.toList, c, rel acc items, ?_⟩, rfl, q _ (J.hok.fresh (Nat.le_refl _))⟩
  exact new.trans (by rw [Array.toArray_toList])
end
end RpX

namespace Rp
open PySem PySem.Spec PyProof.Rows L2
def tLstRev (K : PySem.W.Frag) (te : TE) : TE := fun σ H Q => te σ H fun v H1 => ∃ (a : Addr) (xs : List V), v = .ref a ∧ SqL K H1 a xs ∧ ∀ q, H1 q = none → Q (.ref q) (upd H1 q (.lst xs.reverse))
theorem pe_lstRev {X : Cx} {e : Expr} {te : TE} {p p2 pos pos2 : Pos} (hc : X.calm = true) (hg : Gl X "list") (hm : X.mg "list" = none) (hg2 : Gl X "reversed") (hm2 : X.mg "reversed" = none) (he : PE X e te)
    (hs : starEach [e] X.env = (false, eval e X.env) :: starEach [] X.env := by rfl)
    (hs2 : starEach [.Call (.Name "reversed" p2) [e] [] pos2] X.env = (false, eval (.Call (.Name "reversed" p2) [e] [] pos2) X.env) :: starEach [] X.env := by rfl) :
    PE X (.Call (.Name "list" p) [.Call (.Name "reversed" p2) [e] [] pos2] [] pos) (tLstRev X.K te) where
  run pins s σ H Q I h := by
    refine Call_ (ld_blt I hg hm boot_list (PyProof.Rows.callWith_type1 (args_cons ?_ hs2) hs2 rfl))
    refine Call_ (ld_blt I hg2 hm2 PyProof.Rows.boot_reversed (PyProof.Rows.callWith_type1 (args_cons (thn (he.run pins s σ H _ I h) ?_) hs) hs rfl))
    rintro u s1 ⟨v, H1, I1, ru, a, xs, rfl, sq, q⟩
    obtain rfl : u = .ref a := ru
    obtain ⟨its, rel, isl, few⟩ := I1.list sq
    have len : its.toArray.size ≤ sizeLine := by rw [List.size_toArray, ← rel.length]; exact few
    have isl := isl.isList
    have low : a < s1.heap.objs.size := by
      obtain ⟨_, e, _⟩ := id isl
      exact Heap.lt_size e
    refine args_nil (call_reversed_list isl (args_nil ?_))
    obtain ⟨St, d⟩ := RpX.drains_rev (prog := X.prog) (w := X.w) (A := X.A) (s := { s1 with heap := s1.heap.push (revObj a ((its.toArray.size : Int) - 1)) }) (it := s1.heap.objs.size) (I1.ok.hd hc) ⟨_, Heap.get?_push_size _ rfl, rfl, rfl⟩ (isl.push _) (Nat.ne_of_lt low) len
    exact RpX.drained_ok I1 d (by rw [List.length_reverse]; exact few) (fun acc => RT.vals_rev rel) q
section
variable {M : MC} {G : Cfg} {X : Cx}
theorem se_revl {sc : Scope} {x y : Str} {e : Ex} {a : Expr} {p p2 q0 pos : Pos} (h : bltB sc x "list" = true) (hy : bltB sc y "reversed" = true) (g : Good M G X) (hs : ScOk X sc) (he : SE G X e a) (hp : plainE a = true) :
    SE G X (.revl e) (.Call (.Name x p) [.Call (.Name y p2) [a] [] q0] [] pos) := by
  simp only [bltB, Bool.and_eq_true, beq_iff_eq] at h hy
  obtain ⟨h1, h2⟩ := h
  obtain ⟨h3, h4⟩ := hy
  subst h1 h3
  refine .of (pe_imp (pe_lstRev g.calm (glB_of h2 hs) (g.bi _ (by simp)) (glB_of h4 hs) (g.bi _ (by simp)) he.pe (plain_star hp _ _)) ?_) rfl
  intro σ H Q ⟨γ, av, env, nw, q⟩
  simp only [ev] at q
  simp only [srcs] at env
  refine tE.use env nw q.bind fun o ho v H1 c1 s1 nd1 n1 r1 => ?_
  obtain ⟨ds, en, p⟩ := ho.2.bind.of
  have p := p.2
  have rv := rO.er r1 nw n1
  generalize er o = d at rv en
  cases rv <;> simp only [revD] at en <;> first | (cases en; done) | skip
  rename_i h1 h2 h3
  cases en
  exact ⟨_, _, rfl, .inl h1, fun q n => (Post.back p s1).lst n h3.rev⟩
end
end Rp

set_option Elab.async false
set_option linter.all false
set_option maxRecDepth 100000
set_option maxHeartbeats 4000000
/-! RpExpr7: the match of expressions, and its theorem. -/
namespace Rp
open PySem PySem.Spec PyProof.Rows L2

section
variable {M : MC} {G : Cfg} {X : Cx}
/-! sorted -/
theorem RvAll.reads {pins : List (Addr × Obj)} {σ : L2.St} {H : Hp} {s : Shared} {av : Addr → Prop} (I : Inv X pins σ H s) : ∀ {ds : List D} {xs : List V} {its : List Value}, (∀ d ∈ ds, d.canLay0 = true) → RvAll H av xs ds → Vals xs its →
    PySem.W.EachIs (fun v d => ∃ x, RelV x v ∧ Rv H av x d) its ds ∧ PySem.W.EachIs (fun v d => ∃ as, Reads s.heap v (id d) as) its ds
  | [], _, _, _, h, r => by cases h; cases r; exact ⟨.nil, .nil⟩
  | d :: ds, _, _, hc, h, r => by
    cases h with
    | cons h1 h2 =>
      cases r with
      | cons r1 r2 =>
        obtain ⟨e1, e2⟩ := RvAll.reads I (fun d' hd' => hc d' (by simp [hd'])) h2 r2
        exact ⟨.cons ⟨_, r1, h1⟩ e1, .cons (Dp.reads I d _ _ (h1.dp (hc d (by simp))) r1) e2⟩
theorem each_vals {H : Hp} {av : Addr → Prop} : ∀ {out : List Value} {ds : List D}, PySem.W.EachIs (fun v d => ∃ x, RelV x v ∧ Rv H av x d) out ds → ∃ xs, Vals xs out ∧ RvAll H av xs ds
  | [], _, h => by cases h; exact ⟨[], .nil, .nil⟩
  | v :: out, _, h => by
    cases h with
    | cons h1 h2 =>
      obtain ⟨x, r, q⟩ := h1
      obtain ⟨xs, rs, qs⟩ := each_vals h2
      exact ⟨x :: xs, .cons r rs, .cons q qs⟩
theorem isTup_of {d : D} (h : (match d with | .tuple (_ :: _) => true | _ => false) = true) : ∃ x r, d = .tuple (x :: r) := by
  cases d with
  | tuple xs => cases xs with
    | nil => simp at h
    | cons x r => exact ⟨x, r, rfl⟩
  | _ => simp at h
theorem bi_sorted (hu : X.A.units + 65 < cLine) : CallR X (.builtin "sorted") (rCD (bfn .sorted)) := by
  intro pins s σ H vs us Q I rx ⟨av, ds, o, r, e, p⟩
  unfold bfn at e
  split at e <;> first | (cases e; done) | skip
  all_goals (rename_i hb; first | (cases hb; done) | skip)
  rename_i ds0
  split at e
  · rename_i hz
    cases e
    obtain ⟨v, rfl, h⟩ := rv1 r
    cases h with
    | lst h1 h2 h3 =>
      rename_i a xs
      obtain ⟨its, rv, hl, hz2⟩ := I.list (.inl h1)
      obtain ⟨u, rfl, ru⟩ := vals1 rx
      obtain rfl : u = Value.ref a := ru
      simp only [sortOk, Bool.and_eq_true, Bool.or_eq_true, List.all_eq_true, decide_eq_true_eq] at hz
      obtain ⟨⟨z1, z2⟩, z3⟩ := hz
      obtain ⟨q1, q2⟩ := RvAll.reads I (fun d hd => (z3 d hd).1) h3 rv
      refine PySem.W.sorted_data (enc := id) hl.isList q1 q2 ?_ ?_ (by rw [← h3.length]; exact hz2) (fun b hb => ?_) fun out hlen hout => ?_
      · rw [List.map_id]
        exact z1
      · rw [List.map_id]
        rcases z2 with z2 | z2
        · exact .inl fun d hd => isTup_of (z2 d hd)
        · refine .inr fun d hd => ?_
          have := z2 d hd
          exact ⟨fun q => by subst q; simp at this, fun xs q => by subst q; simp at this⟩
      · have := (z3 b hb).2
        show X.A.units + 2 + b.depth < cLine
        omega
      · obtain ⟨xs', r1, r2⟩ := each_vals hout
        have hnew : H (s.heap.objs.size + 1) = none := I.hok.fresh (by omega)
        obtain ⟨c, hc⟩ := sortedAll_at s.heap its out.toArray
        refine ⟨.ref (s.heap.objs.size + 1), upd H (s.heap.objs.size + 1) (.lst xs'), I.laid (t' := s.toks) (fun b q hq => sortedAll_old hq) (by omega) ⟨?_, out, c, r1, hc⟩, rfl, p.lst hnew r2⟩
        have l1 := r1.length
        have l2 := h3.length
        rw [l1, hlen]
        omega
  · cases e
/-! ### the match -/
mutual
def mE (M : MC) (sc : Scope) : Ex → Expr → Bool
  | .var i, .Name x _ => varB M sc i x
  | .mv i, .Name x _ => varB M sc i x
  | .mvi i e, .Subscript (.Name x _) b _ => varB M sc i x && mE M sc e b
  | .con d, .Constant c _ _ => conB d c
  | .glob g, .Name x _ => gloB M sc g x
  | .bin op a b, .BinOp a' o b' _ => bopB op o && (mE M sc a a' && mE M sc b b')
  | .neg a, .UnaryOp .USub a' _ => mE M sc a a'
  | .not a, .UnaryOp .Not a' _ => mE M sc a a'
  | .cmp op a b, .Compare a' [o] [b'] _ => copB op o && (mE M sc a a' && mE M sc b b')
  | .chain op op2 a b c, .Compare a' [o, o2] [b', c'] _ => copB op o && (copB op2 o2 && (mE M sc a a' && (mE M sc b b' && mE M sc c c')))
  | .and es, .BoolOp .And (a :: as) _ => mEs M sc es (a :: as)
  | .or es, .BoolOp .Or (a :: as) _ => mEs M sc es (a :: as)
  | .cut o lo hi, .Subscript a (.Slice l h none _) _ => mE M sc o a && ((if isNul lo then l.isNone else match l with | some b => mE M sc lo b | none => false) && (if isNul hi then h.isNone else match h with | some b => mE M sc hi b | none => false))
  | .idx o i, .Subscript a b _ => mE M sc o a && mE M sc i b
  | .lst es, .List as _ => mEs M sc es as
  | .tup es, .Tuple as _ _ => mEs M sc es as
  | .dnew, .Dict [] [] _ => true
  | .call f es, .Call (.Name x _) (a :: as) [] _ => defB M sc f x && mEs M sc es (a :: as)
  | .calld f es, .Call (.Name x _) (a :: as) [] _ => defB M sc f x && (M.nd.contains f && mEs M sc es (a :: as))
  | .sortm i, .Call (.Name x _) [.Name y _] [] _ => bltB sc x "sorted" && varB M sc i y
  | .bi f es, .Call (.Name x _) (a :: as) [] _ => bltB sc x (biN f) && (decide (f ≠ .str ∧ f ≠ .dict ∧ f ≠ .lenset) && mEs M sc es (a :: as))
  | .isi e [k], .Call (.Name x _) [a, .Name y _] [] _ => bltB sc x "isinstance" && (tyB k y && (glB sc y && mE M sc e a))
  | .mt m o es, .Call (.Attribute a n apos) (b :: bs) [] pos => (n == mtN m) && ((apos.endLine == pos.line) && (baseOk a && (decide ((b :: bs).length < 30) && (decide (m = .get ∨ m = .index) && (mE M sc o a && mEs M sc es (b :: bs))))))
  | .lset e, .Call (.Name x _) [.Call (.Name y _) [a] [] _] [] _ => bltB sc x "len" && (bltB sc y "set" && mE M sc e a)
  | .revl e, .Call (.Name x _) [.Call (.Name y _) [a] [] _] [] _ => bltB sc x "list" && (bltB sc y "reversed" && mE M sc e a)
  | .comp elt tg it cond own, .ListComp elt' [⟨tg', it', ifs, k⟩] scope _ => decide (k = 0) && (blkC M.N sc scope (own.map fun i => ((M.N[i]?).getD "", i)) && ((tg.all fun i => own.contains i) && (mI M sc it tg' it' && (plainE it' && (matchT M scope tg tg' && (mC M scope cond ifs && mE M scope elt elt'))))))
  | _, _ => false
def mEs (M : MC) (sc : Scope) : Exs → List Expr → Bool
  | .nil, [] => true
  | .cons e es, a :: as => mE M sc e a && mEs M sc es as
  | _, _ => false
def mC (M : MC) (sc : Scope) : Exs → List Expr → Bool
  | .nil, [] => true
  | .cons e .nil, [a] => mE M sc e a
  | _, _ => false
def mI (M : MC) (sc : Scope) : Itx → Expr → Expr → Bool
  | .ls e, _, a => mE M sc e a
  | .rng es, _, .Call (.Name x _) as [] _ => bltB sc x "range" && (decide (1 ≤ as.length ∧ as.length ≤ 3) && mEs M sc es as)
  | .zip e e2, .Tuple _ _ _, .Call (.Name x _) [a, a2] [] _ => bltB sc x "zip" && (mE M sc e a && mE M sc e2 a2)
  | .enum e, .Tuple _ _ _, .Call (.Name x _) [a] [] _ => bltB sc x "enumerate" && mE M sc e a
  | .rev e, _, .Call (.Name x _) [a] [] _ => bltB sc x "reversed" && mE M sc e a
  | _, _, _ => false
end
theorem mE_plain {sc : Scope} {e : Ex} {a : Expr} (h : mE M sc e a = true) : plainE a = true := by
  cases a <;> first | rfl | (cases e <;> simp [mE] at h)
end
end Rp

set_option Elab.async false
set_option linter.all false
set_option maxRecDepth 100000
set_option maxHeartbeats 8000000
/-! RpExpr8: the theorem over all expressions. -/
namespace Rp
open PySem PySem.Spec PyProof.Rows L2

theorem SE.of_eq {G : Cfg} {X : Cx} {e e2 : Ex} {a : Expr} (h : SE G X e a) (hs : srcs e2 = srcs e) (he : ∀ γ, ev G.Φ G.gt γ e2 = ev G.Φ G.gt γ e) : SE G X e2 a := by
  have red : ∀ σ H Q, tE G e2 σ H Q → tE G e σ H Q := by
    intro σ H Q ⟨γ, av, env, nw, q⟩
    rw [hs] at env
    rw [he] at q
    exact ⟨γ, av, env, nw, q⟩
  exact ⟨pe_imp h.pe red, pt_imp h.pt fun σ H Q q => red σ H _ q⟩
theorem ty_list {K : PySem.W.Frag} : ∀ d H av v, mtOk .index d = true → Rv H av v d → tyV K "list" v H := by
  intro d H av v h r
  cases r <;> simp [mtOk] at h
  rename_i h1 h2 h3
  exact .inl ⟨rfl, _, .inl h1⟩
theorem ty_dict {K : PySem.W.Frag} : ∀ d H av v, mtOk .get d = true → Rv H av v d → tyV K "dict" v H := by
  intro d H av v h r
  cases r <;> simp [mtOk] at h
  rename_i h1 h2 h3
  exact .inr (.inr (.inl ⟨rfl, .inl ⟨_, h1⟩⟩))
theorem BlkOk.of_sc {X : Cx} {N : List Str} {sc scope : Scope} {own : List (Str × Nat)} (h : BlkOk N sc scope own) (hs : ScOk X sc) : BlkOk N X.env.scope scope own := ⟨h.kind, h.uniq, h.ix, fun y hy e => hs.cf _ (h.free y hy e), h.own⟩
theorem own_snd (N : List Str) : ∀ (own : List Nat), (own.map fun i => ((N[i]?).getD ("" : Str), i)).map (·.2) = own
  | [] => rfl
  | i :: is => by simp only [List.map_cons, own_snd N is]

section
variable {M : MC}
theorem se_sorted {G : Cfg} {X : Cx} {sc : Scope} {x : Str} {es : Exs} {a : Expr} {as : List Expr} {p pos : Pos} (h : bltB sc x (biN .sorted) = true) (g : Good M G X) (hs : ScOk X sc) (hes : SEs G X es (a :: as)) :
    SE G X (.bi .sorted es) (.Call (.Name x p) (a :: as) [] pos) := by
  simp only [bltB, Bool.and_eq_true, beq_iff_eq] at h
  obtain ⟨h1, h2⟩ := h
  subst h1
  have hp : plainE a = true := by cases hes; assumption
  have htl : ∃ es', SEs G X es' as := by cases hes; exact ⟨_, by assumption⟩
  obtain ⟨es', htl⟩ := htl
  exact .of (pe_imp (pe_callB (bi_sorted g.units) (glB_of h2 hs) (g.bi _ (by simp [biN])) (by decide +kernel) hes.pa (by decide) (by decide) (plain_star hp as X.env) (htl.any_false X.env pos)) bi_red) rfl
mutual
theorem soundE : ∀ (e : Ex) {G : Cfg} {X : Cx} {sc : Scope} {a : Expr}, mE M sc e a = true → Good M G X → ScOk X sc → SE G X e a
  | .nul, G, X, sc, a, h, g, hs => by cases a <;> simp [mE] at h
  | .var i, G, X, sc, a, h, g, hs => by
    cases a with
    | Name x p => exact se_var (by simpa only [mE] using h) g hs
    | _ => simp [mE] at h
  | .mv i, G, X, sc, a, h, g, hs => by
    cases a with
    | Name x p => exact se_mv (by simpa only [mE] using h) g hs
    | _ => simp [mE] at h
  | .mvi i e, G, X, sc, a, h, g, hs => by
    cases a with
    | Subscript o b p =>
      cases o with
      | Name x p2 =>
        simp only [mE, Bool.and_eq_true] at h
        have h2 := soundE e h.2 g hs
        refine SE.of_eq (se_idx (se_var h.1 g hs) h2 (mE_plain h.2)) (by simp only [srcs]; rfl) fun γ => ?_
        simp only [ev]
        cases getS γ i <;> rfl
      | _ => simp [mE] at h
    | _ => simp [mE] at h
  | .con d, G, X, sc, a, h, g, hs => by
    cases a with
    | Constant c j p => exact se_con (by simpa only [mE] using h)
    | _ => simp [mE] at h
  | .glob i, G, X, sc, a, h, g, hs => by
    cases a with
    | Name x p => exact se_glob (by simpa only [mE] using h) g hs
    | _ => simp [mE] at h
  | .bin op a b, G, X, sc, r, h, g, hs => by
    cases r with
    | BinOp a' o b' p =>
      simp only [mE, Bool.and_eq_true] at h
      exact se_bin h.1 (soundE a h.2.1 g hs) (soundE b h.2.2 g hs)
    | _ => simp [mE] at h
  | .neg a, G, X, sc, r, h, g, hs => by
    cases r with
    | UnaryOp o a' p =>
      cases o with
      | USub =>
        simp only [mE] at h
        have := se_neg (pos := p) (soundE a h g hs)
        exact ⟨this, pt_val this (by intro _; rfl)⟩
      | _ => simp [mE] at h
    | _ => simp [mE] at h
  | .not a, G, X, sc, r, h, g, hs => by
    cases r with
    | UnaryOp o a' p =>
      cases o with
      | Not =>
        simp only [mE] at h
        exact se_not (soundE a h g hs)
      | _ => simp [mE] at h
    | _ => simp [mE] at h
  | .cmp op a b, G, X, sc, r, h, g, hs => by
    cases r with
    | Compare a' os bs p =>
      cases os with
      | nil => simp [mE] at h
      | cons o os =>
        cases bs with
        | nil => cases os <;> simp [mE] at h
        | cons b' bs =>
          cases os with
          | nil =>
            cases bs with
            | nil =>
              simp only [mE, Bool.and_eq_true] at h
              exact se_cmp h.1 g (soundE a h.2.1 g hs) (soundE b h.2.2 g hs) (mE_plain h.2.2)
            | cons _ _ => simp [mE] at h
          | cons _ _ => simp [mE] at h
    | _ => simp [mE] at h
  | .chain op op2 a b c, G, X, sc, r, h, g, hs => by
    cases r with
    | Compare a' os bs p =>
      match os, bs with
      | [o, o2], [b', c'] =>
        simp only [mE, Bool.and_eq_true] at h
        exact se_chain h.1 h.2.1 g (soundE a h.2.2.1 g hs) (soundE b h.2.2.2.1 g hs) (soundE c h.2.2.2.2 g hs) (mE_plain h.2.2.2.2)
      | [], _ => simp [mE] at h
      | [_], _ => simp [mE] at h
      | _ :: _ :: _ :: _, _ => simp [mE] at h
      | [_, _], [] => simp [mE] at h
      | [_, _], [_] => simp [mE] at h
      | [_, _], _ :: _ :: _ :: _ => simp [mE] at h
    | _ => simp [mE] at h
  | .and es, G, X, sc, r, h, g, hs => by
    cases r with
    | BoolOp o as p =>
      cases o with
      | And =>
        cases as with
        | nil => simp [mE] at h
        | cons a as =>
          simp only [mE] at h
          exact se_and (soundEs es h g hs) (by simp)
      | _ => simp [mE] at h
    | _ => simp [mE] at h
  | .or es, G, X, sc, r, h, g, hs => by
    cases r with
    | BoolOp o as p =>
      cases o with
      | Or =>
        cases as with
        | nil => simp [mE] at h
        | cons a as =>
          simp only [mE] at h
          exact se_or (soundEs es h g hs) (by simp)
      | _ => simp [mE] at h
    | _ => simp [mE] at h
  | .cut o lo hi, G, X, sc, r, h, g, hs => by
    cases r with
    | Subscript a b p =>
      cases b with
      | Slice l hh st p2 =>
        cases st with
        | none =>
          simp only [mE, Bool.and_eq_true] at h
          refine se_cut (soundE o h.1 g hs) ?_ ?_
          · cases hn : isNul lo with
            | true =>
              rw [hn] at h
              cases lo <;> simp [isNul] at hn
              have h1 := h.2.1
              simp at h1
              subst h1
              exact po_nul
            | false =>
              have h1 := h.2.1
              rw [hn] at h1
              cases l with
              | none => simp at h1
              | some b =>
                simp only [Bool.false_eq_true, if_false] at h1
                exact po_ex (soundE lo h1 g hs) fun z => by subst z; simp [isNul] at hn
          · cases hn : isNul hi with
            | true =>
              rw [hn] at h
              cases hi <;> simp [isNul] at hn
              have h1 := h.2.2
              simp at h1
              subst h1
              exact po_nul
            | false =>
              have h1 := h.2.2
              rw [hn] at h1
              cases hh with
              | none => simp at h1
              | some b =>
                simp only [Bool.false_eq_true, if_false] at h1
                exact po_ex (soundE hi h1 g hs) fun z => by subst z; simp [isNul] at hn
        | some _ => simp [mE] at h
      | _ => simp [mE] at h
    | _ => simp [mE] at h
  | .idx o i, G, X, sc, r, h, g, hs => by
    cases r with
    | Subscript a b p =>
      simp only [mE, Bool.and_eq_true] at h
      exact se_idx (soundE o h.1 g hs) (soundE i h.2 g hs) (mE_plain h.2)
    | _ => simp [mE] at h
  | .lst es, G, X, sc, r, h, g, hs => by
    cases r with
    | List as p =>
      simp only [mE] at h
      exact se_lst (soundEs es h g hs)
    | _ => simp [mE] at h
  | .tup es, G, X, sc, r, h, g, hs => by
    cases r with
    | Tuple as k p =>
      simp only [mE] at h
      exact se_tup (soundEs es h g hs)
    | _ => simp [mE] at h
  | .dnew, G, X, sc, r, h, g, hs => by
    cases r with
    | Dict ks vs p =>
      match ks, vs with
      | [], [] => exact se_dnew
      | [], _ :: _ => simp [mE] at h
      | _ :: _, _ => simp [mE] at h
    | _ => simp [mE] at h
  | .call f es, G, X, sc, r, h, g, hs => by
    cases r with
    | Call fn as kws p =>
      cases fn with
      | Name x p2 =>
        match as, kws with
        | a :: as, [] =>
          simp only [mE, Bool.and_eq_true] at h
          exact se_call h.1 g hs (soundEs es h.2 g hs)
        | [], _ => simp [mE] at h
        | _ :: _, _ :: _ => simp [mE] at h
      | _ => simp [mE] at h
    | _ => simp [mE] at h
  | .calld f es, G, X, sc, r, h, g, hs => by
    cases r with
    | Call fn as kws p =>
      cases fn with
      | Name x p2 =>
        match as, kws with
        | a :: as, [] =>
          simp only [mE, Bool.and_eq_true] at h
          exact se_calld h.1 h.2.1 g hs (soundEs es h.2.2 g hs)
        | [], _ => simp [mE] at h
        | _ :: _, _ :: _ => simp [mE] at h
      | _ => simp [mE] at h
    | _ => simp [mE] at h
  | .sortm i, G, X, sc, r, h, g, hs => by
    have e : ∀ σ H Q, ¬ tE G (.sortm i) σ H Q := by
      intro σ H Q ⟨γ, av, env, nw, q⟩
      simp only [ev] at q
      exact q
    exact ⟨⟨fun _ _ _ _ _ _ q => absurd q (e _ _ _)⟩, ⟨fun _ _ _ _ _ _ q => absurd q (e _ _ _)⟩⟩
  | .bi f es, G, X, sc, r, h, g, hs => by
    cases r with
    | Call fn as kws p =>
      cases fn with
      | Name x p2 =>
        match as, kws with
        | a :: as, [] =>
          simp only [mE, Bool.and_eq_true, decide_eq_true_eq] at h
          by_cases hf : f = .sorted
          · subst hf
            exact se_sorted h.1 g hs (soundEs es h.2.2 g hs)
          · exact se_bi h.1 ⟨hf, h.2.1⟩ g hs (soundEs es h.2.2 g hs)
        | [], _ => simp [mE] at h
        | _ :: _, _ :: _ => simp [mE] at h
      | _ => simp [mE] at h
    | _ => simp [mE] at h
  | .isi e ks, G, X, sc, r, h, g, hs => by
    cases r with
    | Call fn as kws p =>
      cases fn with
      | Name x p2 =>
        match ks, as, kws with
        | [k], [a, .Name y p3], [] =>
          simp only [mE, Bool.and_eq_true] at h
          exact se_isi h.1 h.2.1 h.2.2.1 g hs (soundE e h.2.2.2 g hs) (mE_plain h.2.2.2)
        | ks, as, kws =>
          unfold mE at h
          split at h <;> first
            | (rename_i q1 q2; cases q1; done)
            | (rename_i q1 q2; cases q1; cases q2
               simp only [Bool.and_eq_true] at h
               exact se_isi h.1 h.2.1 h.2.2.1 g hs (soundE e h.2.2.2 g hs) (mE_plain h.2.2.2))
            | cases h
      | _ => simp [mE] at h
    | _ => simp [mE] at h
  | .lset e, G, X, sc, r, h, g, hs => by
    cases r with
    | Call fn as kws p =>
      cases fn with
      | Name x p2 =>
        cases as with
        | nil => simp [mE] at h
        | cons b bs =>
          cases bs with
          | cons _ _ => simp [mE] at h
          | nil =>
            cases kws with
            | cons _ _ => simp [mE] at h
            | nil =>
              cases b with
              | Call fn2 as2 kws2 q0 =>
                cases fn2 with
                | Name y p3 =>
                  cases as2 with
                  | nil => simp [mE] at h
                  | cons a as3 =>
                    cases as3 with
                    | cons _ _ => simp [mE] at h
                    | nil =>
                      cases kws2 with
                      | cons _ _ => simp [mE] at h
                      | nil =>
                        simp only [mE, Bool.and_eq_true] at h
                        exact se_lset h.1 h.2.1 g hs (soundE e h.2.2 g hs) (mE_plain h.2.2)
                | _ => simp [mE] at h
              | _ => simp [mE] at h
      | _ => simp [mE] at h
    | _ => simp [mE] at h
  | .revl e, G, X, sc, r, h, g, hs => by
    cases r with
    | Call fn as kws p =>
      cases fn with
      | Name x p2 =>
        cases as with
        | nil => simp [mE] at h
        | cons b bs =>
          cases bs with
          | cons _ _ => simp [mE] at h
          | nil =>
            cases kws with
            | cons _ _ => simp [mE] at h
            | nil =>
              cases b with
              | Call fn2 as2 kws2 q0 =>
                cases fn2 with
                | Name y p3 =>
                  cases as2 with
                  | nil => simp [mE] at h
                  | cons a as3 =>
                    cases as3 with
                    | cons _ _ => simp [mE] at h
                    | nil =>
                      cases kws2 with
                      | cons _ _ => simp [mE] at h
                      | nil =>
                        simp only [mE, Bool.and_eq_true] at h
                        exact se_revl h.1 h.2.1 g hs (soundE e h.2.2 g hs) (mE_plain h.2.2)
                | _ => simp [mE] at h
              | _ => simp [mE] at h
      | _ => simp [mE] at h
    | _ => simp [mE] at h
  | .mt m o es, G, X, sc, r, h, g, hs => by
    cases r with
    | Call fn as kws p =>
      cases fn with
      | Attribute a n ap =>
        match as, kws with
        | b :: bs, [] =>
          simp only [mE, Bool.and_eq_true, decide_eq_true_eq, beq_iff_eq] at h
          obtain ⟨hn, hl, hb, hf, hm, ho, hes⟩ := h
          subst hn
          have hu := g.units
          rcases hm with rfl | rfl
          · exact se_mtR PySem.F.plainAttrs_dict PySem.F.slot_dict_get PySem.F.type_dict_get (md_get hu) ty_dict (soundE o ho g hs) (soundEs es hes g hs) hb hf (by simpa using hl)
          · exact se_mtR PySem.F.plainAttrs_list PySem.F.slot_list_index PySem.F.type_list_index (md_index hu) ty_list (soundE o ho g hs) (soundEs es hes g hs) hb hf (by simpa using hl)
        | [], _ => simp [mE] at h
        | _ :: _, _ :: _ => simp [mE] at h
      | _ => simp [mE] at h
    | _ => simp [mE] at h
  | .comp elt tg it cond own, G, X, sc, r, h, g, hs => by
    cases r with
    | ListComp elt' gens scope p =>
      match gens with
      | [⟨tg', it', ifs, k⟩] =>
        simp only [mE, Bool.and_eq_true, decide_eq_true_eq] at h
        obtain ⟨rfl, h1, h2, h3, h4, h5, h6, h7⟩ := h
        have ok : BlkOk X.N X.env.scope scope (own.map fun i => ((M.N[i]?).getD "", i)) := by
          rw [g.hN]
          exact BlkOk.of_sc (blkOk_by h1) hs
        have hc : cond = .nil ∨ ∃ c, cond = .cons c .nil := by
          match cond, ifs, h6 with
          | .nil, _, _ => exact .inl rfl
          | .cons c .nil, _, _ => exact .inr ⟨c, rfl⟩
          | .cons c (.cons _ _), _, h6 => simp [mC] at h6
        refine .of (pe_imp (pe_lc (g := gT X.K tg) (tt := tTs G.quiet cond) g.calm g.nd (soundI it h3 g hs) ok (fun s H C cl fp => pg_t h5 (g.blk s H scope C cl fp) (hs.blk ok s H C cl fp)) (fun s H C cl fp => soundC cond h6 (g.blk s H scope C cl fp) (hs.blk ok s H C cl fp))
          (fun s H C cl fp => (soundE elt h7 (g.blk s H scope C cl fp) (hs.blk ok s H C cl fp)).pe) (plain_fold h4 X.env)) ?_) rfl
        rw [own_snd]
        exact comp_red (fun i hi => by have := List.all_eq_true.mp h2 i hi; simpa using this) hc
      | [] => simp [mE] at h
      | _ :: _ :: _ => simp [mE] at h
    | _ => simp [mE] at h
theorem soundEs : ∀ (es : Exs) {G : Cfg} {X : Cx} {sc : Scope} {as : List Expr}, mEs M sc es as = true → Good M G X → ScOk X sc → SEs G X es as
  | .nil, G, X, sc, as, h, g, hs => by
    cases as with
    | nil => exact .nil
    | cons a as => simp [mEs] at h
  | .cons e es, G, X, sc, as, h, g, hs => by
    cases as with
    | nil => simp [mEs] at h
    | cons a as =>
      simp only [mEs, Bool.and_eq_true] at h
      exact .cons (soundE e h.1 g hs) (mE_plain h.1) (soundEs es h.2 g hs)
theorem soundC : ∀ (es : Exs) {G : Cfg} {X : Cx} {sc : Scope} {as : List Expr}, mC M sc es as = true → Good M G X → ScOk X sc → PTs X as (tTs G es)
  | .nil, G, X, sc, as, h, g, hs => by
    cases as with
    | nil => exact pts_nil
    | cons a as => simp [mC] at h
  | .cons e es, G, X, sc, as, h, g, hs => by
    match es, as with
    | .nil, [a] =>
      simp only [mC] at h
      exact pts_one (soundE e h g hs).pt
    | .nil, [] => simp [mC] at h
    | .nil, _ :: _ :: _ => simp [mC] at h
    | .cons _ _, _ => simp [mC] at h
theorem soundI : ∀ (it : Itx) {G : Cfg} {X : Cx} {sc : Scope} {t a : Expr}, mI M sc it t a = true → Good M G X → ScOk X sc → PI X t a (tI G it)
  | .ls e, G, X, sc, t, a, h, g, hs => si_ls (soundE e (by simpa only [mI] using h) g hs)
  | .rng es, G, X, sc, t, a, h, g, hs => by
    cases a with
    | Call fn as kws p =>
      cases fn with
      | Name x p2 =>
        cases kws with
        | nil =>
          simp only [mI, Bool.and_eq_true, decide_eq_true_eq] at h
          exact si_rng h.1 g hs (soundEs es h.2.2 g hs) h.2.1
        | cons _ _ => simp [mI] at h
      | _ => simp [mI] at h
    | _ => simp [mI] at h
  | .zip e e2, G, X, sc, t, a, h, g, hs => by
    cases t with
    | Tuple el kk tp =>
      cases a with
      | Call fn as kws p =>
        cases fn with
        | Name x p2 =>
          match as, kws with
          | [a, a2], [] =>
            simp only [mI, Bool.and_eq_true] at h
            exact si_zip h.1 g hs (soundE e h.2.1 g hs) (soundE e2 h.2.2 g hs) (mE_plain h.2.1) (mE_plain h.2.2)
          | [], _ => simp [mI] at h
          | [_], _ => simp [mI] at h
          | _ :: _ :: _ :: _, _ => simp [mI] at h
          | [_, _], _ :: _ => simp [mI] at h
        | _ => simp [mI] at h
      | _ => simp [mI] at h
    | _ => simp [mI] at h
  | .enum e, G, X, sc, t, a, h, g, hs => by
    cases t with
    | Tuple el kk tp =>
      cases a with
      | Call fn as kws p =>
        cases fn with
        | Name x p2 =>
          match as, kws with
          | [a], [] =>
            simp only [mI, Bool.and_eq_true] at h
            exact si_enum h.1 g hs (soundE e h.2 g hs) (mE_plain h.2)
          | [], _ => simp [mI] at h
          | _ :: _ :: _, _ => simp [mI] at h
          | [_], _ :: _ => simp [mI] at h
        | _ => simp [mI] at h
      | _ => simp [mI] at h
    | _ => simp [mI] at h
  | .rev e, G, X, sc, t, a, h, g, hs => by
    cases a with
    | Call fn as kws p =>
      cases fn with
      | Name x p2 =>
        match as, kws with
        | [a], [] =>
          simp only [mI, Bool.and_eq_true] at h
          exact si_rev h.1 g hs (soundE e h.2 g hs) (mE_plain h.2)
        | [], _ => simp [mI] at h
        | _ :: _ :: _, _ => simp [mI] at h
        | [_], _ :: _ => simp [mI] at h
      | _ => simp [mI] at h
    | _ => simp [mI] at h
end
end
end Rp

set_option Elab.async false
set_option linter.all false
set_option maxRecDepth 100000
set_option maxHeartbeats 4000000
/-! RpSt1: the state: slots with their owned cells. -/
namespace Rp
open PySem PySem.Spec PyProof.Rows L2

/-- slots stand for their annotations; cs: all owned cells -/
def rS (H : Hp) (av : Addr → Prop) : En → L2.St → List Addr → Prop
  | [], _, cs => cs = []
  | none :: Γ, σ, cs => ∃ x σ', σ = x :: σ' ∧ rS H av Γ σ' cs
  | some o :: Γ, σ, cs => ∃ v σ' c1 c2, σ = some v :: σ' ∧ cs = c1 ++ c2 ∧ rO H av o v c1 ∧ rS H av Γ σ' c2
/-- .. in any order -/
def rP (H : Hp) (av : Addr → Prop) (Γ : En) (σ : L2.St) (cs : List Addr) : Prop := ∃ c0, c0.Perm cs ∧ rS H av Γ σ c0
theorem rP.perm {H : Hp} {av : Addr → Prop} {Γ : En} {σ : L2.St} {cs ds : List Addr} (h : rP H av Γ σ cs) (p : cs.Perm ds) : rP H av Γ σ ds := by
  obtain ⟨c0, p0, h⟩ := h
  exact ⟨c0, p0.trans p, h⟩
theorem rS.len {H : Hp} {av : Addr → Prop} : ∀ {Γ : En} {σ : L2.St} {cs : List Addr}, rS H av Γ σ cs → Γ.length ≤ σ.length
  | [], _, _, _ => Nat.zero_le _
  | none :: Γ, _, _, h => by
    obtain ⟨x, σ', rfl, h⟩ := h
    simp only [List.length_cons]
    have := rS.len h
    omega
  | some o :: Γ, _, _, h => by
    obtain ⟨v, σ', c1, c2, rfl, rfl, h1, h2⟩ := h
    simp only [List.length_cons]
    have := rS.len h2
    omega
theorem rP.len {H : Hp} {av : Addr → Prop} {Γ : En} {σ : L2.St} {cs : List Addr} (h : rP H av Γ σ cs) : Γ.length ≤ σ.length := by
  obtain ⟨c0, _, h⟩ := h
  exact h.len
theorem rS.kept {H H' : Hp} {av av' : Addr → Prop} (k : Kept av H H') (w : ∀ a, av a → av' a) : ∀ {Γ : En} {σ : L2.St} {cs : List Addr}, rS H av Γ σ cs → (∀ a ∈ cs, ∀ u, H a = some u → H' a = some u) → rS H' av' Γ σ cs
  | [], _, _, h, _ => h
  | none :: Γ, _, _, h, hc => by
    obtain ⟨x, σ', rfl, h⟩ := h
    exact ⟨x, σ', rfl, rS.kept k w h hc⟩
  | some o :: Γ, _, _, h, hc => by
    obtain ⟨v, σ', c1, c2, rfl, rfl, h1, h2⟩ := h
    exact ⟨v, σ', c1, c2, rfl, rfl, h1.kept k w fun b hb => hc b (by simp [hb]), rS.kept k w h2 fun b hb => hc b (by simp [hb])⟩
theorem rP.kept {H H' : Hp} {av av' : Addr → Prop} {Γ : En} {σ : L2.St} {cs : List Addr} (k : Kept av H H') (w : ∀ a, av a → av' a) (h : rP H av Γ σ cs) (hc : ∀ a ∈ cs, ∀ u, H a = some u → H' a = some u) : rP H' av' Γ σ cs := by
  obtain ⟨c0, p, h⟩ := h
  exact ⟨c0, p, h.kept k w fun a ha => hc a (p.mem_iff.mp ha)⟩
theorem rP.weak {H : Hp} {av av' : Addr → Prop} {Γ : En} {σ : L2.St} {cs : List Addr} (h : rP H av Γ σ cs) (w : ∀ a, av a → av' a) : rP H av' Γ σ cs := h.kept .refl w fun _ _ _ e => e
theorem rP.same {H H' : Hp} {av : Addr → Prop} {Γ : En} {σ : L2.St} {cs : List Addr} (h : rP H av Γ σ cs) (s : Same H H') : rP H' av Γ σ cs := h.kept (.of s) (fun _ x => x) fun a _ u e => s a u e
theorem rS.there {H : Hp} {av : Addr → Prop} : ∀ {Γ : En} {σ : L2.St} {cs : List Addr}, rS H av Γ σ cs → rS H (fun a => av a ∧ H a ≠ none) Γ σ cs ∧ ∀ a ∈ cs, H a ≠ none
  | [], _, _, h => by
    simp only [rS] at h ⊢
    subst h
    exact ⟨rfl, by simp⟩
  | none :: Γ, _, _, h => by
    obtain ⟨x, σ', rfl, h⟩ := h
    obtain ⟨h1, h2⟩ := rS.there h
    exact ⟨⟨x, σ', rfl, h1⟩, h2⟩
  | some o :: Γ, _, _, h => by
    obtain ⟨v, σ', c1, c2, rfl, rfl, h1, h2⟩ := h
    obtain ⟨h3, h4⟩ := h1.there
    obtain ⟨h5, h6⟩ := rS.there h2
    refine ⟨⟨v, σ', c1, c2, rfl, rfl, h3, h5⟩, fun a ha => ?_⟩
    rcases List.mem_append.mp ha with z | z
    · exact h4 a z
    · exact h6 a z
theorem rP.there {H : Hp} {av : Addr → Prop} {Γ : En} {σ : L2.St} {cs : List Addr} (h : rP H av Γ σ cs) : rP H (fun a => av a ∧ H a ≠ none) Γ σ cs ∧ ∀ a ∈ cs, H a ≠ none := by
  obtain ⟨c0, p, h⟩ := h
  obtain ⟨h1, h2⟩ := h.there
  exact ⟨⟨c0, p, h1⟩, fun a ha => h2 a (p.mem_iff.mpr ha)⟩
/-- an owned thing taken out of its slot -/
theorem rS.take {H : Hp} {av : Addr → Prop} : ∀ {Γ : En} {σ : L2.St} {cs : List Addr} {i : Nat} {o : O}, rS H av Γ σ cs → getS Γ i = some o →
    ∃ v c r, σ[i]? = some (some v) ∧ rO H av o v c ∧ rS H av (setS Γ i none) σ r ∧ cs.Perm (c ++ r)
  | [], _, _, _, _, h, e => by simp [getS] at e
  | none :: Γ, _, _, 0, _, h, e => by simp [getS] at e
  | some o :: Γ, _, _, 0, _, h, e => by
    obtain ⟨v, σ', c1, c2, rfl, rfl, h1, h2⟩ := h
    simp only [getS, Option.some.injEq] at e
    subst e
    exact ⟨v, c1, c2, rfl, h1, ⟨_, _, rfl, h2⟩, List.Perm.refl _⟩
  | none :: Γ, _, _, i + 1, _, h, e => by
    obtain ⟨x, σ', rfl, h⟩ := h
    obtain ⟨v, c, r, e1, e2, e3, e4⟩ := rS.take (i := i) h (by simpa [getS] using e)
    exact ⟨v, c, r, by simpa using e1, e2, ⟨x, σ', rfl, e3⟩, e4⟩
  | some o :: Γ, _, _, i + 1, _, h, e => by
    obtain ⟨v, σ', c1, c2, rfl, rfl, h1, h2⟩ := h
    obtain ⟨v', c, r, e1, e2, e3, e4⟩ := rS.take (i := i) h2 (by simpa [getS] using e)
    refine ⟨v', c, c1 ++ r, by simpa using e1, e2, ⟨v, σ', c1, r, rfl, rfl, h1, e3⟩, ?_⟩
    exact (e4.append_left c1).trans (by
      rw [← List.append_assoc, ← List.append_assoc]
      exact (List.perm_append_comm).append_right r)
theorem rP.take {H : Hp} {av : Addr → Prop} {Γ : En} {σ : L2.St} {cs : List Addr} {i : Nat} {o : O} (h : rP H av Γ σ cs) (e : getS Γ i = some o) :
    ∃ v c r, σ[i]? = some (some v) ∧ rO H av o v c ∧ rP H av (setS Γ i none) σ r ∧ cs.Perm (c ++ r) := by
  obtain ⟨c0, p, h⟩ := h
  obtain ⟨v, c, r, e1, e2, e3, e4⟩ := h.take e
  exact ⟨v, c, r, e1, e2, ⟨r, .refl _, e3⟩, p.symm.trans e4⟩
/-- a slot without a thing may hold anything -/
theorem rS.any {H : Hp} {av : Addr → Prop} : ∀ {Γ : En} {σ : L2.St} {cs : List Addr} {i : Nat} {x : Option V}, rS H av Γ σ cs → getS Γ i = none → rS H av Γ (σ.set i x) cs
  | [], _, _, _, _, h, _ => h
  | none :: Γ, _, _, 0, x, h, e => by
    obtain ⟨y, σ', rfl, h⟩ := h
    exact ⟨x, σ', rfl, h⟩
  | some o :: Γ, _, _, 0, _, h, e => by simp [getS] at e
  | none :: Γ, _, _, i + 1, x, h, e => by
    obtain ⟨y, σ', rfl, h⟩ := h
    exact ⟨y, σ'.set i x, rfl, rS.any h (by simpa [getS] using e)⟩
  | some o :: Γ, _, _, i + 1, x, h, e => by
    obtain ⟨v, σ', c1, c2, rfl, rfl, h1, h2⟩ := h
    exact ⟨v, σ'.set i x, c1, c2, rfl, rfl, h1, rS.any h2 (by simpa [getS] using e)⟩
/-- a thing put into a slot without one -/
theorem rS.put {H : Hp} {av : Addr → Prop} {o : O} {v : V} {c : List Addr} (ho : rO H av o v c) : ∀ {Γ : En} {σ : L2.St} {cs : List Addr} {i : Nat}, rS H av Γ σ cs → getS Γ i = none → i < Γ.length →
    ∃ r, rS H av (setS Γ i (some o)) (σ.set i (some v)) r ∧ r.Perm (c ++ cs)
  | [], _, _, _, h, _, hl => by simp at hl
  | none :: Γ, _, cs, 0, h, e, hl => by
    obtain ⟨y, σ', rfl, h⟩ := h
    exact ⟨c ++ cs, ⟨v, σ', c, cs, rfl, rfl, ho, h⟩, .refl _⟩
  | some o :: Γ, _, _, 0, h, e, hl => by simp [getS] at e
  | none :: Γ, _, _, i + 1, h, e, hl => by
    obtain ⟨y, σ', rfl, h⟩ := h
    obtain ⟨r, h1, h2⟩ := rS.put ho (i := i) h (by simpa [getS] using e) (by simpa using hl)
    exact ⟨r, ⟨y, _, rfl, h1⟩, h2⟩
  | some o' :: Γ, _, _, i + 1, h, e, hl => by
    obtain ⟨v', σ', c1, c2, rfl, rfl, h1, h2⟩ := h
    obtain ⟨r, h3, h4⟩ := rS.put ho (i := i) h2 (by simpa [getS] using e) (by simpa using hl)
    refine ⟨c1 ++ r, ⟨v', _, c1, r, rfl, rfl, h1, h3⟩, (h4.append_left c1).trans ?_⟩
    rw [← List.append_assoc, ← List.append_assoc]
    exact (List.perm_append_comm).append_right _
theorem rP.put {H : Hp} {av : Addr → Prop} {o : O} {v : V} {c : List Addr} {Γ : En} {σ : L2.St} {cs : List Addr} {i : Nat} (h : rP H av Γ σ cs) (ho : rO H av o v c) (e : getS Γ i = none) (hl : i < Γ.length) :
    rP H av (setS Γ i (some o)) (σ.set i (some v)) (c ++ cs) := by
  obtain ⟨c0, p, h⟩ := h
  obtain ⟨r, h1, h2⟩ := rS.put ho h e hl
  exact ⟨r, h2.trans (p.append_left c), h1⟩
theorem getS_lt {α : Type} : ∀ {l : List (Option α)} {i : Nat} {x : α}, getS l i = some x → i < l.length
  | [], _, _, h => by simp [getS] at h
  | _ :: _, 0, _, _ => by simp
  | _ :: l, i + 1, _, h => by
    have := getS_lt (l := l) (i := i) (by simpa [getS] using h)
    simp; omega
theorem setS_set {α : Type} (l : List (Option α)) (i : Nat) (x y : Option α) : setS (setS l i x) i y = setS l i y := by rw [setS_eq, setS_eq, setS_eq, List.set_set]
theorem getS_none {α : Type} (l : List (Option α)) (i : Nat) : getS (setS l i none) i = none := by rw [getS_set, if_pos rfl]; split <;> rfl
theorem setS_same {α : Type} (l : List (Option α)) (i : Nat) (h : getS l i = none) : setS l i none = l ∨ i ≥ l.length := by
  by_cases hl : i < l.length
  · left
    rw [setS_eq]
    apply List.ext_getElem?
    intro j
    rw [List.getElem?_set]
    split
    · rename_i e
      subst e
      try rw [if_pos hl]
      rw [getS_eq] at h
      rw [List.getElem?_eq_getElem hl] at h ⊢
      simp at h
      rw [h]
    · rfl
  · exact .inr (by omega)
theorem setS_out {α : Type} (l : List (Option α)) (i : Nat) (x : Option α) (h : l.length ≤ i) : setS l i x = l := by rw [setS_eq]; exact List.set_eq_of_length_le h
/-- a slot emptied -/
theorem rP.drop {H : Hp} {av : Addr → Prop} {Γ : En} {σ : L2.St} {cs : List Addr} (h : rP H av Γ σ cs) (i : Nat) : ∃ c r, rP H av (setS Γ i none) σ r ∧ cs.Perm (c ++ r) := by
  cases e : getS Γ i with
  | some o =>
    obtain ⟨v, c, r, _, _, e3, e4⟩ := h.take e
    exact ⟨c, r, e3, e4⟩
  | none =>
    refine ⟨[], cs, ?_, .refl _⟩
    rcases setS_same Γ i e with z | z
    · rw [z]; exact h
    · rw [setS_out _ _ _ z]; exact h
theorem rP.any {H : Hp} {av : Addr → Prop} {Γ : En} {σ : L2.St} {cs : List Addr} {i : Nat} {x : Option V} (h : rP H av Γ σ cs) (e : getS Γ i = none) : rP H av Γ (σ.set i x) cs := by
  obtain ⟨c0, p, h⟩ := h
  exact ⟨c0, p, h.any e⟩
/-- a slot set anew -/
theorem rP.set {H : Hp} {av : Addr → Prop} {o : O} {v : V} {c : List Addr} {Γ : En} {σ : L2.St} {cs : List Addr} (h : rP H av Γ σ cs) (i : Nat) (ho : rO H av o v c) : ∃ d r, rP H av (setS Γ i (some o)) (σ.set i (some v)) r ∧ (c ++ cs).Perm (d ++ r) := by
  obtain ⟨d, r, h1, h2⟩ := h.drop i
  by_cases hl : i < Γ.length
  · refine ⟨d, c ++ r, ?_, ?_⟩
    · have := h1.put ho (getS_none Γ i) (by rw [setS_len]; exact hl)
      rwa [setS_set] at this
    · refine (h2.append_left c).trans ?_
      rw [← List.append_assoc, ← List.append_assoc]
      exact (List.perm_append_comm).append_right _
  · refine ⟨c ++ d, r, ?_, ?_⟩
    · rw [setS_out _ _ _ (by omega)] at h1 ⊢
      exact h1.any (by rw [getS_eq, List.getElem?_eq_none (by omega)]; rfl)
    · rw [List.append_assoc]
      exact h2.append_left c
/-- what stands where, as data -/
theorem getS_e : ∀ (Γ : En) (i : Nat), getS (eEnv Γ) i = (getS Γ i).map er
  | [], _ => rfl
  | _ :: _, 0 => rfl
  | _ :: Γ, i + 1 => getS_e Γ i
theorem eEnv_len (Γ : En) : (eEnv Γ).length = Γ.length := by simp [eEnv]
theorem rP.env {H : Hp} {av av' : Addr → Prop} {Γ : En} {σ : L2.St} {cs : List Addr} (h : rP H av Γ σ cs) (w : ∀ a, av a → av' a) (hc : ∀ a ∈ cs, av' a) (is : List Nat) : EnvR H av' (eEnv Γ) σ is := by
  refine ⟨by rw [eEnv_len]; exact h.len, fun i _ d e => ?_⟩
  rw [getS_e] at e
  cases eg : getS Γ i with
  | none => rw [eg] at e; cases e
  | some o =>
    rw [eg] at e
    simp only [Option.map_some, Option.some.injEq] at e
    subst e
    obtain ⟨v, c, r, e1, e2, _, e4⟩ := h.take eg
    exact ⟨v, e1, e2.rv w fun a ha => hc a (e4.mem_iff.mpr (by simp [ha]))⟩
/-- the cells are lists or dicts -/
theorem rO.cells {H : Hp} {av : Addr → Prop} : ∀ (o : O) {v : V} {cs : List Addr}, rO H av o v cs → ∀ a ∈ cs, (∃ xs, H a = some (.lst xs)) ∨ ∃ kvs, H a = some (.dK kvs) := by
  intro o
  refine O.rec (motive_1 := fun o => ∀ {v : V} {cs : List Addr}, rO H av o v cs → ∀ a ∈ cs, (∃ xs, H a = some (.lst xs)) ∨ ∃ kvs, H a = some (.dK kvs))
    (motive_2 := fun os => ∀ {vs : List V} {cs : List Addr}, rOs H av os vs cs → ∀ a ∈ cs, (∃ xs, H a = some (.lst xs)) ∨ ∃ kvs, H a = some (.dK kvs)) ?_ ?_ ?_ ?_ ?_ ?_ o
  · intro d v cs h a ha
    simp only [rO] at h
    rw [h.2] at ha; cases ha
  · intro os ih v cs h a ha
    simp only [rO] at h
    obtain ⟨b, vs, cs', e1, e2, e3, h⟩ := h
    subst e3
    rcases List.mem_cons.mp ha with rfl | ha
    · exact .inl ⟨_, e2⟩
    · exact ih h a ha
  · intro os ih v cs h a ha
    simp only [rO] at h
    obtain ⟨b, vs, e1, e2, h⟩ := h
    exact ih h a ha
  · intro ps v cs h a ha
    simp only [rO] at h
    obtain ⟨b, kvs, e1, e2, e3, h⟩ := h
    subst e3
    obtain rfl := List.mem_singleton.mp ha
    exact .inr ⟨_, e2⟩
  · intro vs cs h a ha
    simp only [rOs] at h
    rw [h.2] at ha; cases ha
  · intro o os ih1 ih2 vs cs h a ha
    simp only [rOs] at h
    obtain ⟨v, vs', c1, c2, e1, e2, h1, h2⟩ := h
    subst e2
    rcases List.mem_append.mp ha with z | z
    · exact ih1 h1 a z
    · exact ih2 h2 a z
theorem rS.cells {H : Hp} {av : Addr → Prop} : ∀ {Γ : En} {σ : L2.St} {cs : List Addr}, rS H av Γ σ cs → ∀ a ∈ cs, (∃ xs, H a = some (.lst xs)) ∨ ∃ kvs, H a = some (.dK kvs)
  | [], _, _, h, a, ha => by
    simp only [rS] at h
    subst h; cases ha
  | none :: Γ, _, _, h, a, ha => by
    obtain ⟨x, σ', rfl, h⟩ := h
    exact rS.cells h a ha
  | some o :: Γ, _, _, h, a, ha => by
    obtain ⟨v, σ', c1, c2, rfl, rfl, h1, h2⟩ := h
    rcases List.mem_append.mp ha with z | z
    · exact rO.cells o h1 a z
    · exact rS.cells h2 a z

/-! ### the state since a heap H0 -/
structure StR (H0 H : Hp) (av : Addr → Prop) (Γ : En) (σ : L2.St) (cs : List Addr) : Prop where
  same : Same H0 H
  nd : cs.Nodup
  new : ∀ a ∈ cs, H0 a = none
  rel : rP H (fun a => av a ∧ a ∉ cs) Γ σ cs
theorem StR.there {H0 H : Hp} {av : Addr → Prop} {Γ : En} {σ : L2.St} {cs : List Addr} (h : StR H0 H av Γ σ cs) : ∀ a ∈ cs, H a ≠ none := h.rel.there.2
theorem StR.avc {H0 H : Hp} {av : Addr → Prop} {Γ : En} {σ : L2.St} {cs : List Addr} (h : StR H0 H av Γ σ cs) (nw : New H0 av) : ∀ a ∈ cs, av a := fun a ha => nw a (h.new a ha)
/-- the heap grown -/
theorem StR.grow {H0 H H' : Hp} {av : Addr → Prop} {Γ : En} {σ : L2.St} {cs : List Addr} (h : StR H0 H av Γ σ cs) (s : Same H H') : StR H0 H' av Γ σ cs := ⟨h.same.trans s, h.nd, h.new, h.rel.same s⟩
/-- everything may be read -/
theorem StR.full {H0 H : Hp} {av : Addr → Prop} {Γ : En} {σ : L2.St} {cs : List Addr} (h : StR H0 H av Γ σ cs) (nw : New H0 av) (is : List Nat) : EnvR H av (eEnv Γ) σ is := h.rel.env (fun _ x => x.1) (h.avc nw) is
/-- a list of cells got smaller by a part -/
theorem part_sub {cs c r : List Addr} (p : cs.Perm (c ++ r)) : (∀ a ∈ r, a ∈ cs) ∧ (cs.Nodup → r.Nodup) ∧ (cs.Nodup → ∀ a ∈ c, a ∉ r) :=
  ⟨fun a ha => p.mem_iff.mpr (by simp [ha]), fun n => (List.nodup_append.mp (p.nodup_iff.mp n)).2.1, fun n a ha hr => (List.nodup_append.mp (p.nodup_iff.mp n)).2.2 a ha a hr rfl⟩
theorem StR.drop {H0 H : Hp} {av : Addr → Prop} {Γ : En} {σ : L2.St} {cs : List Addr} (h : StR H0 H av Γ σ cs) (i : Nat) : ∃ r, StR H0 H av (setS Γ i none) σ r ∧ ∀ a ∈ r, a ∈ cs := by
  obtain ⟨c, r, h1, h2⟩ := h.rel.drop i
  obtain ⟨s1, s2, s3⟩ := part_sub h2
  exact ⟨r, ⟨h.same, s2 h.nd, fun a ha => h.new a (s1 a ha), h1.weak fun a x => ⟨x.1, fun z => x.2 (s1 a z)⟩⟩, s1⟩
/-- one slot shared from here on -/
theorem StR.frz1 {H0 H : Hp} {av : Addr → Prop} {Γ : En} {σ : L2.St} {cs : List Addr} (h : StR H0 H av Γ σ cs) (nw : New H0 av) (i : Nat) : ∃ r, StR H0 H av (setS Γ i ((getS Γ i).map fun o => .sh (er o))) σ r ∧ (∀ a ∈ r, a ∈ cs) := by
  cases e : getS Γ i with
  | none =>
    obtain ⟨r, h1, h2⟩ := h.drop i
    exact ⟨r, h1, h2⟩
  | some o =>
    obtain ⟨v, c, r, e1, e2, e3, e4⟩ := h.rel.take e
    obtain ⟨s1, s2, s3⟩ := part_sub e4
    have hl := getS_lt e
    have e3 := e3.weak (av' := fun a => av a ∧ a ∉ r) fun a x => ⟨x.1, fun z => x.2 (s1 a z)⟩
    have rv : Rv H (fun a => av a ∧ a ∉ r) v (er o) := e2.rv (fun a x => ⟨x.1, fun z => x.2 (s1 a z)⟩) fun a ha => ⟨h.avc nw a (e4.mem_iff.mpr (by simp [ha])), s3 h.nd a ha⟩
    have p := e3.put (o := .sh (er o)) (v := v) (c := []) (by simp only [rO]; exact ⟨rv, trivial⟩) (getS_none Γ i) (by rw [setS_len]; exact hl)
    rw [setS_set] at p
    have hσ : σ.set i (some v) = σ := by
      apply List.ext_getElem?
      intro j
      rw [List.getElem?_set]
      split
      · rename_i q
        subst q
        have : i < σ.length := (List.getElem?_eq_some_iff.mp e1).1
        rw [if_pos this, e1]
      · rfl
    rw [hσ] at p
    exact ⟨r, ⟨h.same, s2 h.nd, fun a ha => h.new a (s1 a ha), p⟩, s1⟩
theorem eEnv_set (Γ : En) (i : Nat) (o : Option O) : eEnv (setS Γ i o) = setS (eEnv Γ) i (o.map er) := by
  rw [setS_eq, setS_eq, eEnv, eEnv, List.map_set]
theorem setS_get {α : Type} (l : List (Option α)) (i : Nat) : setS l i (getS l i) = l := by
  rw [setS_eq, getS_eq]
  apply List.ext_getElem?
  intro j
  rw [List.getElem?_set]
  split
  · rename_i q
    subst q
    split
    · rename_i hl
      rw [List.getElem?_eq_getElem hl]
      rfl
    · rename_i hl
      rw [List.getElem?_eq_none (by omega)]
  · rfl
theorem eEnv_frz : ∀ (is : List Nat) (Γ : En), eEnv (frz is Γ) = eEnv Γ
  | [], Γ => rfl
  | i :: is, Γ => by
    rw [frz, eEnv_frz is, eEnv_set, Option.map_map]
    have : (getS Γ i).map (er ∘ fun o => O.sh (er o)) = getS (eEnv Γ) i := by
      rw [getS_e]
      cases getS Γ i <;> rfl
    rw [this, setS_get]
theorem frz_sh : ∀ (is : List Nat) (Γ : En) (i : Nat), i ∈ is → ∀ o, getS (frz is Γ) i = some o → ∃ d, o = .sh d
  | [], Γ, i, h, _, _ => by cases h
  | j :: is, Γ, i, h, o, e => by
    rw [frz] at e
    by_cases hm : i ∈ is
    · exact frz_sh is _ i hm o e
    · have hj : i = j := by
        rcases List.mem_cons.mp h with z | z
        · exact z
        · exact absurd z hm
      subst hj
      have key : ∀ (is : List Nat) (Γ : En), i ∉ is → getS (frz is Γ) i = getS Γ i := by
        intro is
        induction is with
        | nil => intro Γ _; rfl
        | cons k is ih =>
          intro Γ hk
          simp only [List.mem_cons, not_or] at hk
          rw [frz, ih _ hk.2, getS_set, if_neg (Ne.symm hk.1)]
      rw [key is _ hm, getS_set, if_pos rfl] at e
      split at e
      · cases eg : getS Γ i with
        | none => rw [eg] at e; cases e
        | some o' => rw [eg] at e; cases e; exact ⟨_, rfl⟩
      · cases e
/-- slots shared from here on: they hold nothing owned -/
theorem StR.frz {H0 H : Hp} {av : Addr → Prop} (nw : New H0 av) {σ : L2.St} : ∀ (is : List Nat) {Γ : En} {cs : List Addr}, StR H0 H av Γ σ cs → ∃ r, StR H0 H av (Rp.frz is Γ) σ r ∧ (∀ a ∈ r, a ∈ cs)
  | [], Γ, cs, h => ⟨cs, h, fun _ x => x⟩
  | i :: is, Γ, cs, h => by
    obtain ⟨r, h1, h2⟩ := h.frz1 nw i
    obtain ⟨r', h3, h4⟩ := StR.frz nw is h1
    exact ⟨r', h3, fun a ha => h2 a (h4 a ha)⟩
/-- slots that hold nothing owned may be read apart from the cells -/
theorem StR.envf {H0 H : Hp} {av : Addr → Prop} {Γ : En} {σ : L2.St} {cs : List Addr} (h : StR H0 H av Γ σ cs) {is : List Nat} (hs : ∀ i ∈ is, ∀ o, getS Γ i = some o → ∃ d, o = .sh d) : EnvR H (fun a => av a ∧ a ∉ cs) (eEnv Γ) σ is := by
  refine ⟨by rw [eEnv_len]; exact h.rel.len, fun i hi d e => ?_⟩
  rw [getS_e] at e
  cases eg : getS Γ i with
  | none => rw [eg] at e; cases e
  | some o =>
    obtain ⟨d', rfl⟩ := hs i hi o eg
    rw [eg] at e
    simp only [Option.map_some, Option.some.injEq, er] at e
    subst e
    obtain ⟨v, c, r, e1, e2, _, e4⟩ := h.rel.take eg
    simp only [rO] at e2
    exact ⟨v, e1, e2.1⟩
theorem StR.frzE {H0 H : Hp} {av : Addr → Prop} {Γ : En} {σ : L2.St} {cs : List Addr} (h : StR H0 H av Γ σ cs) (nw : New H0 av) (is : List Nat) : ∃ r, StR H0 H av (Rp.frz is Γ) σ r ∧ (∀ a ∈ r, a ∈ cs) ∧ EnvR H (fun a => av a ∧ a ∉ r) (eEnv Γ) σ is := by
  obtain ⟨r, h1, h2⟩ := StR.frz nw is h
  refine ⟨r, h1, h2, ?_⟩
  have := h1.envf (is := is) (frz_sh is Γ)
  rwa [eEnv_frz] at this
theorem StR.newr {H0 H : Hp} {av : Addr → Prop} {Γ : En} {σ : L2.St} {cs : List Addr} (h : StR H0 H av Γ σ cs) (nw : New H0 av) : New H (fun a => av a ∧ a ∉ cs) := fun a e => ⟨nw a (h.same.free e), fun z => h.there a z e⟩
end Rp

set_option Elab.async false
set_option linter.all false
set_option maxRecDepth 100000
set_option maxHeartbeats 4000000
/-! RpSt2: things that are kept. -/
namespace Rp
open PySem PySem.Spec PyProof.Rows L2

/-! ### a part of the heap left out of account -/
theorem rP.cells {H : Hp} {av : Addr → Prop} {Γ : En} {σ : L2.St} {cs : List Addr} (h : rP H av Γ σ cs) : Cells H cs := by
  obtain ⟨c0, p, h⟩ := h
  exact fun a ha => h.cells a (p.mem_iff.mpr ha)
theorem cut_kept {H H' : Hp} {cs : List Addr} (s : Same (cutH H cs) H') (hc : Cells H cs) : Kept (fun a => a ∉ cs) H H' where
  on := fun a o e h => s a o (by rw [cutH_out h]; exact e)
  fix := fun a o e h1 h2 => s a o (by
    rw [cutH_out]
    · exact e
    · intro hm
      rcases hc a hm with ⟨xs, q⟩ | ⟨kvs, q⟩
      · rw [e] at q; cases q; exact h1 _ rfl
      · rw [e] at q; cases q; exact h2 _ rfl)
theorem StR.frame {H0 H : Hp} {av : Addr → Prop} {Γ : En} {σ : L2.St} {cs : List Addr} (h : StR H0 H av Γ σ cs) : StR (cutH H cs) H av Γ σ cs := ⟨cutH_same, h.nd, fun a ha => cutH_in ha, h.rel⟩
theorem StR.framed {H0 H : Hp} {av : Addr → Prop} {Γ : En} {σ : L2.St} {cs : List Addr} (h : StR H0 H av Γ σ cs) (nw : New H0 av) : New (cutH H cs) av := fun a e => by
  rcases cutH_none e with e | e
  · exact nw a (h.new a e)
  · exact nw a (h.same.free e)
/-- since the start, from since a later time -/
theorem StR.unsame {H0 H H' : Hp} {av : Addr → Prop} {Γ : En} {σ : L2.St} {cs : List Addr} (h : StR H0 H av Γ σ cs) (s : Same (cutH H cs) H') : Same H0 H' := fun a o e => by
  refine s a o ?_
  rw [cutH_out fun z => by rw [h.new a z] at e; cases e]
  exact h.same a o e
theorem StR.unnew {H0 H : Hp} {av : Addr → Prop} {Γ : En} {σ : L2.St} {cs : List Addr} (h : StR H0 H av Γ σ cs) {a : Addr} (e : cutH H cs a = none) : H0 a = none := by
  rcases cutH_none e with e | e
  · exact h.new a e
  · exact h.same.free e
theorem StR.unframe {H0 H H' : Hp} {av : Addr → Prop} {Γ Γ' : En} {σ σ' : L2.St} {cs cs' : List Addr} (h : StR H0 H av Γ σ cs) (h' : StR (cutH H cs) H' av Γ' σ' cs') : StR H0 H' av Γ' σ' cs' := ⟨h.unsame h'.same, h'.nd, fun a ha => h.unnew (h'.new a ha), h'.rel⟩

/-! ### a thing in the hand, and the slots -/
structure StK (H0 H : Hp) (av : Addr → Prop) (Γ : En) (σ : L2.St) (o : O) (v : V) (c cs : List Addr) : Prop where
  same : Same H0 H
  nd : (c ++ cs).Nodup
  new : ∀ a ∈ c ++ cs, H0 a = none
  rel : rP H (fun a => av a ∧ a ∉ c ++ cs) Γ σ cs
  val : rO H (fun a => av a ∧ a ∉ c ++ cs) o v c
structure StKs (H0 H : Hp) (av : Addr → Prop) (Γ : En) (σ : L2.St) (os : List O) (vs : List V) (c cs : List Addr) : Prop where
  same : Same H0 H
  nd : (c ++ cs).Nodup
  new : ∀ a ∈ c ++ cs, H0 a = none
  rel : rP H (fun a => av a ∧ a ∉ c ++ cs) Γ σ cs
  val : rOs H (fun a => av a ∧ a ∉ c ++ cs) os vs c
/-- the slots alone -/
theorem StK.slots {H0 H : Hp} {av : Addr → Prop} {Γ : En} {σ : L2.St} {o : O} {v : V} {c cs : List Addr} (h : StK H0 H av Γ σ o v c cs) : StR H0 H (fun a => av a ∧ a ∉ c) Γ σ cs :=
  ⟨h.same, (List.nodup_append.mp h.nd).2.1, fun a ha => h.new a (by simp [ha]), h.rel.weak fun a x => ⟨⟨x.1, fun z => x.2 (by simp [z])⟩, fun z => x.2 (by simp [z])⟩⟩
def PK (H0 H : Hp) (av : Addr → Prop) (σ : L2.St) (p : O × En) (Q : VK) : Prop := ∀ v H' c cs, Same H H' → StK H0 H' av p.2 σ p.1 v c cs → Q v H'
def PKs (H0 H : Hp) (av : Addr → Prop) (σ : L2.St) (p : List O × En) (Q : List V → Hp → Prop) : Prop := ∀ vs H' c cs, Same H H' → StKs H0 H' av p.2 σ p.1 vs c cs → Q vs H'
def tK (G : Cfg) (e : Ex) : TE := fun σ H Q => ∃ (H0 : Hp) (av : Addr → Prop) (Γ : En) (cs : List Addr), StR H0 H av Γ σ cs ∧ New H0 av ∧ Ans G σ H (evO G.Φ G.gt e Γ) fun p => PK H0 H av σ p Q
def tKs (G : Cfg) (es : Exs) : TA := fun σ H Q => ∃ (H0 : Hp) (av : Addr → Prop) (Γ : En) (cs : List Addr), StR H0 H av Γ σ cs ∧ New H0 av ∧ Ans G σ H (evOs G.Φ G.gt es Γ) fun p => PKs H0 H av σ p Q
theorem New.here {H0 H : Hp} {av : Addr → Prop} (nw : New H0 av) (s : Same H0 H) : New H av := fun a e => nw a (s.free e)
def kept4 : Ex → Bool
  | .mv _ => true | .mvi _ _ => true | .lst _ => true | .tup _ => true | .sortm _ => true | _ => false
theorem evO_def (Φ : Nat → List O → Res O) (gt : Nat → Option D) {e : Ex} (h : kept4 e = false) (Γ : En) : evO Φ gt e Γ = (ev Φ gt (eEnv Γ) e).bind fun o => .ok (o, if clean o then Γ else frz (srcs e) Γ) := by
  cases e <;> first | rfl | (simp [kept4] at h; done) | (simp only [evO]; done)
/-- a result just made, or shared with what was read -/
theorem tK_red {G : Cfg} {e : Ex} (h : kept4 e = false) : ∀ σ H Q, tK G e σ H Q → tE G e σ H Q := by
  intro σ H Q ⟨H0, av, Γ, cs, st, nw, q⟩
  rw [evO_def _ _ h] at q
  cases er1 : ev G.Φ G.gt (eEnv Γ) e with
  | bad => rw [er1] at q; exact q.elim
  | exc c p => rw [er1] at q; exact ⟨eEnv Γ, av, st.full nw _, nw.here st.same, by rw [er1]; exact q⟩
  | ok o =>
    rw [er1, Res.bind_ok] at q
    have q : PK H0 H av σ (o, if clean o then Γ else frz (srcs e) Γ) Q := q
    by_cases hc : clean o = true
    · rw [if_pos hc] at q
      refine ⟨eEnv Γ, av, st.full nw _, nw.here st.same, ?_⟩
      rw [er1]
      intro v H' c s nd n r
      have dj : ∀ a ∈ c, a ∉ cs := fun a ha hm => st.there a hm (n a ha)
      refine q v H' c cs s ⟨st.same.trans s, List.nodup_append.mpr ⟨nd, st.nd, fun a ha b hb e => dj a ha (e ▸ hb)⟩, fun a ha => ?_, ?_, rO.clean_any hc r⟩
      · rcases List.mem_append.mp ha with z | z
        · exact st.same.free (n a z)
        · exact st.new a z
      · exact (st.rel.there.1.same s).weak fun a x => ⟨x.1.1, fun z => by
          rcases List.mem_append.mp z with z | z
          · exact x.2 (n a z)
          · exact x.1.2 z⟩
    · rw [if_neg hc] at q
      obtain ⟨r, h1, h2, h3⟩ := st.frzE nw (srcs e)
      refine ⟨eEnv Γ, _, h3, h1.newr nw, ?_⟩
      rw [er1]
      intro v H' c s nd n rr
      have dj : ∀ a ∈ c, a ∉ r := fun a ha hm => h1.there a hm (n a ha)
      refine q v H' c r s ⟨st.same.trans s, List.nodup_append.mpr ⟨nd, h1.nd, fun a ha b hb e => dj a ha (e ▸ hb)⟩, fun a ha => ?_, ?_, rr.weak fun a x => ⟨x.1.1, fun z => ?_⟩⟩
      · rcases List.mem_append.mp ha with z | z
        · exact st.same.free (n a z)
        · exact h1.new a z
      · exact (h1.rel.there.1.same s).weak fun a x => ⟨x.1.1, fun z => by
          rcases List.mem_append.mp z with z | z
          · exact x.2 (n a z)
          · exact x.1.2 z⟩
      · rcases List.mem_append.mp z with z | z
        · exact x.2 z
        · exact x.1.2 z
/-- a name's thing goes out of its slot -/
theorem StR.moved {H0 H : Hp} {av : Addr → Prop} {Γ : En} {σ : L2.St} {cs : List Addr} (h : StR H0 H av Γ σ cs) {i : Nat} {o : O} (e : getS Γ i = some o) : ∃ v c r, σ[i]? = some (some v) ∧ StK H0 H av (setS Γ i none) σ o v c r := by
  obtain ⟨v, c, r, e1, e2, e3, e4⟩ := h.rel.take e
  have w : ∀ a, av a ∧ a ∉ cs → av a ∧ a ∉ c ++ r := fun a x => ⟨x.1, fun z => x.2 (e4.mem_iff.mpr z)⟩
  exact ⟨v, c, r, e1, h.same, e4.nodup_iff.mp h.nd, fun a ha => h.new a (e4.mem_iff.mpr ha), e3.weak w, e2.weak w⟩
theorem StR.read {H0 H : Hp} {av : Addr → Prop} {Γ : En} {σ : L2.St} {cs : List Addr} (h : StR H0 H av Γ σ cs) {i : Nat} {d : D} (e : getS Γ i = some (.sh d)) : ∃ v, σ[i]? = some (some v) ∧ StK H0 H av Γ σ (.sh d) v [] cs := by
  obtain ⟨v, c, r, e1, e2, e3, e4⟩ := h.rel.take e
  simp only [rO] at e2
  obtain ⟨e2, rfl⟩ := e2
  exact ⟨v, e1, h.same, h.nd, h.new, h.rel, by simp only [rO]; exact ⟨e2, trivial⟩⟩
theorem tK_mv {G : Cfg} {i : Nat} : ∀ σ H Q, tK G (.mv i) σ H Q → tVar i σ H Q := by
  intro σ H Q ⟨H0, av, Γ, cs, st, nw, q⟩
  simp only [evO] at q
  cases eg : getS Γ i with
  | none => rw [eg] at q; exact q.elim
  | some o =>
    rw [eg] at q
    cases o with
    | sh d =>
      obtain ⟨v, e1, k⟩ := st.read eg
      exact ⟨v, e1, q v H [] cs (Same.refl H) k⟩
    | lst os =>
      obtain ⟨v, c, r, e1, k⟩ := st.moved eg
      exact ⟨v, e1, q v H c r (Same.refl H) k⟩
    | tup os =>
      obtain ⟨v, c, r, e1, k⟩ := st.moved eg
      exact ⟨v, e1, q v H c r (Same.refl H) k⟩
    | dic ps =>
      obtain ⟨v, c, r, e1, k⟩ := st.moved eg
      exact ⟨v, e1, q v H c r (Same.refl H) k⟩
/-- one of several owned things -/
theorem rOs.get {H : Hp} {av : Addr → Prop} : ∀ {os : List O} {vs : List V} {cs : List Addr} {j : Nat} {o : O}, rOs H av os vs cs → os[j]? = some o → ∃ v c1 c c2, vs[j]? = some v ∧ cs = c1 ++ (c ++ c2) ∧ rO H av o v c
  | [], _, _, _, _, _, e => by simp at e
  | o1 :: os, _, _, 0, _, h, e => by
    simp only [rOs] at h
    obtain ⟨v, vs', c1, c2, rfl, rfl, h1, h2⟩ := h
    simp at e; subst e
    exact ⟨v, [], c1, c2, rfl, rfl, h1⟩
  | o1 :: os, _, _, j + 1, _, h, e => by
    simp only [rOs] at h
    obtain ⟨v, vs', c1, c2, rfl, rfl, h1, h2⟩ := h
    obtain ⟨v', d1, d, d2, e1, e2, e3⟩ := rOs.get (j := j) h2 (by simpa using e)
    subst e2
    exact ⟨v', c1 ++ d1, d, d2, by simpa using e1, by simp, e3⟩
end Rp

set_option Elab.async false
set_option linter.all false
set_option maxRecDepth 100000
set_option maxHeartbeats 4000000
/-! RpTr: owned things, one by one. -/
namespace Rp
open PySem PySem.Spec PyProof.Rows L2

/-! ### parts of lists -/
def Sub {α : Type} (l' l : List α) : Prop := ∃ r, l.Perm (r ++ l')
theorem Sub.refl {α : Type} (l : List α) : Sub l l := ⟨[], .refl _⟩
theorem Sub.of_sublist {α : Type} {l' l : List α} (h : l'.Sublist l) : Sub l' l := by
  induction h with
  | slnil => exact ⟨[], .refl _⟩
  | cons a h ih =>
    obtain ⟨r, p⟩ := ih
    exact ⟨a :: r, by simpa using p⟩
  | cons_cons a h ih =>
    obtain ⟨r, p⟩ := ih
    exact ⟨r, (p.cons a).trans List.perm_middle.symm⟩
theorem Sub.trans {α : Type} {a b c : List α} (h : Sub a b) (k : Sub b c) : Sub a c := by
  obtain ⟨r, p⟩ := h
  obtain ⟨q, p'⟩ := k
  exact ⟨q ++ r, p'.trans (by rw [List.append_assoc]; exact p.append_left q)⟩
theorem Sub.of_perm {α : Type} {l' l : List α} (h : l.Perm l') : Sub l' l := ⟨[], h⟩
theorem Sub.flat {α β : Type} (f : α → List β) {l' l : List α} (h : Sub l' l) : Sub (l'.flatMap f) (l.flatMap f) := by
  obtain ⟨r, p⟩ := h
  refine ⟨r.flatMap f, ?_⟩
  rw [← List.flatMap_append]
  exact p.flatMap_right f
theorem Sub.mem {α : Type} {l' l : List α} (h : Sub l' l) {x : α} (hx : x ∈ l') : x ∈ l := by
  obtain ⟨r, p⟩ := h
  exact p.mem_iff.mpr (by simp [hx])

/-! ### owned things, one by one -/
abbrev Tr := O × V × List Addr
def trO (H : Hp) (av : Addr → Prop) (ts : List Tr) : Prop := ∀ t ∈ ts, rO H av t.1 t.2.1 t.2.2
theorem rOs_tr {H : Hp} {av : Addr → Prop} : ∀ {os : List O} {vs : List V} {cs : List Addr}, rOs H av os vs cs ↔ ∃ ts : List Tr, os = ts.map (·.1) ∧ vs = ts.map (·.2.1) ∧ cs = ts.flatMap (·.2.2) ∧ trO H av ts
  | [], vs, cs => by
    simp only [rOs]
    refine ⟨fun ⟨h1, h2⟩ => ⟨[], rfl, h1, h2, fun _ h => by cases h⟩, fun ⟨ts, h1, h2, h3, _⟩ => ?_⟩
    cases ts with
    | nil => exact ⟨h2, h3⟩
    | cons t ts => cases h1
  | o :: os, vs, cs => by
    simp only [rOs]
    constructor
    · rintro ⟨v, vs', c1, c2, rfl, rfl, h1, h2⟩
      obtain ⟨ts, rfl, rfl, rfl, ht⟩ := rOs_tr.mp h2
      refine ⟨(o, v, c1) :: ts, rfl, rfl, rfl, fun t h => ?_⟩
      rcases List.mem_cons.mp h with rfl | h
      · exact h1
      · exact ht t h
    · rintro ⟨ts, h1, h2, h3, ht⟩
      cases ts with
      | nil => cases h1
      | cons t ts =>
        cases h1
        exact ⟨t.2.1, ts.map (fun t => t.2.1), t.2.2, ts.flatMap (fun t => t.2.2), by simpa using h2, by simpa using h3, ht t (by simp), rOs_tr.mpr ⟨ts, rfl, rfl, rfl, fun u hu => ht u (by simp [hu])⟩⟩
end Rp

set_option Elab.async false
set_option linter.all false
set_option maxRecDepth 100000
set_option maxHeartbeats 4000000
/-! RpSortm: sorted(a list that is given up): its things go over into the new one. -/
namespace Rp
open PySem PySem.Spec PyProof.Rows L2
def leT (a b : Tr) : Bool := PySem.W.dataLe false (fun t : Tr => er t.1) a b
def rSortO : List V → Hp → VK → Prop := fun vs H Q => ∃ (a : Addr) (av : Addr → Prop) (ts : List Tr), vs = [.ref a] ∧ H a = some (.lst (ts.map fun t => t.2.1)) ∧ trO H av ts ∧ sortOk (ts.map fun t => er t.1) = true ∧
  ∀ q, H q = none → Q (.ref q) (upd H q (.lst ((ts.mergeSort (PySem.W.dataLe false fun t : Tr => er t.1)).map fun t => t.2.1)))
section
variable {M : MC} {G : Cfg} {X : Cx}
theorem trReads {pins : List (Addr × Obj)} {σ : L2.St} {H : Hp} {s : Shared} {av : Addr → Prop} (I : Inv X pins σ H s) : ∀ {ts : List Tr} {its : List Value}, (∀ t ∈ ts, (er t.1).canLay0 = true) → trO H av ts → Vals (ts.map fun t => t.2.1) its →
    PySem.W.EachIs (fun v (t : Tr) => RelV t.2.1 v) its ts ∧ PySem.W.EachIs (fun v (t : Tr) => ∃ as, Reads s.heap v (er t.1) as) its ts
  | [], _, _, _, r => by cases r; exact ⟨.nil, .nil⟩
  | t :: ts, _, hc, h, r => by
    cases r with
    | cons r1 r2 =>
      obtain ⟨e1, e2⟩ := trReads I (fun t' ht' => hc t' (by simp [ht'])) (fun t' ht' => h t' (by simp [ht'])) r2
      have rv : Rv H (fun _ => True) t.2.1 (er t.1) := (h t (by simp)).rv (fun _ _ => trivial) fun _ _ => trivial
      exact ⟨.cons r1 e1, .cons (Dp.reads I _ _ _ (rv.dp (hc t (by simp))) r1) e2⟩
theorem trVals : ∀ {ts : List Tr} {out : List Value}, PySem.W.EachIs (fun v (t : Tr) => RelV t.2.1 v) out ts → Vals (ts.map fun t => t.2.1) out
  | [], _, h => by cases h; exact .nil
  | t :: ts, _, h => by
    cases h with
    | cons h1 h2 => exact .cons h1 (trVals h2)
theorem bi_sortedO (hu : X.A.units + 65 < cLine) : CallR X (.builtin "sorted") rSortO := by
  intro pins s σ H vs us Q I rx ⟨a, av, ts, e, ha, ht, hz, p⟩
  subst e
  obtain ⟨its, rv, hl, hz2⟩ := I.list (.inl (.inl ha))
  obtain ⟨u, rfl, ru⟩ := vals1 rx
  obtain rfl : u = Value.ref a := ru
  simp only [sortOk, Bool.and_eq_true, Bool.or_eq_true, List.all_eq_true, decide_eq_true_eq] at hz
  obtain ⟨⟨z1, z2⟩, z3⟩ := hz
  have hm : ∀ t ∈ ts, er t.1 ∈ ts.map fun t => er t.1 := fun t h => List.mem_map.mpr ⟨t, h, rfl⟩
  obtain ⟨q1, q2⟩ := trReads I (fun t h => (z3 _ (hm t h)).1) ht rv
  refine PySem.W.sorted_data (enc := fun t : Tr => er t.1) hl.isList q1 q2 ?_ ?_ (by rw [List.length_map] at hz2; exact hz2) (fun b hb => ?_) fun out hlen hout => ?_
  · exact z1
  · rcases z2 with z2 | z2
    · exact .inl fun d hd => isTup_of (z2 d hd)
    · refine .inr fun d hd => ?_
      have := z2 d hd
      exact ⟨fun q => by subst q; simp at this, fun xs q => by subst q; simp at this⟩
  · have := (z3 _ (hm b hb)).2
    show X.A.units + 2 + (er b.1).depth < cLine
    omega
  · have hnew : H (s.heap.objs.size + 1) = none := I.hok.fresh (by omega)
    obtain ⟨c, hc⟩ := sortedAll_at s.heap its out.toArray
    refine ⟨.ref (s.heap.objs.size + 1), upd H (s.heap.objs.size + 1) (.lst ((ts.mergeSort (PySem.W.dataLe false fun t : Tr => er t.1)).map fun t => t.2.1)), I.laid (t' := s.toks) (fun b q hq => sortedAll_old hq) (by omega) ⟨?_, out, c, trVals hout, hc⟩, rfl, p _ hnew⟩
    rw [List.length_map, List.length_mergeSort]
    rw [List.length_map] at hz2
    exact hz2
theorem sortO_map (ts : List Tr) : sortO (ts.map (·.1)) = (ts.mergeSort (PySem.W.dataLe false fun t : Tr => er t.1)).map (·.1) := by
  unfold sortO
  symm
  exact List.map_mergeSort fun a _ b _ => rfl
theorem se_sortm {sc : Scope} {i : Nat} {x y : Str} {p p2 pos : Pos} (h : bltB sc x "sorted" = true) (hv : varB M sc i y = true) (g : Good M G X) (hs : ScOk X sc) : PE X (.Call (.Name x p) [.Name y p2] [] pos) (tK G (.sortm i)) := by
  simp only [bltB, Bool.and_eq_true, beq_iff_eq] at h
  obtain ⟨h1, h2⟩ := h
  subst h1
  obtain ⟨v1, v2, v3, v4⟩ := varB_of hv g hs
  refine pe_imp (pe_callB (bi_sortedO g.units) (glB_of h2 hs) (g.bi _ (by simp)) (by decide +kernel) (pa_cons (pe_var v1 v2 v3 v4) pa_nil) (by decide) (by decide)) ?_
  intro σ H Q ⟨H0, av, Γ, cs, st, nw, q⟩
  simp only [evO] at q
  cases eg : getS Γ i with
  | none => rw [eg] at q; exact q.elim
  | some o =>
    rw [eg] at q
    cases o with
    | lst os =>
      obtain ⟨v, c, r, e1, k⟩ := st.moved eg
      have q : Ans G σ H (if sortOk (ers os) then .ok (.lst (sortO os), setS Γ i none) else .bad) fun p => PK H0 H av σ p Q := q
      split at q
      · rename_i hz
        have kv := k.val
        simp only [rO] at kv
        obtain ⟨a, vs, cs', rfl, ha, rfl, hos⟩ := kv
        obtain ⟨ts, rfl, rfl, rfl, ht⟩ := rOs_tr.mp hos
        have hers : ers (ts.map (·.1)) = ts.map fun t => er t.1 := by
          rw [ers_map, List.map_map]
          rfl
        rw [hers] at hz
        refine ⟨_, e1, ?_⟩
        show rSortO [.ref a] H Q
        refine ⟨a, _, ts, rfl, ha, ht, hz, fun l nl => ?_⟩
        have q : PK H0 H av σ (.lst (sortO (ts.map (·.1))), setS Γ i none) Q := q
        rw [sortO_map] at q
        have hp : (ts.mergeSort (PySem.W.dataLe false fun t : Tr => er t.1)).Perm ts := List.mergeSort_perm _ _
        generalize ts.mergeSort (PySem.W.dataLe false fun t : Tr => er t.1) = us at q hp ⊢
        have hcp : (us.flatMap fun t => t.2.2).Perm (ts.flatMap fun t => t.2.2) := hp.flatMap_right _
        have kin : ∀ b ∈ (a :: ts.flatMap fun t => t.2.2) ++ r, H b ≠ none := fun b hb e => by
          rcases List.mem_append.mp hb with z | z
          · exact k.val.there.2 b z e
          · exact k.rel.there.2 b z e
        have sub : ∀ b ∈ (us.flatMap fun t => t.2.2) ++ r, b ∈ (a :: ts.flatMap fun t => t.2.2) ++ r := fun b hb => by
          rcases List.mem_append.mp hb with z | z
          · exact List.mem_append_left _ (List.mem_cons_of_mem _ (hcp.mem_iff.mp z))
          · exact List.mem_append_right _ z
        have up := same_new (o := .lst (us.map fun t => t.2.1)) nl
        refine q (.ref l) _ (l :: us.flatMap fun t => t.2.2) r up ⟨st.same.trans up, ?_, fun b hb => ?_, ?_, ?_⟩
        · rw [List.cons_append]
          refine List.nodup_cons.mpr ⟨fun z => kin l (sub l z) nl, ?_⟩
          have nd := k.nd
          rw [List.cons_append] at nd
          exact (hcp.append_right r).nodup_iff.mpr (List.nodup_cons.mp nd).2
        · rw [List.cons_append] at hb
          rcases List.mem_cons.mp hb with rfl | hb
          · exact st.same.free nl
          · exact k.new b (sub b hb)
        · refine (k.rel.there.1.same up).weak fun b x => ⟨x.1.1, fun z => ?_⟩
          rw [List.cons_append] at z
          rcases List.mem_cons.mp z with rfl | z
          · exact x.2 nl
          · exact x.1.2 (sub b z)
        · simp only [rO]
          have hus : rOs H _ (us.map (·.1)) (us.map (·.2.1)) (us.flatMap (·.2.2)) := rOs_tr.mpr ⟨us, rfl, rfl, rfl, fun t h => ht t (hp.mem_iff.mp h)⟩
          refine ⟨l, _, _, rfl, upd_same, rfl, (hus.there.1.same up).weak fun b x => ⟨x.1.1, fun z => ?_⟩⟩
          rw [List.cons_append] at z
          rcases List.mem_cons.mp z with rfl | z
          · exact x.2 nl
          · exact x.1.2 (sub b z)
      · exact q.elim
    | sh d => exact q.elim
    | tup os => exact q.elim
    | dic ps => exact q.elim
end
end Rp

set_option Elab.async false
set_option linter.all false
set_option maxRecDepth 100000
set_option maxHeartbeats 4000000
/-! RpSt3: kept things: displays, lists of them; the theorem over all of them. -/
namespace Rp
open PySem PySem.Spec PyProof.Rows L2

section
variable {M : MC} {G : Cfg} {X : Cx}
theorem se_mvi {i : Nat} {e : Ex} {x : Str} {b' : Expr} {p2 pos : Pos} {sc : Scope} (h : varB M sc i x = true) (g : Good M G X) (hs : ScOk X sc) (hb : SE G X e b') (hp : plainE b' = true) : PE X (.Subscript (.Name x p2) b' pos) (tK G (.mvi i e)) := by
  obtain ⟨h1, h2, h3, h4⟩ := varB_of h g hs
  refine pe_imp (pe_ix ix_seq (pe_var h1 h2 h3 h4) hb.pe (plain_ix hp)) ?_
  intro σ H Q ⟨H0, av, Γ, cs, st, nw, q⟩
  simp only [evO] at q
  cases eg : getS Γ i with
  | none => rw [eg] at q; exact q.elim
  | some o =>
    rw [eg] at q
    cases o with
    | sh d => exact q.elim
    | tup os => exact q.elim
    | dic ps => exact q.elim
    | lst os =>
      obtain ⟨v, c, r, e1, k⟩ := st.moved eg
      refine ⟨v, e1, ?_⟩
      refine tE.use (st.full nw _) (nw.here st.same) q.bind fun ok hk v2 H1 c1 s1 nd1 n1 r1 => ?_
      have hk := hk.2
      split at hk
      · rename_i z ez
        have rz := rO.er r1 (nw.here st.same) n1
        rw [ez] at rz
        cases rz
        obtain ⟨o, eo, -, hk⟩ := hk.bind.of
        have hk : PK H0 H av σ (o, setS Γ i none) Q := hk
        have val := k.val
        simp only [rO] at val
        obtain ⟨a, vs, cs', rfl, ha, rfl, hos⟩ := val
        rw [Option.bind_eq_some_iff] at eo
        obtain ⟨j, ej, eo⟩ := eo
        obtain ⟨w, d1, d, d2, ew, ed, rw'⟩ := hos.get eo
        subst ed
        have hl := hos.length
        refine .inl ⟨a, vs, z, w, rfl, rfl, .inl (.inl (s1 _ _ ha)), ?_, ?_⟩
        · unfold atI
          rw [hl]
          show (pix os.length z).bind _ = _
          rw [ej]
          exact ew
        · have sub : ∀ b, b ∈ d ++ r → b ∈ (a :: (d1 ++ (d ++ d2))) ++ r := fun b hb => by
            rcases List.mem_append.mp hb with z | z
            · simp [z]
            · simp [z]
          have nd : (d ++ r).Nodup := by
            have := k.nd
            rw [List.cons_append, List.nodup_cons] at this
            have := this.2
            rw [List.append_assoc, List.append_assoc] at this
            have := (List.nodup_append.mp this).2.1
            have s : (d ++ r).Sublist (d ++ (d2 ++ r)) := (List.Sublist.refl d).append (List.sublist_append_right d2 r)
            exact this.sublist s
          exact hk w H1 d r s1 ⟨k.same.trans s1, nd, fun b hb => k.new b (sub b hb), (k.rel.weak fun b x => ⟨x.1, fun z => x.2 (sub b z)⟩).same s1, (rw'.weak fun b x => ⟨x.1, fun z => x.2 (sub b z)⟩).same s1⟩
      · exact hk.elim
theorem kl_nil : PA X [] (tKs G .nil) := by
  refine pa_imp pa_nil ?_
  intro σ H Q ⟨H0, av, Γ, cs, st, nw, q⟩
  simp only [evOs] at q
  exact q [] H [] cs (Same.refl H) ⟨st.same, st.nd, st.new, st.rel, by simp only [rOs]; exact ⟨trivial, trivial⟩⟩
theorem kl_cons {e : Ex} {es : Exs} {a : Expr} {as : List Expr} (h1 : PE X a (tK G e)) (hp : plainE a = true) (h2 : PA X as (tKs G es)) : PA X (a :: as) (tKs G (.cons e es)) := by
  refine pa_imp (pa_cons h1 h2 (plain_star hp _ _)) ?_
  intro σ H Q ⟨H0, av, Γ, cs, st, nw, q⟩
  simp only [evOs] at q
  refine ⟨H0, av, Γ, cs, st, nw, q.bind.imp fun p hp => ?_⟩
  intro v H1 c1 cs1 s1 k1
  obtain ⟨o, Γ1⟩ := p
  have sl := k1.slots
  have nd1 := List.nodup_append.mp k1.nd
  have nwc : New H0 av := nw
  -- the rest, with the first thing left out of account
  have fr := sl.frame
  have nf : New (cutH H1 cs1) (fun a => av a ∧ a ∉ c1) := fun b e => by
    rcases cutH_none e with e | e
    · exact ⟨nw b (k1.new b (by simp [e])), fun z => nd1.2.2 b z b e rfl⟩
    · refine ⟨nw b (k1.same.free e), fun z => ?_⟩
      rcases rO.cells o k1.val b z with ⟨_, q⟩ | ⟨_, q⟩ <;> (rw [e] at q; cases q)
  have hH : Ans G σ H1 (evOs G.Φ G.gt es Γ1) fun q => PKs H0 H av σ (o :: q.1, q.2) Q := (hp.2.bind.imp fun q hq => hq.2).same s1
  refine ⟨cutH H1 cs1, _, Γ1, cs1, fr, nf, hH.imp fun q hq => ?_⟩
  intro vs H2 c2 cs2 s2 k2
  have kp := cut_kept k2.same sl.rel.cells
  have sub : ∀ b, b ∈ c2 ++ cs2 → b ∈ cs1 ∨ H1 b = none := fun b hb => cutH_none (k2.new b hb)
  have c1in : ∀ b ∈ c1, H1 b ≠ none := fun b z e => by
    rcases rO.cells o k1.val b z with ⟨_, q⟩ | ⟨_, q⟩ <;> (rw [e] at q; cases q)
  have dj : ∀ b ∈ c1, b ∉ c2 ++ cs2 := fun b hb hm => by
    rcases sub b hm with z | z
    · exact nd1.2.2 b hb b z rfl
    · exact c1in b hb z
  refine hq (v :: vs) H2 (c1 ++ c2) cs2 (s1.trans s2) ⟨sl.unsame k2.same, ?_, fun b hb => ?_, ?_, ?_⟩
  · rw [List.append_assoc]
    exact List.nodup_append.mpr ⟨nd1.1, k2.nd, fun b hb d hd e => dj b hb (e ▸ hd)⟩
  · rw [List.append_assoc] at hb
    rcases List.mem_append.mp hb with z | z
    · exact k1.new b (by simp [z])
    · exact sl.unnew (k2.new b z)
  · exact k2.rel.weak fun b x => ⟨x.1.1, fun z => by
      rw [List.append_assoc] at z
      rcases List.mem_append.mp z with z | z
      · exact x.1.2 z
      · exact x.2 z⟩
  · simp only [rOs]
    refine ⟨v, vs, c1, c2, rfl, rfl, ?_, k2.val.weak fun b x => ⟨x.1.1, fun z => ?_⟩⟩
    · have t := k1.val.there.1
      refine t.kept (kp.weak fun b x => fun z => x.1.2 (by simp [z])) (fun b x => ⟨x.1.1, fun z => ?_⟩) fun b hb u e => kp.on b u e fun z => nd1.2.2 b hb b z rfl
      rw [List.append_assoc] at z
      rcases List.mem_append.mp z with z | z
      · exact x.1.2 (by simp [z])
      · rcases sub b z with z | z
        · exact x.1.2 (by simp [z])
        · exact x.2 z
    · rw [List.append_assoc] at z
      rcases List.mem_append.mp z with z | z
      · exact x.1.2 z
      · exact x.2 z
theorem kd_lst {es : Exs} {as : List Expr} {pos : Pos} (h : PA X as (tKs G es)) : PE X (.List as pos) (tK G (.lst es)) := by
  refine pe_imp (pe_lst h) ?_
  intro σ H Q ⟨H0, av, Γ, cs, st, nw, q⟩
  simp only [evO] at q
  refine ⟨H0, av, Γ, cs, st, nw, q.bind.imp fun p hp => ?_⟩
  intro vs H1 c cs1 s1 k
  have hp := hp.2
  have hl := k.val.length
  split at hp
  · rename_i hz
    refine ⟨by rw [hl]; exact hz, fun l nl => ?_⟩
    have hq : PK H0 H av σ (.lst p.1, p.2) Q := hp
    have kin : ∀ b ∈ c ++ cs1, H1 b ≠ none := fun b hb e => by
      rcases List.mem_append.mp hb with z | z
      · exact k.val.there.2 b z e
      · exact k.rel.there.2 b z e
    have nin : l ∉ c ++ cs1 := fun z => kin l z nl
    have up := same_new (o := .lst vs) nl
    refine hq (.ref l) _ (l :: c) cs1 (s1.trans up) ⟨k.same.trans up, ?_, fun b hb => ?_, ?_, ?_⟩
    · rw [List.cons_append]
      exact List.nodup_cons.mpr ⟨nin, k.nd⟩
    · rw [List.cons_append] at hb
      rcases List.mem_cons.mp hb with rfl | hb
      · exact k.same.free nl
      · exact k.new b hb
    · refine (k.rel.there.1.same up).weak fun b x => ⟨x.1.1, fun z => ?_⟩
      rw [List.cons_append] at z
      rcases List.mem_cons.mp z with rfl | z
      · exact x.2 nl
      · exact x.1.2 z
    · simp only [rO]
      refine ⟨l, vs, c, rfl, upd_same, rfl, (k.val.there.1.same up).weak fun b x => ⟨x.1.1, fun z => ?_⟩⟩
      rw [List.cons_append] at z
      rcases List.mem_cons.mp z with rfl | z
      · exact x.2 nl
      · exact x.1.2 z
  · exact hp.elim
theorem kd_tup {es : Exs} {as : List Expr} {kk : Nat} {pos : Pos} (h : PA X as (tKs G es)) : PE X (.Tuple as kk pos) (tK G (.tup es)) := by
  refine pe_imp (pe_tup h) ?_
  intro σ H Q ⟨H0, av, Γ, cs, st, nw, q⟩
  simp only [evO] at q
  refine ⟨H0, av, Γ, cs, st, nw, q.bind.imp fun p hp => ?_⟩
  intro vs H1 c cs1 s1 k
  have hp := hp.2
  have hl := k.val.length
  split at hp
  · rename_i hz
    refine ⟨by rw [hl]; exact hz, fun l nl => ?_⟩
    have hq : PK H0 H av σ (.tup p.1, p.2) Q := hp
    have up := same_new (o := .tup vs) nl
    refine hq (.ref l) _ c cs1 (s1.trans up) ⟨k.same.trans up, k.nd, k.new, k.rel.same up, ?_⟩
    simp only [rO]
    exact ⟨l, vs, rfl, upd_same, k.val.same up⟩
  · exact hp.elim
mutual
theorem soundK : ∀ (e : Ex) {sc : Scope} {a : Expr}, mE M sc e a = true → Good M G X → ScOk X sc → PE X a (tK G e)
  | .mv i, sc, a, h, g, hs => by
    cases a with
    | Name x p =>
      obtain ⟨h1, h2, h3, h4⟩ := varB_of (show varB M sc i x = true by simpa only [mE] using h) g hs
      exact pe_imp (pe_var h1 h2 h3 h4) tK_mv
    | _ => simp [mE] at h
  | .mvi i e, sc, a, h, g, hs => by
    cases a with
    | Subscript o b p =>
      cases o with
      | Name x p2 =>
        simp only [mE, Bool.and_eq_true] at h
        exact se_mvi h.1 g hs (soundE e h.2 g hs) (mE_plain h.2)
      | _ => simp [mE] at h
    | _ => simp [mE] at h
  | .lst es, sc, r, h, g, hs => by
    cases r with
    | List as p =>
      simp only [mE] at h
      exact kd_lst (soundKs es h g hs)
    | _ => simp [mE] at h
  | .tup es, sc, r, h, g, hs => by
    cases r with
    | Tuple as k p =>
      simp only [mE] at h
      exact kd_tup (soundKs es h g hs)
    | _ => simp [mE] at h
  | .nul, sc, a, h, g, hs => pe_imp (soundE _ h g hs).pe (tK_red rfl)
  | .var i, sc, a, h, g, hs => pe_imp (soundE _ h g hs).pe (tK_red rfl)
  | .con d, sc, a, h, g, hs => pe_imp (soundE _ h g hs).pe (tK_red rfl)
  | .glob i, sc, a, h, g, hs => pe_imp (soundE _ h g hs).pe (tK_red rfl)
  | .bin op x y, sc, a, h, g, hs => pe_imp (soundE _ h g hs).pe (tK_red rfl)
  | .neg x, sc, a, h, g, hs => pe_imp (soundE _ h g hs).pe (tK_red rfl)
  | .not x, sc, a, h, g, hs => pe_imp (soundE _ h g hs).pe (tK_red rfl)
  | .cmp op x y, sc, a, h, g, hs => pe_imp (soundE _ h g hs).pe (tK_red rfl)
  | .chain op op2 x y z, sc, a, h, g, hs => pe_imp (soundE _ h g hs).pe (tK_red rfl)
  | .and es, sc, a, h, g, hs => pe_imp (soundE _ h g hs).pe (tK_red rfl)
  | .or es, sc, a, h, g, hs => pe_imp (soundE _ h g hs).pe (tK_red rfl)
  | .idx x y, sc, a, h, g, hs => pe_imp (soundE _ h g hs).pe (tK_red rfl)
  | .cut x y z, sc, a, h, g, hs => pe_imp (soundE _ h g hs).pe (tK_red rfl)
  | .call f es, sc, a, h, g, hs => pe_imp (soundE _ h g hs).pe (tK_red rfl)
  | .calld f es, sc, a, h, g, hs => pe_imp (soundE _ h g hs).pe (tK_red rfl)
  | .sortm i, sc, a, h, g, hs => by
    cases a with
    | Call fn as kws p =>
      cases fn with
      | Name x p2 =>
        cases as with
        | nil => simp [mE] at h
        | cons b bs =>
          cases bs with
          | cons _ _ => cases b <;> simp [mE] at h
          | nil =>
            cases kws with
            | cons _ _ => cases b <;> simp [mE] at h
            | nil =>
              cases b with
              | Name y p3 =>
                simp only [mE, Bool.and_eq_true] at h
                exact se_sortm h.1 h.2 g hs
              | _ => simp [mE] at h
      | _ => simp [mE] at h
    | _ => simp [mE] at h
  | .bi f es, sc, a, h, g, hs => pe_imp (soundE _ h g hs).pe (tK_red rfl)
  | .mt m x es, sc, a, h, g, hs => pe_imp (soundE _ h g hs).pe (tK_red rfl)
  | .isi x ts, sc, a, h, g, hs => pe_imp (soundE _ h g hs).pe (tK_red rfl)
  | .lset x, sc, a, h, g, hs => pe_imp (soundE _ h g hs).pe (tK_red rfl)
  | .revl x, sc, a, h, g, hs => pe_imp (soundE _ h g hs).pe (tK_red rfl)
  | .comp elt tg it cond own, sc, a, h, g, hs => pe_imp (soundE _ h g hs).pe (tK_red rfl)
  | .dnew, sc, a, h, g, hs => pe_imp (soundE _ h g hs).pe (tK_red rfl)
theorem soundKs : ∀ (es : Exs) {sc : Scope} {as : List Expr}, mEs M sc es as = true → Good M G X → ScOk X sc → PA X as (tKs G es)
  | .nil, sc, as, h, g, hs => by
    cases as with
    | nil => exact kl_nil
    | cons a as => simp [mEs] at h
  | .cons e es, sc, as, h, g, hs => by
    cases as with
    | nil => simp [mEs] at h
    | cons a as =>
      simp only [mEs, Bool.and_eq_true] at h
      exact kl_cons (soundK e h.1 g hs) (mE_plain h.1) (soundKs es h.2 g hs)
end
end
end Rp

set_option Elab.async false
set_option linter.all false
set_option maxRecDepth 100000
set_option maxHeartbeats 4000000
/-! RpSt4: statements without mutation. -/
namespace Rp
open PySem PySem.Spec PyProof.Rows L2

/-- an answer of a statement -/
def AnsS (G : Cfg) (H0 : Hp) (av : Addr → Prop) (D : Ends) : Out → Prop
  | .nx Γ => ∀ σ H cs, StR H0 H av Γ σ cs → D.nx σ H
  | .rt o => ∀ v H c, Same H0 H → c.Nodup → (∀ a ∈ c, H0 a = none) → rO H (fun a => av a ∧ a ∉ c) o v c → D.rt v H
  | .bk Γ => ∀ σ H cs, StR H0 H av Γ σ cs → D.bk σ H
  | .exc c p => ∀ σ H cls d, Same H0 H → G.xr c p cls d H → G.W cls d σ H
  | .bad => False
theorem AnsS.out {α : Type} {G : Cfg} {H0 H : Hp} {av : Addr → Prop} {D : Ends} {σ : L2.St} {r : Res α} {f : α → Out} (h : AnsS G H0 av D (r.out f)) (s : Same H0 H) : Ans G σ H r fun a => r = .ok a ∧ AnsS G H0 av D (f a) := by
  cases r with
  | ok a => exact ⟨rfl, h⟩
  | exc c p => exact fun H' cls d s' x => h σ H' cls d (s.trans s') x
  | bad => exact h
theorem AnsS.of {α : Type} {G : Cfg} {H0 : Hp} {av : Addr → Prop} {D : Ends} {x : Option α} {f : α → Out} (h : AnsS G H0 av D ((Res.of x).out f)) : ∃ a, x = some a ∧ AnsS G H0 av D (f a) := by
  cases x with
  | none => exact h.elim
  | some a => exact ⟨a, rfl, h⟩
def tS (G : Cfg) (s : Sm) : TS := fun D σ H => ∃ (H0 : Hp) (av : Addr → Prop) (Γ : En) (cs : List Addr), StR H0 H av Γ σ cs ∧ New H0 av ∧ AnsS G H0 av D (exec G.Φ G.gt s Γ)
def tSs (G : Cfg) (ss : Sms) : TS := fun D σ H => ∃ (H0 : Hp) (av : Addr → Prop) (Γ : En) (cs : List Addr), StR H0 H av Γ σ cs ∧ New H0 av ∧ AnsS G H0 av D (execs G.Φ G.gt ss Γ)
theorem ps_imp {X : Cx} {st : Stmt} {t t' : TS} (h : PS X st t) (i : ∀ D σ H, t' D σ H → t D σ H) : PS X st t' := ⟨fun pins s σ H D I q => h.run pins s σ H D I (i _ _ _ q)⟩
theorem pss_imp {X : Cx} {st : List Stmt} {t t' : TS} (h : PSs X st t) (i : ∀ D σ H, t' D σ H → t D σ H) : PSs X st t' := ⟨fun pins s σ H D I q => h.run pins s σ H D I (i _ _ _ q)⟩
/-- a def's own context -/
structure FnCx (X : Cx) (scp : Scope) : Prop where
  pass : PassesOwn (model X.prog X.w) X.A X.env X.xe
  fn : ∀ x, X.fn x = true
  sc : X.env.scope = scp
  kind : scp.kind = .function
theorem FnCx.ok {X : Cx} {sc : Scope} (h : FnCx X sc) : ScOk X sc := by
  have := ScOk.top (X := X) h.fn
  rwa [h.sc] at this

/-! storing -/
theorem StK.set {H0 H : Hp} {av : Addr → Prop} {Γ : En} {σ : L2.St} {o : O} {v : V} {c cs : List Addr} (k : StK H0 H av Γ σ o v c cs) (i : Nat) : ∃ r, StR H0 H av (setS Γ i (some o)) (σ.set i (some v)) r := by
  obtain ⟨d, r, h1, h2⟩ := k.rel.set i k.val
  obtain ⟨s1, s2, s3⟩ := part_sub h2
  exact ⟨r, k.same, s2 k.nd, fun a ha => k.new a (s1 a ha), h1.weak fun a x => ⟨x.1, fun z => x.2 (s1 a z)⟩⟩
theorem gNs_okO {H : Hp} {av : Addr → Prop} : ∀ {is : List Nat} {os : List O} {vs : List V} {c cs : List Addr} {Γ : En} {σ : L2.St} {Q : L2.St → Hp → Prop}, is.length = os.length → rOs H av os vs c → rP H av Γ σ cs →
    (∀ σ' r d, rP H av ((is.zip os).foldl (fun g p => setS g p.1 (some p.2)) Γ) σ' r → (c ++ cs).Perm (d ++ r) → Q σ' H) → gNs is vs σ H Q
  | [], [], _, _, cs, Γ, σ, Q, _, r, hp, q => by
    simp only [rOs] at r
    obtain ⟨rfl, rfl⟩ := r
    exact ⟨rfl, q σ cs [] hp (.refl _)⟩
  | i :: is, o :: os, _, _, cs, Γ, σ, Q, hn, r, hp, q => by
    simp only [rOs] at r
    obtain ⟨v, vs', c1, c2, rfl, rfl, r1, r2⟩ := r
    refine ⟨_, _, rfl, ?_⟩
    obtain ⟨d1, r', h1, h2⟩ := hp.set i r1
    show gNs is vs' (σ.set i (some v)) H Q
    refine gNs_okO (by simpa using hn) r2 h1 fun σ' r d h3 h4 => ?_
    refine q σ' r (d1 ++ d) h3 ?_
    -- (c1 ++ c2) ++ cs ~ (d1 ++ d) ++ r
    have e1 : ((c1 ++ c2) ++ cs).Perm (c2 ++ (c1 ++ cs)) := by
      rw [List.append_assoc]
      refine (List.perm_append_comm (l₁ := c1) (l₂ := c2 ++ cs)).trans ?_
      rw [List.append_assoc]
      exact (List.perm_append_comm).append_left c2
    have e2 : (c2 ++ (c1 ++ cs)).Perm (c2 ++ (d1 ++ r')) := h2.append_left c2
    have e3 : (c2 ++ (d1 ++ r')).Perm (d1 ++ (c2 ++ r')) := by
      rw [← List.append_assoc, ← List.append_assoc]
      exact (List.perm_append_comm).append_right r'
    have e4 : (d1 ++ (c2 ++ r')).Perm (d1 ++ (d ++ r)) := h4.append_left d1
    have e5 := e1.trans (e2.trans (e3.trans e4))
    rwa [← List.append_assoc d1] at e5
theorem StR.of_part {H0 H : Hp} {av : Addr → Prop} {Γ : En} {σ : L2.St} {tot d r : List Addr} (s : Same H0 H) (nd : tot.Nodup) (nw : ∀ a ∈ tot, H0 a = none) (h : rP H (fun a => av a ∧ a ∉ tot) Γ σ r) (p : tot.Perm (d ++ r)) : StR H0 H av Γ σ r := by
  obtain ⟨s1, s2, s3⟩ := part_sub p
  exact ⟨s, s2 nd, fun a ha => nw a (s1 a ha), h.weak fun a x => ⟨x.1, fun z => x.2 (s1 a z)⟩⟩
theorem gT_okO {K : PySem.W.Frag} {H0 H : Hp} {av : Addr → Prop} {tg : List Nat} {o : O} {v : V} {Γ Γ' : En} {σ : L2.St} {c cs : List Addr} {Q : L2.St → Hp → Prop} (k : StK H0 H av Γ σ o v c cs) (hb : bindO Γ tg o = some Γ') (q : ∀ σ' r, StR H0 H av Γ' σ' r → Q σ' H) : gT K tg v σ H Q := by
  have many : ∀ os vs, tg.length = os.length → rOs H (fun a => av a ∧ a ∉ c ++ cs) os vs c → (tg.zip os).foldl (fun g p => setS g p.1 (some p.2)) Γ = Γ' → gNs tg vs σ H Q := by
    intro os vs hl r e
    refine gNs_okO hl r k.rel fun σ' r d h1 h2 => ?_
    rw [e] at h1
    exact q σ' r (.of_part k.same k.nd k.new h1 h2)
  have big : (∀ i, tg ≠ [i]) → gTup K tg.length (gNs tg) v σ H Q := by
    intro hne
    have hv := k.val
    cases o with
    | tup os =>
      have hb : (if tg.length = os.length then some ((tg.zip os).foldl (fun g p => setS g p.1 (some p.2)) Γ) else none) = some Γ' := by
        rw [← hb]
        match tg, hne with
        | [], _ => rfl
        | [i], hne => exact absurd rfl (hne i)
        | _ :: _ :: _, _ => rfl
      split at hb
      · rename_i hl
        cases hb
        simp only [rO] at hv
        obtain ⟨a, vs, rfl, ha, hos⟩ := hv
        exact ⟨a, vs, rfl, .inl (.inl ha), by rw [hos.length]; exact hl.symm, many os vs hl hos rfl⟩
      · cases hb
    | sh d =>
      simp only [rO] at hv
      obtain ⟨hv, rfl⟩ := hv
      cases hv with
      | tup h1 h2 =>
        rename_i a xs ds
        have hb : (if tg.length = (ds.map O.sh).length then some ((tg.zip (ds.map O.sh)).foldl (fun g p => setS g p.1 (some p.2)) Γ) else none) = some Γ' := by
          rw [← hb]
          match tg, hne with
          | [], _ => rfl
          | [i], hne => exact absurd rfl (hne i)
          | _ :: _ :: _, _ => rfl
        split at hb
        · rename_i hl
          cases hb
          have hos := rOs.shs h2
          exact ⟨a, xs, rfl, .inl h1, by rw [hos.length]; exact hl.symm, many _ xs hl hos rfl⟩
        · cases hb
      | _ => exact absurd hb (by
          match tg, hne with
          | [], _ => simp [bindO]
          | [i], hne => exact absurd rfl (hne i)
          | _ :: _ :: _, _ => simp [bindO])
    | lst os => exact absurd hb (by
        match tg, hne with
        | [], _ => simp [bindO]
        | [i], hne => exact absurd rfl (hne i)
        | _ :: _ :: _, _ => simp [bindO])
    | dic ps => exact absurd hb (by
        match tg, hne with
        | [], _ => simp [bindO]
        | [i], hne => exact absurd rfl (hne i)
        | _ :: _ :: _, _ => simp [bindO])
  match tg, hb, big with
  | [i], hb, _ =>
    simp only [bindO, Option.some.injEq] at hb
    subst hb
    obtain ⟨r, h⟩ := k.set i
    exact q _ r h
  | [], _, big => exact big (fun i => by simp)
  | i :: j :: is, _, big => exact big (fun i => by simp)

section
variable {M : MC} {G : Cfg} {X : Cx}
/-! sequences -/
theorem ss_nil : PSs X [] (tSs G .nil) := by
  refine pss_imp pss_nil ?_
  intro D σ H ⟨H0, av, Γ, cs, st, nw, q⟩
  simp only [execs] at q
  exact q σ H cs st
theorem ss_cons {s : Sm} {ss : Sms} {a : Stmt} {as : List Stmt} (h1 : PS X a (tS G s)) (h2 : PSs X as (tSs G ss)) : PSs X (a :: as) (tSs G (.cons s ss)) := by
  refine pss_imp (pss_cons h1 h2) ?_
  intro D σ H ⟨H0, av, Γ, cs, st, nw, q⟩
  simp only [execs] at q
  refine ⟨H0, av, Γ, cs, st, nw, ?_⟩
  cases e : exec G.Φ G.gt s Γ with
  | nx Γ' =>
    rw [e] at q
    exact fun σ' H' cs' st' => ⟨H0, av, Γ', cs', st', nw, q⟩
  | rt o => rw [e] at q; exact q
  | bk Γ' => rw [e] at q; exact q
  | exc c p => rw [e] at q; exact q
  | bad => rw [e] at q; exact q
/-! plain ones -/
theorem st_pass {pos : Pos} : PS X (.Pass pos) (tS G .pass) := by
  refine ps_imp ps_pass ?_
  intro D σ H ⟨H0, av, Γ, cs, st, nw, q⟩
  simp only [exec] at q
  exact q σ H cs st
theorem st_doc {x : Str} {j : Nat} {pos pos' : Pos} : PS X (.Expr (.Constant (.str x) j pos) pos') (tS G .pass) := by
  refine ps_imp ps_doc ?_
  intro D σ H ⟨H0, av, Γ, cs, st, nw, q⟩
  simp only [exec] at q
  exact q σ H cs st
theorem st_brk {pos : Pos} : PS X (.Break pos) (tS G .brk) := by
  refine ps_imp ps_break ?_
  intro D σ H ⟨H0, av, Γ, cs, st, nw, q⟩
  simp only [exec] at q
  exact q σ H cs st
theorem st_ret {e : Ex} {a : Expr} {pos : Pos} (h : PE X a (tK G e)) : PS X (.Return (some a) pos) (tS G (.ret e)) := by
  refine ps_imp (ps_ret h) ?_
  intro D σ H ⟨H0, av, Γ, cs, st, nw, q⟩
  simp only [exec] at q
  refine ⟨H0, av, Γ, cs, st, nw, (q.out st.same).imp fun p hp => ?_⟩
  intro v H' c cs' s k
  have hp := hp.2
  exact hp v H' c k.same (List.nodup_append.mp k.nd).1 (fun a ha => k.new a (by simp [ha])) (k.val.weak fun a x => ⟨x.1, fun z => x.2 (by simp [z])⟩)
theorem st_ite {c : Ex} {a b : Sms} {ca : Expr} {as bs : List Stmt} {pos : Pos} (hc : SE G X c ca) (ha : PSs X as (tSs G a)) (hb : PSs X bs (tSs G b)) : PS X (.If ca as bs pos) (tS G (.ite c a b)) := by
  refine ps_imp (ps_if hc.pt ha hb) ?_
  intro D σ H ⟨H0, av, Γ, cs, st, nw, q⟩
  simp only [exec] at q
  refine tE.use (st.full nw _) (nw.here st.same) (q.out st.same) fun o ho v H1 c1 s1 nd1 n1 r1 => ?_
  obtain ⟨-, ho⟩ := ho
  have rv := rO.er r1 (nw.here st.same) n1
  cases eo : er o with
  | bool k =>
    rw [eo] at ho rv
    cases rv
    refine ⟨k, rfl, ?_⟩
    have st' := st.grow s1
    have ho : AnsS G H0 av D (if k = true then execs G.Φ G.gt a Γ else execs G.Φ G.gt b Γ) := ho
    cases k with
    | true => exact ⟨H0, av, Γ, cs, st', nw, ho⟩
    | false => exact ⟨H0, av, Γ, cs, st', nw, ho⟩
  | _ => rw [eo] at ho; exact ho.elim
theorem isB_out {G : Cfg} {H0 : Hp} {av : Addr → Prop} {D : Ends} {d : PyData} {f : Bool → Out} (h : AnsS G H0 av D ((isB d).out f)) : ∃ b, d = .bool b ∧ AnsS G H0 av D (f b) := by
  cases d <;> first | exact h.elim | exact ⟨_, rfl, h⟩
theorem isB_ans {σ : L2.St} {H : Hp} {d : PyData} {P : Bool → Prop} (h : Ans G σ H (isB d) P) : ∃ b, d = .bool b ∧ P b := by
  cases d <;> first | exact h.elim | exact ⟨_, rfl, h⟩
theorem st_whl {c : Ex} {b : Sms} {ca : Expr} {bs : List Stmt} {pos : Pos} {sc : Scope} (fc : FnCx X sc) (hc : SE G X c ca) (hb : PSs X bs (tSs G b)) : PS X (.While ca bs [] pos) (tS G (.whl c b)) := by
  refine ps_imp (ps_while fc.pass hc.pt hb) ?_
  intro D σ H ⟨H0, av, Γ, cs, st, nw, q⟩
  simp only [exec] at q
  refine ⟨fun m σ H => ∃ Γ cs, StR H0 H av Γ σ cs ∧ AnsS G H0 av D (whlN (fun Γ => (ev G.Φ G.gt (eEnv Γ) c).bind fun o => isB (er o)) (execs G.Φ G.gt b) m Γ), ⟨fuelW, Γ, cs, st, q⟩, ?_⟩
  rintro m σ H ⟨Γ, cs, st, q⟩
  cases m with
  | zero => exact q.elim
  | succ m =>
    simp only [whlN] at q
    refine tE.use (st.full nw _) (nw.here st.same) (q.out st.same).bind fun o ho v H1 c1 s1 nd1 n1 r1 => ?_
    obtain ⟨-, ho⟩ := ho
    obtain ⟨k, ek, -, ho⟩ := isB_ans ho
    have rv := rO.er r1 (nw.here st.same) n1
    rw [ek] at rv
    cases rv
    refine ⟨k, rfl, ?_⟩
    have st' := st.grow s1
    cases k with
    | false =>
      simp only [Bool.false_eq_true, if_false] at ho ⊢
      exact ho σ H1 cs st'
    | true =>
      simp only [if_true] at ho ⊢
      refine ⟨fun σ' H' => ∃ Γ cs, StR H0 H' av Γ σ' cs ∧ AnsS G H0 av D (whlN (fun Γ => (ev G.Φ G.gt (eEnv Γ) c).bind fun o => isB (er o)) (execs G.Φ G.gt b) m Γ), fun σ' H' h => ⟨m, Nat.lt_succ_self m, h⟩, H0, av, Γ, cs, st', nw, ?_⟩
      cases e : execs G.Φ G.gt b Γ with
      | nx Γ' =>
        rw [e] at ho
        exact fun σ' H' cs' st' => ⟨Γ', cs', st', ho⟩
      | rt o => rw [e] at ho; exact ho
      | bk Γ' => rw [e] at ho; exact ho
      | exc c p => rw [e] at ho; exact ho
      | bad => rw [e] at ho; exact ho
theorem st_for {tg : List Nat} {it : Itx} {b : Sms} {t a : Expr} {bs : List Stmt} {pos : Pos} {sc : Scope} (fc : FnCx X sc) (g : Good M G X) (hi : PI X t a (tI G it)) (hp : plainE a = true) (ht : matchT M sc tg t = true) (hb : PSs X bs (tSs G b)) : PS X (.For t a bs [] pos) (tS G (.for tg it b)) := by
  refine ps_imp (ps_for fc.pass g.calm hi (pg_t ht g fc.ok) hb (plain_fold hp X.env)) ?_
  intro D σ H ⟨H0, av, Γ, cs, st, nw, q⟩
  simp only [exec] at q
  -- the walk over ds, from a state at H1 in which ds stays
  have go : ∀ (J : It) (H1 : Hp) (Γ1 : En) (c1 : List Addr) (ds : List PyData) (wv : Addr → Prop), StR H0 H1 av Γ1 σ c1 → Walks H1 wv J ds → (∀ a, wv a → (av a ∧ a ∉ c1) ∧ H1 a ≠ none) →
      AnsS G H0 av D (forL (fun d Γ' => (Res.of (bindO Γ' tg (.sh d))).out fun Γ'' => execs G.Φ G.gt b Γ'') ds Γ1) →
      ∃ W : Nat → Nat → L2.St → Hp → Prop, (∃ m, W 0 m σ H1) ∧ ∀ i m σ H, W i m σ H → (J.stop i H ∧ D.nx σ H) ∨ (J.go i H ∧ ∃ N : L2.St → Hp → Prop, (∀ σ' H', N σ' H' → ∃ m', m' < m ∧ W (i + 1) m' σ' H') ∧ ∀ x H', J.yld i H x H' → gT X.K tg x σ H' fun σ2 H2 => tSs G b { D with nx := N, ct := N, bk := D.nx } σ2 H2) := by
    intro J H1 Γ1 c1 ds wv st1 wk wsub q1
    have fr := st1.frame
    have nf := st1.framed nw
    have hcell := st1.rel.cells
    refine ⟨fun i m σ H => m = ds.length - i ∧ i ≤ ds.length ∧ ∃ Γ' cs', StR (cutH H1 c1) H av Γ' σ cs' ∧ AnsS G H0 av D (forL (fun d Γ' => (Res.of (bindO Γ' tg (.sh d))).out fun Γ'' => execs G.Φ G.gt b Γ'') (ds.drop i) Γ'), ⟨ds.length, by simp, Nat.zero_le _, Γ1, c1, fr, q1⟩, ?_⟩
    rintro i m σ H ⟨rfl, hi, Γ', cs', st', q'⟩
    have kp : Kept wv H1 H := (cut_kept st'.same hcell).weak fun a x => (wsub a x).1.2
    by_cases hlt : i < ds.length
    · obtain ⟨d, ed⟩ : ∃ d, ds[i]? = some d := ⟨ds[i], List.getElem?_eq_getElem hlt⟩
      obtain ⟨hgo, hy⟩ := wk.go i d H kp ed
      have hdrop : ds.drop i = d :: ds.drop (i + 1) := by
        rw [List.drop_eq_getElem_cons hlt]
        rw [List.getElem?_eq_getElem hlt] at ed
        cases ed
        rfl
      rw [hdrop] at q'
      simp only [forL] at q'
      refine .inr ⟨hgo, fun σ' H' => ∃ Γ' cs', StR (cutH H1 c1) H' av Γ' σ' cs' ∧ AnsS G H0 av D (forL (fun d Γ' => (Res.of (bindO Γ' tg (.sh d))).out fun Γ'' => execs G.Φ G.gt b Γ'') (ds.drop (i + 1)) Γ'), fun σ' H' h => ⟨ds.length - (i + 1), by omega, rfl, hlt, h⟩, fun x H' hyl => ?_⟩
      obtain ⟨s2, rx⟩ := hy x H' hyl
      have st2 := st'.grow s2
      have dis : ∀ a, wv a → av a ∧ a ∉ cs' := fun a ha => ⟨(wsub a ha).1.1, fun hm => by
        rcases cutH_none (st'.new a hm) with z | z
        · exact (wsub a ha).1.2 z
        · exact (wsub a ha).2 z⟩
      -- the thing is apart from the cells
      have kx : StK (cutH H1 c1) H' av Γ' σ (.sh d) x [] cs' := ⟨st2.same, st2.nd, st2.new, st2.rel, by
        simp only [rO]
        exact ⟨rx.weak dis, trivial⟩⟩
      cases eb : bindO Γ' tg (.sh d) with
      | none => rw [eb] at q'; exact q'.elim
      | some Γ2 =>
        rw [eb] at q'
        refine gT_okO kx eb fun σ2 r2 st3 => ?_
        refine ⟨cutH H1 c1, av, Γ2, r2, st3, nf, ?_⟩
        have q2 : AnsS G H0 av D (match execs G.Φ G.gt b Γ2 with
          | .nx Γ' => forL (fun d Γ' => (Res.of (bindO Γ' tg (.sh d))).out fun Γ'' => execs G.Φ G.gt b Γ'') (ds.drop (i + 1)) Γ'
          | .bk Γ' => .nx Γ'
          | r => r) := q'
        cases e : execs G.Φ G.gt b Γ2 with
        | nx Γ3 =>
          rw [e] at q2
          exact fun σ' H' cs' st' => ⟨Γ3, cs', st', q2⟩
        | rt o =>
          rw [e] at q2
          exact fun v H' c s nd n r => q2 v H' c (st1.unsame s) nd (fun a ha => st1.unnew (n a ha)) r
        | bk Γ3 =>
          rw [e] at q2
          exact fun σ' H' cs' st' => q2 σ' H' cs' (st1.unframe st')
        | exc c p =>
          rw [e] at q2
          exact fun σ' H' cls d s x => q2 σ' H' cls d (st1.unsame s) x
        | bad => rw [e] at q2; exact q2
    · have e : i = ds.length := by omega
      subst e
      rw [List.drop_length] at q'
      exact .inl ⟨wk.stop H kp, q' σ H cs' (st1.unframe st')⟩
  cases ei : evI G.Φ G.gt (eEnv Γ) it with
  | bad => rw [ei] at q; exact q.elim
  | exc c p => exact ⟨eEnv Γ, av, st.full nw _, nw.here st.same, by rw [ei] at q ⊢; exact fun H' cls d s x => q σ H' cls d (st.same.trans s) x⟩
  | ok pr =>
    rw [ei] at q
    obtain ⟨ds, fr⟩ := pr
    have q : AnsS G H0 av D (forL (fun d Γ' => (Res.of (bindO Γ' tg (.sh d))).out fun Γ'' => execs G.Φ G.gt b Γ'') ds (if fr = true then Γ else frz (srcsI it) Γ)) := q
    cases fr with
    | true =>
      simp only [if_true] at q
      refine ⟨eEnv Γ, av, st.full nw _, nw.here st.same, ?_⟩
      rw [ei]
      intro J H1 s1 wk
      exact go J H1 Γ cs ds _ (st.grow s1) wk (fun a x => ⟨⟨x.1.1, fun z => st.there a z (x.1.2 rfl)⟩, x.2⟩) q
    | false =>
      simp only [Bool.false_eq_true, if_false] at q
      obtain ⟨r, h1, h2, h3⟩ := st.frzE nw (srcsI it)
      refine ⟨eEnv Γ, _, h3, h1.newr nw, ?_⟩
      rw [ei]
      intro J H1 s1 wk
      exact go J H1 _ r ds _ (h1.grow s1) wk (fun a x => ⟨x.1.1, x.2⟩) q
end
end Rp

set_option Elab.async false
set_option linter.all false
set_option maxRecDepth 100000
set_option maxHeartbeats 4000000
/-! RpSt5: stores. -/
namespace Rp
open PySem PySem.Spec PyProof.Rows L2

/-- the method's step on the cell -/
def rMu : Mu → V → List V → Hp → VK → Prop
  | .append => rAppend
  | .clear => rClear
  | .reverse => rReverse
  | .pop => rPop
  | .popAt => rPopAt
  | .insert => fun x vs H Q => ∃ (l : Addr) (xs : List V) (i : Int) (y : V), x = .ref l ∧ vs = [.int i, y] ∧ H l = some (.lst xs) ∧ xs.length < sizeLine ∧ 0 ≤ i ∧ i < 2 ^ 63 ∧ Q .non (upd H l (.lst (xs.take i.toNat ++ [y] ++ xs.drop i.toNat)))
  | .set => fun x vs H Q => ∃ (l : Addr) (xs : List V) (i : Int) (j : Nat) (y : V), x = .ref l ∧ vs = [.int i, y] ∧ H l = some (.lst xs) ∧ ixN xs.length i = some j ∧ Q .non (upd H l (.lst (xs.set j y)))
theorem tr1 {H : Hp} {av : Addr → Prop} {o : O} {vs : List V} {cs : List Addr} (h : rOs H av [o] vs cs) : ∃ v, vs = [v] ∧ rO H av o v cs := by
  simp only [rOs] at h
  obtain ⟨v, vs', c1, c2, rfl, rfl, h1, rfl, rfl⟩ := h
  exact ⟨v, rfl, by simpa using h1⟩
theorem tr0 {H : Hp} {av : Addr → Prop} {vs : List V} {cs : List Addr} (h : rOs H av [] vs cs) : vs = [] ∧ cs = [] := by simpa only [rOs] using h
theorem trI {H : Hp} {av : Addr → Prop} {i : Int} {v : V} {cs : List Addr} (h : rO H av (.sh (.int i)) v cs) : v = .int i ∧ cs = [] := by
  simp only [rO] at h
  obtain ⟨h, rfl⟩ := h
  cases h
  exact ⟨rfl, rfl⟩
theorem tr2 {H : Hp} {av : Addr → Prop} {i : Int} {o : O} {vs : List V} {cs : List Addr} (h : rOs H av [.sh (.int i), o] vs cs) : ∃ v, vs = [.int i, v] ∧ rO H av o v cs := by
  simp only [rOs] at h
  obtain ⟨v, vs', c1, c2, rfl, rfl, h1, w, ws, d1, d2, rfl, rfl, h2, rfl, rfl⟩ := h
  obtain ⟨rfl, rfl⟩ := trI h1
  exact ⟨w, rfl, by simpa using h2⟩
theorem mu_cell {H : Hp} {av : Addr → Prop} {m : Mu} {a : Addr} {es es' args : List O} {xs vs : List V} {ce ca : List Addr} (ha : H a = some (.lst xs)) (re : rOs H av es xs ce) (ra : rOs H av args vs ca) (h : mutO m es args = some es') :
    ∃ xs', (∀ Q : VK, (∀ u, Q u (upd H a (.lst xs'))) → rMu m (.ref a) vs H Q) ∧ ∃ ce', rOs H av es' xs' ce' ∧ Sub ce' (ca ++ ce) := by
  have hl := re.length
  obtain ⟨ts, rfl, rfl, rfl, ht⟩ := rOs_tr.mp re
  have mk : ∀ ts' : List Tr, trO H av ts' → Sub ts' ts → rOs H av (ts'.map (·.1)) (ts'.map (·.2.1)) (ts'.flatMap (·.2.2)) ∧ Sub (ts'.flatMap (·.2.2)) (ca ++ ts.flatMap (·.2.2)) := fun ts' h1 h2 =>
    ⟨rOs_tr.mpr ⟨ts', rfl, rfl, rfl, h1⟩, (h2.flat _).trans ⟨ca, .refl _⟩⟩
  have mk1 : ∀ (t : Tr) (ts' : List Tr), t.2.2 = ca → trO H av ts' → Sub ts' (t :: ts) → rOs H av (ts'.map (·.1)) (ts'.map (·.2.1)) (ts'.flatMap (·.2.2)) ∧ Sub (ts'.flatMap (·.2.2)) (ca ++ ts.flatMap (·.2.2)) := fun t ts' e h1 h2 =>
    ⟨rOs_tr.mpr ⟨ts', rfl, rfl, rfl, h1⟩, by have := h2.flat (fun t : Tr => t.2.2); rwa [List.flatMap_cons, e] at this⟩
  have sub : ∀ ts' : List Tr, Sub ts' ts → trO H av ts' := fun ts' h t hm => ht t (h.mem hm)
  unfold mutO at h
  split at h <;> first | (cases h; done) | skip
  · -- append
    rename_i o
    split at h <;> first | (cases h; done) | skip
    rename_i hz
    cases h
    obtain ⟨v, rfl, rv⟩ := tr1 ra
    refine ⟨ts.map (·.2.1) ++ [v], fun Q q => ⟨a, _, v, rfl, rfl, ha, by rw [hl]; exact hz, q _⟩, ?_⟩
    obtain ⟨h1, h2⟩ := mk1 (o, v, ca) (ts ++ [(o, v, ca)]) rfl (fun t hm => by
      rcases List.mem_append.mp hm with z | z
      · exact ht t z
      · obtain rfl := List.mem_singleton.mp z; exact rv) (.of_perm (List.perm_append_comm (l₁ := [_]) (l₂ := ts)))
    exact ⟨_, by simpa using h1, h2⟩
  · -- clear
    cases h
    obtain ⟨rfl, rfl⟩ := tr0 ra
    refine ⟨[], fun Q q => ⟨a, _, rfl, rfl, ha, q _⟩, [], by simp only [rOs]; exact ⟨trivial, trivial⟩, ⟨_, by simp; exact .refl _⟩⟩
  · -- reverse
    cases h
    obtain ⟨rfl, rfl⟩ := tr0 ra
    refine ⟨(ts.map (·.2.1)).reverse, fun Q q => ⟨a, _, rfl, rfl, ha, q _⟩, ?_⟩
    obtain ⟨h1, h2⟩ := mk ts.reverse (fun t hm => ht t (List.mem_reverse.mp hm)) (.of_perm (List.reverse_perm ts).symm)
    exact ⟨_, by simpa using h1, h2⟩
  · -- pop
    split at h <;> first | (cases h; done) | skip
    rename_i hz
    cases h
    obtain ⟨rfl, rfl⟩ := tr0 ra
    have hlt : ts.length - 1 < ts.length := by simp at hz; have : ts.length ≠ 0 := by simpa using hz
                                               omega
    refine ⟨(ts.map (·.2.1)).dropLast, fun Q q => ⟨a, _, (ts[ts.length - 1]).2.1, rfl, rfl, ha, by simp [hlt], q _⟩, ?_⟩
    obtain ⟨h1, h2⟩ := mk ts.dropLast (sub _ (.of_sublist (List.dropLast_sublist ts))) (.of_sublist (List.dropLast_sublist ts))
    exact ⟨_, by simpa using h1, h2⟩
  · -- pop at
    rename_i i
    split at h <;> first | (cases h; done) | skip
    rename_i hb
    simp only [decide_eq_true_eq] at hb
    rw [Option.map_eq_some_iff] at h
    obtain ⟨k, hk, rfl⟩ := h
    obtain ⟨v, rfl, rv⟩ := tr1 ra
    obtain ⟨rfl, rfl⟩ := trI rv
    have hk' : ixN (ts.map (·.2.1)).length i = some k := by rw [hl]; exact hk
    obtain ⟨q1, q2, q3, q4⟩ := ixN_seq hk'
    have hlt : k < ts.length := by simpa using q2
    refine ⟨(ts.map (·.2.1)).eraseIdx k, fun Q q => ⟨a, _, i, k, (ts[k]).2.1, rfl, rfl, ha, hb.1, hb.2, q1, by simp [hlt], q _⟩, ?_⟩
    obtain ⟨h1, h2⟩ := mk (ts.eraseIdx k) (sub _ (.of_sublist (List.eraseIdx_sublist ts k))) (.of_sublist (List.eraseIdx_sublist ts k))
    have er : ∀ {β : Type} (f : Tr → β) (l : List Tr) (k : Nat), (l.eraseIdx k).map f = (l.map f).eraseIdx k := by
      intro β f l
      induction l with
      | nil => intro k; simp
      | cons x l ih => intro k; cases k <;> simp [ih]
    rw [er, er] at h1
    exact ⟨_, h1, h2⟩
  · -- insert
    rename_i i o
    split at h <;> first | (cases h; done) | skip
    rename_i hb
    simp only [decide_eq_true_eq] at hb
    cases h
    obtain ⟨v, rfl, rv⟩ := tr2 ra
    refine ⟨(ts.map (·.2.1)).take i.toNat ++ [v] ++ (ts.map (·.2.1)).drop i.toNat, fun Q q => ⟨a, _, i, v, rfl, rfl, ha, by rw [hl]; exact hb.1, hb.2.1, hb.2.2, q _⟩, ?_⟩
    have pp : ((o, v, ca) :: ts).Perm (ts.take i.toNat ++ [(o, v, ca)] ++ ts.drop i.toNat) := by
      rw [List.append_assoc]
      have := (List.perm_middle (a := (o, v, ca)) (l₁ := ts.take i.toNat) (l₂ := ts.drop i.toNat)).symm
      rw [List.take_append_drop] at this
      exact this
    obtain ⟨h1, h2⟩ := mk1 (o, v, ca) (ts.take i.toNat ++ [(o, v, ca)] ++ ts.drop i.toNat) rfl (fun t hm => by
      rcases List.mem_cons.mp (pp.mem_iff.mpr hm) with rfl | z
      · exact rv
      · exact ht t z) (.of_perm pp)
    exact ⟨_, by simpa [List.map_take, List.map_drop] using h1, h2⟩
  · -- set
    rename_i i o
    rw [Option.map_eq_some_iff] at h
    obtain ⟨k, hk, rfl⟩ := h
    obtain ⟨v, rfl, rv⟩ := tr2 ra
    have hk' : ixN (ts.map (·.2.1)).length i = some k := by rw [hl]; exact hk
    have hlt : k < ts.length := by simpa using (ixN_seq hk').2.1
    refine ⟨(ts.map (·.2.1)).set k v, fun Q q => ⟨a, _, i, k, v, rfl, rfl, ha, hk', q _⟩, ?_⟩
    have sb : Sub (ts.set k (o, v, ca)) ((o, v, ca) :: ts) := by
      refine ⟨[ts[k]], ?_⟩
      have e1 : ts = ts.take k ++ ts[k] :: ts.drop (k + 1) := by
        rw [← List.drop_eq_getElem_cons hlt, List.take_append_drop]
      have e2 : ts.set k (o, v, ca) = ts.take k ++ (o, v, ca) :: ts.drop (k + 1) := by
        rw [List.set_eq_take_append_cons_drop, if_pos hlt]
      rw [e2]
      have p1 : ts.Perm (ts[k] :: (ts.take k ++ ts.drop (k + 1))) := by
        have := List.perm_middle (a := ts[k]) (l₁ := ts.take k) (l₂ := ts.drop (k + 1))
        rwa [← e1] at this
      have p2 : (ts.take k ++ (o, v, ca) :: ts.drop (k + 1)).Perm ((o, v, ca) :: (ts.take k ++ ts.drop (k + 1))) := List.perm_middle
      exact (p1.cons _).trans ((List.Perm.swap _ _ _).trans (p2.symm.cons _))
    obtain ⟨h1, h2⟩ := mk1 (o, v, ca) (ts.set k (o, v, ca)) rfl (fun t hm => by
      rcases List.mem_cons.mp (sb.mem hm) with rfl | z
      · exact rv
      · exact ht t z) sb
    exact ⟨_, by simpa [List.map_set] using h1, h2⟩
end Rp

set_option Elab.async false
set_option linter.all false
set_option maxRecDepth 100000
set_option maxHeartbeats 4000000
/-! RpSt6: mutation of what a slot owns. -/
namespace Rp
open PySem PySem.Spec PyProof.Rows L2

/-- along a path to the list at a; what is on the way is not it -/
def RdP (H : Hp) : V → List Int → Addr → Prop
  | v, [], a => v = .ref a
  | v, i :: is, a => ∃ b ys z, v = .ref b ∧ (H b = some (.lst ys) ∨ H b = some (.tup ys)) ∧ b ≠ a ∧ atI ys i = some z ∧ RdP H z is a
def RdAt (σ : L2.St) (H : Hp) (x : Nat) (k : List Int) (a : Addr) : Prop := ∃ v, σ[x]? = some (some v) ∧ RdP H v k a
theorem RdP.same {H H' : Hp} (s : Same H H') : ∀ {k : List Int} {v : V} {a : Addr}, RdP H v k a → RdP H' v k a
  | [], _, _, h => h
  | i :: is, _, _, h => by
    obtain ⟨b, ys, z, h1, h2, h3, h4, h5⟩ := h
    exact ⟨b, ys, z, h1, h2.imp (s _ _) (s _ _), h3, h4, h5.same s⟩
theorem RdP.uniq {H : Hp} : ∀ {k : List Int} {v : V} {a a' : Addr}, RdP H v k a → RdP H v k a' → a = a'
  | [], _, _, _, h, h' => by
    have e : V.ref _ = V.ref _ := Eq.trans (Eq.symm h) h'
    cases e; rfl
  | i :: is, _, _, _, h, h' => by
    obtain ⟨b, ys, z, h1, h2, h3, h4, h5⟩ := h
    obtain ⟨b', ys', z', h1', h2', h3', h4', h5'⟩ := h'
    rw [h1] at h1'; cases h1'
    have e : ys = ys' := by
      rcases h2 with h2 | h2 <;> rcases h2' with h2' | h2' <;> (rw [h2] at h2'; cases h2' <;> rfl)
    subst e
    rw [h4] at h4'; cases h4'
    exact h5.uniq h5'
theorem RdAt.uniq {σ : L2.St} {H H' : Hp} {x : Nat} {k : List Int} {a a' : Addr} (h : RdAt σ H x k a) (s : Same H H') (h' : RdAt σ H' x k a') : a = a' := by
  obtain ⟨v, e, h⟩ := h
  obtain ⟨v', e', h'⟩ := h'
  rw [e] at e'; cases e'
  exact (h.same s).uniq h'
theorem atO_loc {Γ : En} {x : Nat} {k : List Int} {es : List O} (h : atO Γ x k = some es) : ∃ o, getS Γ x = some o ∧ locO k o = some es := by
  unfold atO at h
  rw [Option.bind_eq_some_iff] at h
  exact h
theorem putO_rep {Γ Γ' : En} {x : Nat} {k : List Int} {o : O} {es' : List O} (e : getS Γ x = some o) (h : putO Γ x es' k = some Γ') : ∃ o', repO es' k o = some o' ∧ Γ' = setS Γ x (some o') := by
  unfold putO at h
  rw [e, Option.bind_some, Option.map_eq_some_iff] at h
  obtain ⟨o', h1, h2⟩ := h
  exact ⟨o', h1, h2.symm⟩
/-- one of several, and the others -/
theorem rOs.focus {H : Hp} {av : Addr → Prop} {os : List O} {vs : List V} {cs : List Addr} {j : Nat} {oj : O} (r : rOs H av os vs cs) (e : os[j]? = some oj) :
    ∃ w cj rs, vs[j]? = some w ∧ rO H av oj w cj ∧ cs.Perm (cj ++ rs) ∧ ∀ (H2 : Hp) (av2 : Addr → Prop) (oj' : O) (cj' : List Addr), rO H2 av2 oj' w cj' → (∀ b ∈ rs, ∀ u, H b = some u → H2 b = some u) → Kept av H H2 → (∀ z, av z → av2 z) →
      ∃ cs', rOs H2 av2 (os.set j oj') vs cs' ∧ cs'.Perm (cj' ++ rs) := by
  obtain ⟨ts, rfl, rfl, rfl, ht⟩ := rOs_tr.mp r
  have hlt : j < ts.length := by
    have := (List.getElem?_eq_some_iff.mp e).1
    simpa using this
  have etj : (ts[j]).1 = oj := by
    rw [List.getElem?_map, List.getElem?_eq_getElem hlt] at e
    simpa using e
  have rj := ht ts[j] (List.getElem_mem hlt)
  rw [etj] at rj
  have e1 : ts = ts.take j ++ ts[j] :: ts.drop (j + 1) := by
    rw [← List.drop_eq_getElem_cons hlt, List.take_append_drop]
  let rs := ts.take j ++ ts.drop (j + 1)
  have pf : ∀ (t : Tr), ((ts.take j ++ t :: ts.drop (j + 1)).flatMap (·.2.2)).Perm (t.2.2 ++ rs.flatMap (·.2.2)) := fun t => by
    have := (List.perm_middle (a := t) (l₁ := ts.take j) (l₂ := ts.drop (j + 1))).flatMap_right (fun t : Tr => t.2.2)
    simpa [rs] using this
  refine ⟨(ts[j]).2.1, (ts[j]).2.2, rs.flatMap (·.2.2), ?_, rj, ?_, ?_⟩
  · rw [List.getElem?_map, List.getElem?_eq_getElem hlt]; rfl
  · have := pf ts[j]
    rwa [← e1] at this
  · intro H2 av2 oj' cj' h2 h3 h4 h5
    let t' : Tr := (oj', (ts[j]).2.1, cj')
    let ts' : List Tr := ts.take j ++ t' :: ts.drop (j + 1)
    have es1 : ts.set j t' = ts' := by rw [List.set_eq_take_append_cons_drop, if_pos hlt]
    have m1 : (ts.map (·.1)).set j oj' = ts'.map (·.1) := by rw [← es1, List.map_set]
    have m2 : ts.map (·.2.1) = ts'.map (·.2.1) := by
      rw [← es1, List.map_set]
      symm
      apply List.ext_getElem?
      intro n
      rw [List.getElem?_set]
      split
      · rename_i q
        subst q
        rw [List.length_map, if_pos hlt, List.getElem?_map, List.getElem?_eq_getElem hlt]
        rfl
      · rfl
    have rest : ∀ t ∈ rs, rO H2 av2 t.1 t.2.1 t.2.2 := fun t hm => by
      have hmt : t ∈ ts := by
        rcases List.mem_append.mp hm with z | z
        · exact List.mem_of_mem_take z
        · exact List.mem_of_mem_drop z
      exact (ht t hmt).kept h4 h5 fun z hz u e => h3 z (List.mem_flatMap.mpr ⟨t, hm, hz⟩) u e
    refine ⟨ts'.flatMap (·.2.2), ?_, pf t'⟩
    rw [m1, m2]
    refine rOs_tr.mpr ⟨ts', rfl, rfl, rfl, fun t hm => ?_⟩
    rcases List.mem_append.mp hm with z | z
    · exact rest t (List.mem_append_left _ z)
    · rcases List.mem_cons.mp z with rfl | z
      · exact h2
      · exact rest t (List.mem_append_right _ z)
theorem loc_ok {H : Hp} {av : Addr → Prop} : ∀ {k : List Int} {o : O} {v : V} {c : List Addr} {es : List O}, rO H av o v c → c.Nodup → locO k o = some es →
    ∃ a xs ce rest, H a = some (.lst xs) ∧ rOs H av es xs ce ∧ c.Perm (a :: (ce ++ rest)) ∧ RdP H v k a ∧
      ∀ (H2 : Hp) (av2 : Addr → Prop) (es' : List O) (xs' : List V) (ce' : List Addr) (o' : O), H2 a = some (.lst xs') → rOs H2 av2 es' xs' ce' → (∀ b ∈ rest, ∀ u, H b = some u → H2 b = some u) → Kept av H H2 → (∀ z, av z → av2 z) → repO es' k o = some o' →
        ∃ c', rO H2 av2 o' v c' ∧ c'.Perm (a :: (ce' ++ rest))
  | [], o, v, c, es, r, nd, hl => by
    cases o <;> simp only [locO, Option.some.injEq, reduceCtorEq] at hl
    subst hl
    simp only [rO] at r
    obtain ⟨a, vs, cs', rfl, ha, rfl, hos⟩ := r
    refine ⟨a, vs, cs', [], ha, hos, by simp, rfl, ?_⟩
    intro H2 av2 es' xs' ce' o' h1 h2 h3 h4 h5 h6
    simp only [repO, Option.some.injEq] at h6
    subst h6
    exact ⟨a :: ce', by simp only [rO]; exact ⟨a, xs', ce', rfl, h1, rfl, h2⟩, by simp⟩
  | i :: is, o, v, c, es, r, nd, hl => by
    -- among several
    have many : ∀ (os : List O) (vs : List V) (cs' : List Addr), rOs H av os vs cs' → cs'.Nodup → ((pix os.length i).bind fun j => os[j]?).bind (locO is) = some es →
        ∃ a xs ce rest j oj w, pix os.length i = some j ∧ os[j]? = some oj ∧ atI vs i = some w ∧ H a = some (.lst xs) ∧ rOs H av es xs ce ∧ cs'.Perm (a :: (ce ++ rest)) ∧ RdP H w is a ∧
          ∀ (H2 : Hp) (av2 : Addr → Prop) (es' : List O) (xs' : List V) (ce' : List Addr) (oj' : O), H2 a = some (.lst xs') → rOs H2 av2 es' xs' ce' → (∀ b ∈ rest, ∀ u, H b = some u → H2 b = some u) → Kept av H H2 → (∀ z, av z → av2 z) → repO es' is oj = some oj' →
            ∃ cs2, rOs H2 av2 (os.set j oj') vs cs2 ∧ cs2.Perm (a :: (ce' ++ rest)) := by
      intro os vs cs' hos nd' hb
      rw [Option.bind_eq_some_iff] at hb
      obtain ⟨oj, hb, hloc⟩ := hb
      rw [Option.bind_eq_some_iff] at hb
      obtain ⟨j, ej, eo⟩ := hb
      obtain ⟨w, cj, rs, ew, rj, hp, build⟩ := hos.focus eo
      have ndj : cj.Nodup := (List.nodup_append.mp (hp.nodup_iff.mp nd')).1
      obtain ⟨a, xs, ce, rest, ha, hes, hpj, hrd, bj⟩ := loc_ok (k := is) rj ndj hloc
      refine ⟨a, xs, ce, rest ++ rs, j, oj, w, ej, eo, ?_, ha, hes, ?_, hrd, ?_⟩
      · unfold atI
        rw [hos.length]
        show (pix os.length i).bind _ = _
        rw [ej]
        exact ew
      · refine hp.trans ((hpj.append_right rs).trans ?_)
        rw [List.cons_append, List.append_assoc]
      · intro H2 av2 es' xs' ce' oj' h1 h2 h3 h4 h5 h6
        obtain ⟨cj', rj', pj'⟩ := bj H2 av2 es' xs' ce' oj' h1 h2 (fun b hb => h3 b (by simp [hb])) h4 h5 h6
        obtain ⟨cs2, r2, p2⟩ := build H2 av2 oj' cj' rj' (fun b hb => h3 b (by simp [hb])) h4 h5
        refine ⟨cs2, r2, p2.trans ((pj'.append_right rs).trans ?_)⟩
        rw [List.cons_append, List.append_assoc]
    cases o with
    | lst os =>
      simp only [locO] at hl
      simp only [rO] at r
      obtain ⟨b, vs, cs', rfl, hb, rfl, hos⟩ := r
      obtain ⟨a, xs, ce, rest, j, oj, w, ej, eo, hat, ha, hes, hp, hrd, build⟩ := many os vs cs' hos (List.nodup_cons.mp nd).2 hl
      have p1 : (b :: cs').Perm (a :: (ce ++ (b :: rest))) := by
        refine (hp.cons b).trans ((List.Perm.swap a b _).trans (List.Perm.cons a ?_))
        exact (List.perm_middle (a := b) (l₁ := ce) (l₂ := rest)).symm
      have hne : b ≠ a := fun z => by
        have := (List.nodup_cons.mp (p1.nodup_iff.mp nd)).1
        rw [← z] at this
        simp at this
      refine ⟨a, xs, ce, b :: rest, ha, hes, p1, ⟨b, vs, w, rfl, .inl hb, hne, hat, hrd⟩, ?_⟩
      intro H2 av2 es' xs' ce' o' h1 h2 h3 h4 h5 h6
      simp only [repO, ej, Option.bind_some, eo] at h6
      rw [Option.map_eq_some_iff] at h6
      obtain ⟨oj', h6, rfl⟩ := h6
      obtain ⟨cs2, r2, p2⟩ := build H2 av2 es' xs' ce' oj' h1 h2 (fun z hz => h3 z (by simp [hz])) h4 h5 h6
      refine ⟨b :: cs2, by simp only [rO]; exact ⟨b, vs, cs2, rfl, h3 b (by simp) _ hb, rfl, r2⟩, ?_⟩
      refine (p2.cons b).trans ((List.Perm.swap a b _).trans (List.Perm.cons a ?_))
      exact (List.perm_middle (a := b) (l₁ := ce') (l₂ := rest)).symm
    | tup os =>
      simp only [locO] at hl
      simp only [rO] at r
      obtain ⟨b, vs, rfl, hb, hos⟩ := r
      obtain ⟨a, xs, ce, rest, j, oj, w, ej, eo, hat, ha, hes, hp, hrd, build⟩ := many os vs c hos nd hl
      have hne : b ≠ a := fun z => by rw [z, ha] at hb; cases hb
      refine ⟨a, xs, ce, rest, ha, hes, hp, ⟨b, vs, w, rfl, .inr hb, hne, hat, hrd⟩, ?_⟩
      intro H2 av2 es' xs' ce' o' h1 h2 h3 h4 h5 h6
      simp only [repO, ej, Option.bind_some, eo] at h6
      rw [Option.map_eq_some_iff] at h6
      obtain ⟨oj', h6, rfl⟩ := h6
      obtain ⟨cs2, r2, p2⟩ := build H2 av2 es' xs' ce' oj' h1 h2 h3 h4 h5 h6
      refine ⟨cs2, ?_, p2⟩
      simp only [rO]
      exact ⟨b, vs, rfl, h4.fix b _ hb (fun _ z => by cases z) (fun _ z => by cases z), r2⟩
    | sh d => simp [locO] at hl
    | dic ps => simp [locO] at hl
theorem Sub.nodup {α : Type} {l' l : List α} (h : Sub l' l) (n : l.Nodup) : l'.Nodup := by
  obtain ⟨r, p⟩ := h
  exact (List.nodup_append.mp (p.nodup_iff.mp n)).2.1
theorem setσ {σ : L2.St} {i : Nat} {v : V} (h : σ[i]? = some (some v)) : σ.set i (some v) = σ := by
  apply List.ext_getElem?
  intro j
  rw [List.getElem?_set]
  split
  · rename_i q
    subst q
    rw [if_pos (List.getElem?_eq_some_iff.mp h).1, h]
  · rfl
/-- THE MUTATION -/
theorem slot_mut {H0 H1 : Hp} {av : Addr → Prop} {Γ Γ' : En} {σ : L2.St} {args : List O} {vs : List V} {ca cs : List Addr} {m : Mu} {x : Nat} {k : List Int} (st : StKs H0 H1 av Γ σ args vs ca cs) (h : mutAt m x k args Γ = some Γ') :
    ∃ a xs', RdAt σ H1 x k a ∧ (∃ xs, H1 a = some (.lst xs)) ∧ (∀ Q : VK, (∀ u, Q u (upd H1 a (.lst xs'))) → rMu m (.ref a) vs H1 Q) ∧ ∃ r, StR H0 (upd H1 a (.lst xs')) av Γ' σ r := by
  unfold mutAt at h
  rw [Option.bind_eq_some_iff] at h
  obtain ⟨es, h1, h⟩ := h
  rw [Option.bind_eq_some_iff] at h
  obtain ⟨es', h2, h3⟩ := h
  obtain ⟨o, eg, hl⟩ := atO_loc h1
  obtain ⟨o', ho', rfl⟩ := putO_rep eg h3
  obtain ⟨v, c, r, e1, e2, e3, e4⟩ := st.rel.take eg
  obtain ⟨a, xs, ce, rest, ha, hes, hp, hrd, build⟩ := loc_ok e2 (List.nodup_append.mp (e4.nodup_iff.mp (List.nodup_append.mp st.nd).2.1)).1 hl
  obtain ⟨xs', hr, ce', hes', hsub⟩ := mu_cell ha hes st.val h2
  -- the cells
  have tot : (ca ++ cs).Perm (a :: ((ca ++ ce) ++ (rest ++ r))) := by
    refine ((e4.trans (hp.append_right r)).append_left ca).trans ?_
    rw [List.cons_append]
    refine List.perm_middle.trans (List.Perm.cons a ?_)
    rw [List.append_assoc, List.append_assoc]
  have nd := tot.nodup_iff.mp st.nd
  have hna := (List.nodup_cons.mp nd).1
  have hsubT : Sub (a :: (ce' ++ (rest ++ r))) (ca ++ cs) := by
    obtain ⟨q, p⟩ := hsub
    refine ⟨q, tot.trans ?_⟩
    refine ((p.append_right (rest ++ r)).cons a).trans ?_
    rw [List.append_assoc]
    exact List.perm_middle.symm
  have ain : a ∈ ca ++ cs := tot.mem_iff.mpr (by simp)
  have upk : ∀ b, b ≠ a → ∀ u, H1 b = some u → upd H1 a (.lst xs') b = some u := fun b hb u e => by rw [upd_ne hb]; exact e
  have kp : Kept (fun b => av b ∧ b ∉ ca ++ cs) H1 (upd H1 a (.lst xs')) := ⟨fun b u e hb => upk b (fun z => hb.2 (z ▸ ain)) u e, fun b u e q1 q2 => upk b (fun z => by subst z; rw [ha] at e; cases e; exact q1 _ rfl) u e⟩
  have w : ∀ b, (av b ∧ b ∉ ca ++ cs) → av b ∧ b ∉ a :: (ce' ++ (rest ++ r)) := fun b hb => ⟨hb.1, fun z => hb.2 (hsubT.mem z)⟩
  obtain ⟨c', rc', pc'⟩ := build (upd H1 a (.lst xs')) (fun b => av b ∧ b ∉ a :: (ce' ++ (rest ++ r))) es' xs' ce' o' upd_same
    (hes'.kept kp w fun b hb u e => upk b (fun z => hna (by
      rw [← z]
      have := hsub.mem hb
      rcases List.mem_append.mp this with q | q <;> simp [q])) u e)
    (fun b hb u e => upk b (fun z => hna (by rw [← z]; simp [hb])) u e) kp w ho'
  have rr : rP (upd H1 a (.lst xs')) (fun b => av b ∧ b ∉ a :: (ce' ++ (rest ++ r))) (setS Γ x none) σ r :=
    rP.kept kp w e3 fun b hb u e => upk b (fun z => hna (by rw [← z]; simp [hb])) u e
  have pp := rr.put rc' (getS_none Γ x) (by rw [setS_len]; exact getS_lt eg)
  rw [setS_set, setσ e1] at pp
  refine ⟨a, xs', ?_, ⟨xs, ha⟩, hr, a :: (ce' ++ (rest ++ r)), ?_, hsubT.nodup st.nd, fun b hb => st.new b (hsubT.mem hb), ?_⟩
  · exact ⟨v, e1, hrd⟩
  · intro b u e
    have hb : b ≠ a := fun z => by subst z; rw [st.new _ ain] at e; cases e
    rw [upd_ne hb]
    exact st.same b u e
  · refine pp.perm ?_
    refine (pc'.append_right r).trans ?_
    rw [List.cons_append, List.append_assoc]
end Rp

set_option Elab.async false
set_option linter.all false
set_option maxRecDepth 100000
set_option maxHeartbeats 4000000
/-! RpSt7: stores, as statements. -/
namespace Rp
open PySem PySem.Spec PyProof.Rows L2

/-- no comprehension -/
def noComp : Expr → Bool
  | .ListComp _ _ _ _ => false | .SetComp _ _ _ _ => false | .DictComp _ _ _ _ _ => false | _ => true
def noTup : Expr → Bool
  | .Tuple _ _ _ => false | _ => true
theorem noComp_sw {a : Expr} (h : noComp a = true) (t : Option Expr) (l : Nat) (env : PySem.Env) (hn : t ≠ none) : swapsWith a t l env = pure false := by
  cases a <;> first | rfl | (simp [noComp] at h)
theorem noTup_st {a : Expr} (h : noTup a = true) (ts : List Expr) (env : PySem.Env) : swappedStores ts a env = pure none := by
  unfold swappedStores
  split
  · rename_i q
    split at q
    · simp [noTup] at h
    · simp [noTup] at h
    · cases q
  · rfl
section
variable {M : MC} {G : Cfg} {X : Cx}
theorem asg_red {tg : List Nat} {e : Ex} {te : TE} (h : ∀ σ H Q, tK G e σ H Q → te σ H Q) : ∀ (D : Ends) σ H, tS G (.asg tg e) D σ H → tAsg te (gT X.K tg) D σ H := by
  intro D σ H ⟨H0, av, Γ, cs, st, nw, q⟩
  simp only [exec] at q
  refine h σ H _ ⟨H0, av, Γ, cs, st, nw, (q.out st.same).imp fun p hp => ?_⟩
  intro v H' c cs' s k
  obtain ⟨Γ', eb, hq⟩ := hp.2.of
  exact gT_okO k eb fun σ' r st' => hq σ' H' r st'
theorem st_asg1 {i : Nat} {e : Ex} {x : Str} {a : Expr} {p pos : Pos} {sc : Scope} (fc : FnCx X sc) (g : Good M G X) (ht : tgB M sc i x = true) (h : PE X a (tK G e)) (hc : noComp a = true) : PS X (.Assign [.Name x p] a pos) (tS G (.asg [i] e)) := by
  simp only [tgB, Bool.and_eq_true, beq_iff_eq] at ht
  obtain ⟨h1, h2⟩ := fc.ok.loc x ht.2
  exact ps_imp (ps_set g.nd (by rw [g.hN]; exact ht.1) h1 h (noComp_sw hc _ _ _ (by simp)) h2) (asg_red (X := X) fun _ _ _ q => q)
theorem st_asgN {i j : Nat} {is : List Nat} {e : Ex} {es : List Expr} {a : Expr} {k : Nat} {p pos : Pos} {sc : Scope} (fc : FnCx X sc) (g : Good M G X) (ht : matchTs M sc (i :: j :: is) es = true) (h : PE X a (tK G e)) (hc : noComp a = true) (hn : noTup a = true) :
    PS X (.Assign [.Tuple es k p] a pos) (tS G (.asg (i :: j :: is) e)) :=
  ps_imp (ps_asg h (pg_t (e := .Tuple es k p) (by simpa only [matchT] using ht) g fc.ok) (show swapsWith a (some (.Tuple es k p)) pos.line X.env = pure false from noComp_sw hc _ _ _ (by simp)) (noTup_st hn _ _)) (asg_red (X := X) fun _ _ _ q => q)
/-- name = [.. for ..] -/
theorem st_asgC {i : Nat} {elt : Ex} {tg : List Nat} {it : Itx} {cond : Exs} {own : List Nat} {x : Str} {elt' : Expr} {gens : List Comprehension} {scope : Scope} {p p2 pos : Pos} {sc : Scope} (fc : FnCx X sc) (g : Good M G X) (ht : tgB M sc i x = true)
    (h : mE M sc (.comp elt tg it cond own) (.ListComp elt' gens scope p2) = true) : PS X (.Assign [.Name x p] (.ListComp elt' gens scope p2) pos) (tS G (.asg [i] (.comp elt tg it cond own))) := by
  simp only [tgB, Bool.and_eq_true, beq_iff_eq] at ht
  have hs := fc.ok
  obtain ⟨l1, l2⟩ := hs.loc x ht.2
  have hsw : swapsWith (.ListComp elt' gens scope p2) (some (.Name x p)) pos.line X.env = pure (X.env.blockKind == .function && X.env.kindOf x == some .local && p.line == p2.line && !(scope.names.any fun (n, k) => n == x && (k == .local || k == .cell))) := rfl
  cases hb : (X.env.blockKind == .function && X.env.kindOf x == some .local && p.line == p2.line && !(scope.names.any fun (n, k) => n == x && (k == .local || k == .cell))) with
  | false =>
    rw [hb] at hsw
    exact ps_imp (ps_set g.nd (by rw [g.hN]; exact ht.1) l1 (soundK (.comp elt tg it cond own) h g hs) hsw l2) (asg_red (X := X) fun _ _ _ q => q)
  | true =>
    rw [hb] at hsw
    simp only [Bool.and_eq_true, beq_iff_eq] at hb
    match gens, h with
    | [⟨tg', it', ifs, k⟩], h =>
      simp only [mE, Bool.and_eq_true, decide_eq_true_eq] at h
      obtain ⟨rfl, h1, h2, h3, h4, h5, h6, h7⟩ := h
      have ok : BlkOk X.N X.env.scope scope (own.map fun i => ((M.N[i]?).getD "", i)) := by
        rw [g.hN]
        exact BlkOk.of_sc (blkOk_by h1) hs
      have hc : cond = .nil ∨ ∃ c, cond = .cons c .nil := by
        match cond, ifs, h6 with
        | .nil, _, _ => exact .inl rfl
        | .cons c .nil, _, _ => exact .inr ⟨c, rfl⟩
        | .cons c (.cons _ _), _, h6 => simp [mC] at h6
      refine ps_imp (ps_setLc (g := gT X.K tg) (tt := tTs G.quiet cond) g.calm g.nd (by rw [g.hN]; exact ht.1) hb.1.1.2 hsw (soundI it h3 g hs) ok (fun s H C cl fp => pg_t h5 (g.blk s H scope C cl fp) (hs.blk ok s H C cl fp))
        (fun s H C cl fp => soundC cond h6 (g.blk s H scope C cl fp) (hs.blk ok s H C cl fp))
        (fun s H C cl fp => (soundE elt h7 (g.blk s H scope C cl fp) (hs.blk ok s H C cl fp)).pe) (plain_fold h4 X.env)) (asg_red (X := X) fun σ H Q q => ?_)
      rw [own_snd]
      exact comp_red (fun i hi => by have := List.all_eq_true.mp h2 i hi; simpa using this) hc σ H Q (tK_red rfl σ H Q q)
    | [], h => simp [mE] at h
    | _ :: _ :: _, h => simp [mE] at h
/-- x += e, x -= e -/
theorem StR.setI {H0 H : Hp} {av : Addr → Prop} {Γ : En} {σ : L2.St} {cs : List Addr} (st : StR H0 H av Γ σ cs) (i : Nat) (v : V) (d : PyData) (h : valD v = some d) : ∃ r, StR H0 H av (setS Γ i (some (.sh d))) (σ.set i (some v)) r :=
  StK.set (c := []) ⟨st.same, st.nd, st.new, st.rel, by simp only [rO]; exact ⟨Rv.val h, trivial⟩⟩ i
theorem st_aug {i : Nat} {op : Bop} {o : Operator} {f : Int → Int → Int} {e : Ex} {x : Str} {a : Expr} {p pos : Pos} {sc : Scope} (fc : FnCx X sc) (g : Good M G X) (ht : tgB M sc i x = true) (h : SE G X e a) (hp : PIp X o (ipI f)) (hf : ∀ i j, bop op (.int i) (.int j) = some (.int (f i j))) :
    PS X (.AugAssign (.Name x p) o a pos) (tS G (.aug i op e)) := by
  simp only [tgB, Bool.and_eq_true, beq_iff_eq] at ht
  obtain ⟨h1, h2⟩ := fc.ok.loc x ht.2
  refine ps_imp (ps_aug g.nd (by rw [g.hN]; exact ht.1) h1 h.pe hp h2) ?_
  intro D σ H ⟨H0, av, Γ, cs, st, nw, q⟩
  simp only [exec] at q
  obtain ⟨d, ed, q⟩ := q.of
  have env := st.full nw (i :: srcs e)
  obtain ⟨v, ev1, rv⟩ := env.at_ i (by simp) d ed
  refine ⟨v, ev1, tE.use (env.sub fun j hj => by simp [hj]) (nw.here st.same) (q.out st.same) fun o ho v2 H1 c1 s1 nd1 n1 r1 => ?_⟩
  obtain ⟨-, ho⟩ := ho
  have rv2 := rO.er r1 (nw.here st.same) n1
  generalize er o = d2 at ho rv2
  cases rv <;> cases rv2 <;> first | exact ho.elim | skip
  rename_i i1 i2
  simp only [hf] at ho
  obtain ⟨r, st'⟩ := (st.grow s1).setI i (.int (f i1 i2)) _ rfl
  exact ⟨i1, i2, rfl, rfl, ho _ _ _ st'⟩
/-! a dict's entry -/
theorem putK_rel {k : Int} {v : V} {d : PyData} (hv : valD v = some d) {kvs : List (Key × V)} {ps : List (PyData × PyData)} (h : KRel kvs ps) : KRel (putK kvs (.inl k) v) (dput k d ps) := by
  have he : ∀ {kvs : List (Key × V)} {ps : List (PyData × PyData)}, KRel kvs ps → (kvs.any fun kv => decide (kv.1 = Sum.inl k)) = (ps.any fun p => PyData.eqv p.1 (.int k)) := by
    intro kvs ps h
    induction h with
    | nil => rfl
    | cons h1 h2 ih =>
      simp only [List.any_cons, ih]
      congr 1
      obtain ⟨e1, e2⟩ := h1
      rw [← e1]
      exact Bool.eq_iff_iff.mpr (by simp [keyD_eqv])
  unfold putK dput
  rw [he h]
  split
  · rename_i hq
    clear he hq
    induction h with
    | nil => exact .nil
    | @cons a b l1 l2 h1 h2 ih =>
      simp only [List.map_cons]
      refine .cons ?_ ih
      obtain ⟨e1, e2⟩ := h1
      by_cases hk : a.1 = .inl k
      · rw [if_pos hk, if_pos (by rw [← e1]; exact (keyD_eqv _ _).mpr hk)]
        exact ⟨e1, hv⟩
      · rw [if_neg hk, if_neg (by rw [← e1]; exact fun z => hk ((keyD_eqv _ _).mp z))]
        exact ⟨e1, e2⟩
  · exact Paired.snoc h ⟨rfl, hv⟩
theorem scal_val {v : V} {d : PyData} {H : Hp} {av : Addr → Prop} (r : Rv H av v d) (h : scal d = true) : valD v = some d := by
  cases r <;> first | rfl | (simp [scal] at h)
theorem plain_asg {o i : Expr} {pos : Pos} {env : PySem.Env} (h : plainE i = true) : ∀ v, assign (.Subscript o i pos) env v = (do
      let ov ← holding [v] (eval o env)
      let iv ← holding [v, ov] (eval i env)
      standAt pos
      holding [v, ov, iv] (setItem ov iv v)
      release [v, ov, iv] []) := by
  intro v
  cases i <;> first | rfl | simp [plainE] at h
theorem noComp_sub {a : Expr} (h : noComp a = true) (o i : Expr) (p : Pos) (l : Nat) (env : PySem.Env) : swapsWith a (some (.Subscript o i p)) l env = pure false := noComp_sw h _ _ _ (by simp)
/-- d[k] = e -/
theorem st_dput {x : Nat} {k e : Ex} {y : Str} {ka ea : Expr} {p p2 pos : Pos} {sc : Scope} (fc : FnCx X sc) (g : Good M G X) (hx : varB M sc x y = true) (hk : SE G X k ka) (he : SE G X e ea) (hc : noComp ea = true) : PS X (.Assign [.Subscript (.Name y p) ka p2] ea pos) (tS G (.dput x k e)) := by
  obtain ⟨h1, h2, h3, h4⟩ := varB_of hx g fc.ok
  have hu := g.units
  refine ps_imp (ps_dput (by omega) (pe_var h1 h2 h3 h4) hk.pe he.pe (noComp_sub hc _ _ _ _ _)) ?_
  intro D σ H ⟨H0, av, Γ, cs, st, nw, q⟩
  simp only [exec] at q
  have nwh := nw.here st.same
  refine tE.use (st.full nw _) nwh (q.out st.same) fun o ho v H1 c1 s1 nd1 n1 r1 => ?_
  obtain ⟨-, ho⟩ := ho
  cases eg : getS Γ x with
  | none => rw [eg] at ho; exact ho.elim
  | some ob =>
    rw [eg] at ho
    cases ob with
    | dic kvs =>
      have st1 := st.grow s1
      obtain ⟨vx, c, r, e1, e2, e3, e4⟩ := st1.rel.take eg
      refine ⟨vx, e1, ?_⟩
      simp only at ho
      refine tE.use (st1.full nw _) (nwh.same s1) (ho.out st1.same) fun oz hz z H2 c2 s2 nd2 n2 r2 => ?_
      obtain ⟨-, hz⟩ := hz
      have rz := rO.er r2 (nwh.same s1) n2
      have rv := (rO.er r1 nwh n1).same s2
      generalize er oz = dz at hz rz
      generalize er o = dv at hz rv
      cases rz <;> first | exact hz.elim | skip
      rename_i i
      simp only at hz
      split at hz
      · rename_i hcond
        simp only [Bool.and_eq_true, decide_eq_true_eq] at hcond
        have hval := scal_val rv hcond.1
        simp only [rO] at e2
        obtain ⟨a, kps, rfl, ha, rfl, hrel⟩ := e2
        have ha2 := s2 _ _ ha
        have st2 := st1.grow s2
        have hlen : kps.length = kvs.length := by
          clear hz hcond e4 eg ha ha2 ho
          induction hrel with
          | nil => rfl
          | cons _ _ ih => simp [ih]
        refine ⟨a, upd H2 a (.dK (putK kps (.inl i) v)), rfl, (show DPut H2 a (kV (.inl i)) v _ from DPut.k ha2 (by rw [hlen]; exact hcond.2)), ?_⟩
        obtain ⟨q1, q2, q3⟩ := part_sub e4
        have ain : a ∈ cs := e4.mem_iff.mpr (by simp)
        have anr : a ∉ r := q3 st.nd a (by simp)
        have upk : ∀ b, b ≠ a → ∀ u, H2 b = some u → upd H2 a (.dK (putK kps (.inl i) v)) b = some u := fun b hb u e => by rw [upd_ne hb]; exact e
        have kp : Kept (fun b => av b ∧ b ∉ cs) H2 (upd H2 a (.dK (putK kps (.inl i) v))) := ⟨fun b u e hb => upk b (fun z => hb.2 (z ▸ ain)) u e, fun b u e w1 w2 => upk b (fun z => by subst z; rw [ha2] at e; cases e; exact w2 _ rfl) u e⟩
        have rr := rP.kept (av' := fun b => av b ∧ b ∉ [a] ++ r) kp (fun b hb => ⟨hb.1, fun z => hb.2 (e4.mem_iff.mpr z)⟩) (e3.same s2) fun b hb u e => upk b (fun z => anr (z ▸ hb)) u e
        have pp := rr.put (o := .dic (dput i dv kvs)) (v := .ref a) (c := [a]) (by simp only [rO]; exact ⟨a, _, rfl, upd_same, rfl, putK_rel hval hrel⟩) (getS_none Γ x) (by rw [setS_len]; exact getS_lt eg)
        rw [setS_set, setσ e1] at pp
        refine hz σ _ ([a] ++ r) ⟨fun b u e => ?_, e4.nodup_iff.mp st.nd, fun b hb => st.new b (e4.mem_iff.mpr hb), pp⟩
        rw [upd_ne fun z => by subst z; rw [st.new _ ain] at e; cases e]
        exact st2.same b u e
      · exact hz.elim
    | _ => exact ho.elim
/-! method calls and item stores -/
def tRecv (G : Cfg) (x : Nat) (path : Exs) : TE := fun σ H Q => ∃ (avs av : Addr → Prop) (Γ : En) (cs : List Addr), rP H avs Γ σ cs ∧ cs.Nodup ∧ EnvR H av (eEnv Γ) σ (srcss path) ∧ New H av ∧ (∃ o, getS Γ x = some o) ∧ Ans G σ H (evPath G.Φ G.gt (eEnv Γ) path) fun k => ∃ es, atO Γ x k = some es ∧
  ∀ a H1 xs, Same H H1 → RdAt σ H1 x k a → H1 a = some (.lst xs) → Q (.ref a) H1
def mRecv (M : MC) (sc : Scope) (x : Nat) : Exs → Expr → Bool
  | .nil, .Name y _ => varB M sc x y
  | .cons e .nil, .Subscript (.Name y _) b _ => varB M sc x y && mE M sc e b
  | _, _ => false
theorem mRecv_base {sc : Scope} {x : Nat} {path : Exs} {a : Expr} (h : mRecv M sc x path a = true) : baseOk a = true := by
  unfold mRecv at h
  split at h <;> first | rfl | cases h
theorem recv_ok {sc : Scope} {x : Nat} {path : Exs} {a : Expr} (h : mRecv M sc x path a = true) (g : Good M G X) (hs : ScOk X sc) : PE X a (tRecv G x path) := by
  unfold mRecv at h
  split at h
  · obtain ⟨h1, h2, h3, h4⟩ := varB_of h g hs
    refine pe_imp (pe_var h1 h2 h3 h4) ?_
    intro σ H Q ⟨avs, av, Γ, cs, rp, nd, env, nw, ⟨og, hog⟩, q⟩
    simp only [evPath] at q
    obtain ⟨es, ha, q⟩ := q
    obtain ⟨o, eg, hl⟩ := atO_loc ha
    obtain ⟨v, c, r, e1, e2, e3, e4⟩ := rp.take eg
    obtain ⟨a, xs, ce, rest, hx, hes, hp, hrd, -⟩ := loc_ok e2 (List.nodup_append.mp (e4.nodup_iff.mp nd)).1 hl
    have hrd' : v = .ref a := hrd
    exact ⟨v, e1, by rw [hrd']; exact q a H xs (Same.refl H) ⟨v, e1, hrd⟩ hx⟩
  · rename_i e y p2 b p3
    simp only [Bool.and_eq_true] at h
    obtain ⟨h1, h2, h3, h4⟩ := varB_of h.1 g hs
    refine pe_imp (pe_ix ix_seq (pe_var h1 h2 h3 h4) (soundE e h.2 g hs).pe (plain_ix (mE_plain h.2))) ?_
    intro σ H Q ⟨avs, av, Γ, cs, rp, nd, env, nw, ⟨og, hog⟩, q⟩
    simp only [evPath] at q
    simp only [srcss, List.append_nil] at env
    -- the slot's value
    have hv : ∃ v, σ[x]? = some (some v) := by
      obtain ⟨v, c, r, e1, _⟩ := rp.take hog
      exact ⟨v, e1⟩
    obtain ⟨v, e1⟩ := hv
    refine ⟨v, e1, tE.use env nw q.bind fun o ho v2 H1 c1 s1 nd1 n1 r1 => ?_⟩
    obtain ⟨-, ho⟩ := ho
    have rv := rO.er r1 nw n1
    generalize er o = d at ho rv
    cases rv <;> first | exact ho.elim | skip
    rename_i i
    obtain ⟨es, ha, q⟩ := (show Ans G σ H (Res.ok [i]) _ from ho)
    obtain ⟨o2, eg, hl⟩ := atO_loc ha
    obtain ⟨v', c, r, e1', e2, e3, e4⟩ := rp.take eg
    rw [e1] at e1'
    cases e1'
    obtain ⟨a, xs, ce, rest, hx, hes, hp, hrd, -⟩ := loc_ok e2 (List.nodup_append.mp (e4.nodup_iff.mp nd)).1 hl
    have hq := q a H1 xs s1 ⟨v, e1, hrd.same s1⟩ (s1 _ _ hx)
    obtain ⟨b, ys, z, rfl, hb, hne, hat, rfl⟩ := hrd
    rcases hb with hb | hb
    · exact .inl ⟨b, ys, i, .ref a, rfl, rfl, .inl (.inl (s1 _ _ hb)), hat, hq⟩
    · exact .inr (.inl ⟨b, ys, i, .ref a, rfl, rfl, .inl (.inl (s1 _ _ hb)), hat, hq⟩)
  · cases h
def muN : Mu → Str
  | .append => "append" | .clear => "clear" | .pop => "pop" | .popAt => "pop" | .insert => "insert" | .reverse => "reverse" | .set => "__setitem__"
theorem st_mutR {m : Mu} {id : String} {x : Nat} {path args : Exs} {o : Expr} {as : List Expr} {apos pos pos' : Pos} {sc : Scope} (hset : m ≠ .set) (fc : FnCx X sc) (g : Good M G X) (hr : mRecv M sc x path o = true) (ha : mEs M sc args as = true) (hl : as.length < 30) (hline : (apos.endLine == pos.line) = true)
    (slot : Slot "list" (muN m) id) (hty : typeOf (.builtin id) = pure (.type "method_descriptor")) (hm : MtR X id (rMu m)) :
    PS X (.Expr (.Call (.Attribute o (muN m) apos) as [] pos) pos') (tS G (.mut m x path args)) := by
  have hrec := recv_ok hr g fc.ok
  have hb := base_ok (mRecv_base hr)
  have hargs := soundKs args ha g fc.ok
  have hes := soundEs args ha g fc.ok
  -- the whole, from the receiver on
  have key : ∀ D σ H, tS G (.mut m x path args) D σ H → tRecv G x path σ H fun v H1 => tyV X.K "list" v H1 ∧ tKs G args σ H1 fun vs H2 => rMu m v vs H2 fun _ H3 => D.nx σ H3 := by
    intro D σ H ⟨H0, av, Γ, cs, st, nw, q⟩
    have q : AnsS G H0 av D ((Res.of (getS Γ x)).out fun _ => (evPath G.Φ G.gt (eEnv Γ) path).out fun ks => if (atO Γ x ks).isSome then (evOs G.Φ G.gt args Γ).out fun p => (Res.of (mutAt m x ks p.1 p.2)).out .nx else .bad) := by
      cases m <;> first | exact absurd rfl hset | (simp only [exec] at q; exact q)
    obtain ⟨og, hog, q⟩ := q.of
    refine ⟨_, av, Γ, cs, st.rel, st.nd, st.full nw _, nw.here st.same, ⟨og, hog⟩, (q.out st.same).imp fun k hk => ?_⟩
    obtain ⟨-, hk⟩ := hk
    cases e : atO Γ x k with
    | none => rw [e] at hk; exact hk.elim
    | some es =>
      rw [e] at hk
      simp only [Option.isSome_some, if_true] at hk
      refine ⟨es, rfl, fun a H1 xs s1 hrd hx => ⟨.inl ⟨rfl, xs, .inl (.inl hx)⟩, ?_⟩⟩
      have st1 := st.grow s1
      refine ⟨H0, av, Γ, cs, st1, nw, (hk.out st1.same).imp fun p hp => ?_⟩
      obtain ⟨-, hp⟩ := hp
      obtain ⟨Γ', em, hp⟩ := hp.of
      intro vs H2 c cs2 s2 k2
      obtain ⟨a', xs', hrd', -, hru, r, st'⟩ := slot_mut k2 em
      obtain rfl := hrd.uniq s2 hrd'
      exact hru _ fun u => hp σ _ r st'
  cases hes with
  | nil =>
    refine ps_imp (ps_expr (pe_bm0 PySem.F.plainAttrs_list slot hty hm hrec (hb _ _ _) hline)) ?_
    intro D σ H q
    obtain ⟨avs, av, Γ, cs, rp, nd, env, nw, hg, q⟩ := key D σ H q
    refine ⟨avs, av, Γ, cs, rp, nd, env, nw, hg, q.imp fun k ⟨es, hes, hq⟩ => ⟨es, hes, fun a H1 xs s hrd hx => ?_⟩⟩
    obtain ⟨h1, h2⟩ := hq a H1 xs s hrd hx
    refine ⟨h1, ?_⟩
    obtain ⟨H0, av', Γ', cs', st', nw', q'⟩ := h2
    simp only [evOs] at q'
    exact q' [] H1 [] cs' (Same.refl _) ⟨st'.same, st'.nd, st'.new, st'.rel, by simp only [rOs]; exact ⟨trivial, trivial⟩⟩
  | @cons e es a as h1 hp h2 =>
    refine ps_imp (ps_expr (pe_bm PySem.F.plainAttrs_list slot hty hm hrec hargs (hb _ _ _) ((SEs.cons h1 hp h2).few pos hl) hline (plain_star hp _ _) (h2.any_false _ _))) ?_
    exact key
/-- x[i] = e -/
theorem st_set {x : Nat} {path : Exs} {i e : Ex} {o ia ea : Expr} {p pos : Pos} {sc : Scope} (fc : FnCx X sc) (g : Good M G X) (hr : mRecv M sc x path o = true) (hi : SE G X i ia) (he : PE X ea (tK G e)) (hc : noComp ea = true)
    (hpl : plainE ia = true) : PS X (.Assign [.Subscript o ia p] ea pos) (tS G (.mut .set x path (.cons i (.cons e .nil)))) := by
  refine ps_imp (ps_asg he (pg_sub (recv_ok hr g fc.ok) hi.pe set_list (plain_asg hpl)) (show swapsWith ea (some (.Subscript o ia p)) pos.line X.env = pure false from noComp_sub hc _ _ _ _ _) rfl) ?_
  intro D σ H ⟨H0, av, Γ, cs, st, nw, q⟩
  simp only [exec] at q
  refine ⟨H0, av, Γ, cs, st, nw, (q.out st.same).imp fun pr hp => ?_⟩
  obtain ⟨-, hp⟩ := hp
  obtain ⟨oe, Γ1⟩ := pr
  intro v H1 c cs1 s1 k1
  obtain ⟨og, hog, hp⟩ := hp.of
  have cav : ∀ a ∈ cs1, av a := fun a ha => nw a (k1.new a (by simp [ha]))
  have full : ∀ js, EnvR H1 av (eEnv Γ1) σ js := fun js => k1.rel.env (fun _ z => z.1) cav js
  have nw1 := nw.here k1.same
  refine ⟨_, av, Γ1, cs1, k1.rel, (List.nodup_append.mp k1.nd).2.1, full _, nw1, ⟨og, hog⟩, (hp.out k1.same).imp fun k hk => ?_⟩
  obtain ⟨-, hk⟩ := hk
  cases eat : atO Γ1 x k with
  | none => rw [eat] at hk; exact hk.elim
  | some es =>
    rw [eat] at hk
    simp only [Option.isSome_some, if_true] at hk
    refine ⟨es, rfl, fun a H2 xs s2 hrd hx => ?_⟩
    refine tE.use ((full _).same s2) (nw1.same s2) (hk.out (k1.same.trans s2)) fun oi hoi v3 H3 c3 s3 nd3 n3 r3 => ?_
    obtain ⟨-, hoi⟩ := hoi
    obtain ⟨Γ', em, hq⟩ := hoi.of
    have ri := rO.er r3 (nw1.same s2) n3
    have st3 : StKs H0 H3 av Γ1 σ [.sh (er oi), oe] [v3, v] c cs1 := by
      have s23 := s2.trans s3
      refine ⟨k1.same.trans s23, k1.nd, k1.new, k1.rel.same s23, ?_⟩
      simp only [rOs]
      refine ⟨v3, [v], [], c, rfl, rfl, ?_, v, [], c, [], rfl, by simp, k1.val.same s23, rfl, rfl⟩
      have hint : ∃ z, er oi = .int z := by
        unfold mutAt at em
        rw [Option.bind_eq_some_iff] at em
        obtain ⟨es2, -, em⟩ := em
        rw [Option.bind_eq_some_iff] at em
        obtain ⟨es3, em, -⟩ := em
        generalize er oi = d at em
        cases d <;> simp [mutO] at em
        exact ⟨_, rfl⟩
      obtain ⟨z, ez⟩ := hint
      rw [ez] at ri ⊢
      cases ri
      simp only [rO]
      exact ⟨.int z, trivial⟩
    obtain ⟨a', xs', hrd', -, hru, r, st'⟩ := slot_mut st3 em
    obtain rfl := hrd.uniq s3 hrd'
    obtain ⟨l, ys, i0, j, y, e1, e2, e3, e4, e5⟩ := hru (fun _ H4 => D.nx σ H4) fun u => hq σ _ r st'
    cases e1
    cases e2
    exact ⟨a, ys, i0, j, rfl, rfl, e3, e4, e5⟩
end
end Rp

set_option Elab.async false
set_option linter.all false
set_option maxRecDepth 100000
set_option maxHeartbeats 4000000
/-! RpAsgm: x = f(..), where the things handed over are given up. -/
namespace Rp
open PySem PySem.Spec PyProof.Rows L2
def tM (G : Cfg) (f : Nat) (es : Exs) : TE := fun σ H Q => ∃ (H0 : Hp) (av : Addr → Prop) (Γ : En) (cs : List Addr), StR H0 H av Γ σ cs ∧ New H0 av ∧ Ans G σ H (evOs G.Φ G.gt es Γ) fun p => ∃ o, G.Φ f p.1 = .ok o ∧ ∀ v H' c cs1, StK H0 H' av p.2 σ o v c cs1 → Q v H'
theorem rOs.cells {H : Hp} {av : Addr → Prop} {os : List O} {vs : List V} {cs : List Addr} (h : rOs H av os vs cs) : Cells H cs := by
  obtain ⟨ts, rfl, rfl, rfl, ht⟩ := rOs_tr.mp h
  intro a ha
  obtain ⟨t, h1, h2⟩ := List.mem_flatMap.mp ha
  exact rO.cells t.1 (ht t h1) a h2
theorem after_call {H0 H1 H' : Hp} {av : Addr → Prop} {Γ : En} {σ : L2.St} {os : List O} {vs : List V} {c cs1 c' : List Addr} {o : O} {v : V} (k : StKs H0 H1 av Γ σ os vs c cs1) (s : Same (cutH H1 c) H') (nd : c'.Nodup) (n : ∀ a ∈ c', cutH H1 c a = none)
    (r : rO H' (fun a => (av a ∧ a ∉ cs1) ∧ a ∉ c') o v c') : StK H0 H' av Γ σ o v c' cs1 := by
  obtain ⟨nd1, nd2, nd3⟩ := List.nodup_append.mp k.nd
  have hin : ∀ a ∈ cs1, H1 a ≠ none := k.rel.there.2
  have dj : ∀ a ∈ c', a ∉ cs1 := fun a ha z => by
    rcases cutH_none (n a ha) with q | q
    · exact nd3 a q a z rfl
    · exact hin a z q
  have hc : Cells H1 c := rOs.cells k.val
  refine ⟨fun a u e => ?_, List.nodup_append.mpr ⟨nd, nd2, fun a ha b hb e => dj a ha (e ▸ hb)⟩, fun a ha => ?_, ?_, r.weak fun a x => ⟨x.1.1, fun z => ?_⟩⟩
  · refine s a u ?_
    rw [cutH_out fun z => by rw [k.new a (by simp [z])] at e; cases e]
    exact k.same a u e
  · rcases List.mem_append.mp ha with z | z
    · rcases cutH_none (n a z) with q | q
      · exact k.new a (by simp [q])
      · exact k.same.free q
    · exact k.new a (by simp [z])
  · refine k.rel.there.1.kept ((cut_kept s hc).weak fun a x => fun z => x.1.2 (by simp [z])) (fun a x => ⟨x.1.1, fun z => ?_⟩) fun a ha u e => ?_
    · rcases List.mem_append.mp z with z | z
      · rcases cutH_none (n a z) with q | q
        · exact x.1.2 (by simp [q])
        · exact x.2 q
      · exact x.1.2 (by simp [z])
    · refine s a u ?_
      rw [cutH_out fun z => nd3 a z a ha rfl]
      exact e
  · rcases List.mem_append.mp z with z | z
    · exact x.2 z
    · exact x.1.2 z
section
variable {M : MC} {G : Cfg} {X : Cx}
theorem pe_M {sc : Scope} {f : Nat} {x : Str} {es : Exs} {a : Expr} {as : List Expr} {p pos : Pos} (h : defB M sc f x = true) (g : Good M G X) (hs : ScOk X sc) (hes : SEs G X es (a :: as)) (hk : PA X (a :: as) (tKs G es)) : PE X (.Call (.Name x p) (a :: as) [] pos) (tM G f es) := by
  simp only [defB, Bool.and_eq_true, beq_iff_eq] at h
  obtain ⟨k, ad, fd, ps, sp, h1, h2, h3, h4, h5, h6⟩ := g.fn f x h.1.1
  have hp : plainE a = true := by cases hes; assumption
  have htl : ∃ es', SEs G X es' as := by cases hes; exact ⟨_, by assumption⟩
  obtain ⟨es', htl⟩ := htl
  refine pe_imp (pe_callS h5 h3 (glB_of h.1.2 hs) h1 h2 h4.1 (fun σ => passAt g.tk σ) hk (nm_of h.2).1 (plain_star hp _ _) (htl.any_false _ _)) ?_
  intro σ H Q ⟨H0, av, Γ, cs, st, nw, q⟩
  refine ⟨H0, av, Γ, cs, st, nw, q.imp fun pr hp => ?_⟩
  obtain ⟨o, ho, hq⟩ := hp
  intro vs H1 c cs1 s1 k
  obtain ⟨nd1, nd2, nd3⟩ := List.nodup_append.mp k.nd
  refine h6 vs H1 Q _ ⟨pr.1, fun a => av a ∧ a ∉ cs1, c, k.val.weak fun a x => ⟨⟨x.1, fun z => x.2 (by simp [z])⟩, fun z => x.2 (by simp [z])⟩, nd1, fun a e => ?_, ?_⟩
  · rcases cutH_none e with z | z
    · exact ⟨nw a (k.new a (by simp [z])), fun y => nd3 a z a y rfl⟩
    · exact ⟨nw a (k.same.free z), fun y => k.rel.there.2 a y z⟩
  · rw [ho]
    intro v H' c' s nd n r
    exact hq v H' c' cs1 (after_call k s nd n r)
theorem asgm_red {tg : List Nat} {f : Nat} {es : Exs} : ∀ (D : Ends) σ H, tS G (.asgm tg f es) D σ H → tAsg (tM G f es) (gT X.K tg) D σ H := by
  intro D σ H ⟨H0, av, Γ, cs, st, nw, q⟩
  simp only [exec] at q
  refine ⟨H0, av, Γ, cs, st, nw, (q.out st.same).imp fun p hp => ?_⟩
  obtain ⟨-, hp⟩ := hp
  cases e : G.Φ f p.1 with
  | bad => rw [e] at hp; exact hp.elim
  | exc c d => rw [e] at hp; exact hp.elim
  | ok o =>
    rw [e] at hp
    refine ⟨o, rfl, fun v H' c cs1 k => ?_⟩
    obtain ⟨Γ', eb, hq⟩ := hp.of
    exact gT_okO k eb fun σ' r st' => hq σ' H' r st'
theorem st_asgm1 {i : Nat} {f : Nat} {es : Exs} {x y : Str} {a : Expr} {as : List Expr} {p p2 pos pos' : Pos} {sc : Scope} (fc : FnCx X sc) (g : Good M G X) (ht : tgB M sc i x = true) (h : defB M sc f y = true) (ha : mEs M sc es (a :: as) = true) : PS X (.Assign [.Name x p] (.Call (.Name y p2) (a :: as) [] pos) pos') (tS G (.asgm [i] f es)) := by
  simp only [tgB, Bool.and_eq_true, beq_iff_eq] at ht
  obtain ⟨h1, h2⟩ := fc.ok.loc x ht.2
  exact ps_imp (ps_set g.nd (by rw [g.hN]; exact ht.1) h1 (pe_M h g fc.ok (soundEs es ha g fc.ok) (soundKs es ha g fc.ok)) (noComp_sw rfl _ _ _ (by simp)) h2) (asgm_red (X := X))
theorem st_asgmN {i j : Nat} {is : List Nat} {f : Nat} {es : Exs} {ts : List Expr} {y : Str} {a : Expr} {as : List Expr} {k : Nat} {p p2 pos pos' : Pos} {sc : Scope} (fc : FnCx X sc) (g : Good M G X) (ht : matchTs M sc (i :: j :: is) ts = true) (h : defB M sc f y = true) (ha : mEs M sc es (a :: as) = true) :
    PS X (.Assign [.Tuple ts k p] (.Call (.Name y p2) (a :: as) [] pos) pos') (tS G (.asgm (i :: j :: is) f es)) :=
  ps_imp (ps_asg (pe_M h g fc.ok (soundEs es ha g fc.ok) (soundKs es ha g fc.ok)) (pg_t (e := .Tuple ts k p) (by simpa only [matchT] using ht) g fc.ok) (show swapsWith (.Call (.Name y p2) (a :: as) [] pos) (some (.Tuple ts k p)) pos'.line X.env = pure false from noComp_sw rfl _ _ _ (by simp)) (noTup_st rfl _ _)) (asgm_red (X := X))
end
end Rp

set_option Elab.async false
set_option linter.all false
set_option maxRecDepth 100000
set_option maxHeartbeats 4000000
/-! RpSt8: a mutation of each thing of a list. -/
namespace Rp
open PySem PySem.Spec PyProof.Rows L2

def CtP (H : Hp) : V → List Int → Addr → Prop
  | v, [], b => v = .ref b
  | v, i :: is, b => ∃ c ys z, v = .ref c ∧ (H c = some (.lst ys) ∨ H c = some (.tup ys)) ∧ atI ys i = some z ∧ CtP H z is b
theorem RdP.ct {H : Hp} : ∀ {k : List Int} {v : V} {a : Addr}, RdP H v k a → CtP H v k a
  | [], _, _, h => h
  | i :: is, _, _, h => by
    obtain ⟨b, ys, z, h1, h2, h3, h4, h5⟩ := h
    exact ⟨b, ys, z, h1, h2, h4, h5.ct⟩
theorem CtP.same {H H' : Hp} (s : Same H H') : ∀ {k : List Int} {v : V} {a : Addr}, CtP H v k a → CtP H' v k a
  | [], _, _, h => h
  | i :: is, _, _, h => by
    obtain ⟨b, ys, z, h1, h2, h4, h5⟩ := h
    exact ⟨b, ys, z, h1, h2.imp (s _ _) (s _ _), h4, h5.same s⟩
theorem CtP.uniq {H : Hp} : ∀ {k : List Int} {v : V} {a a' : Addr}, CtP H v k a → CtP H v k a' → a = a'
  | [], _, _, _, h, h' => by
    have e : V.ref _ = V.ref _ := Eq.trans (Eq.symm h) h'
    cases e; rfl
  | i :: is, _, _, _, h, h' => by
    obtain ⟨b, ys, z, h1, h2, h4, h5⟩ := h
    obtain ⟨b', ys', z', h1', h2', h4', h5'⟩ := h'
    rw [h1] at h1'; cases h1'
    have e : ys = ys' := by
      rcases h2 with h2 | h2 <;> rcases h2' with h2' | h2' <;> (rw [h2] at h2'; cases h2' <;> rfl)
    subst e
    rw [h4] at h4'; cases h4'
    exact h5.uniq h5'
theorem RdP.snoc {H : Hp} {i : Int} {a : Addr} : ∀ {k : List Int} {v : V}, RdP H v (k ++ [i]) a → ∃ b ys, CtP H v k b ∧ (H b = some (.lst ys) ∨ H b = some (.tup ys)) ∧ b ≠ a ∧ atI ys i = some (.ref a) ∧ ∀ o, CtP (upd H a o) v k b
  | [], v, h => by
    obtain ⟨b, ys, z, h1, h2, h3, h4, h5⟩ := h
    have h5 : z = .ref a := h5
    subst h5
    exact ⟨b, ys, h1, h2, h3, h4, fun o => h1⟩
  | j :: is, v, h => by
    obtain ⟨c, ys, z, h1, h2, h3, h4, h5⟩ := h
    obtain ⟨b, ys', q1, q2, q3, q4, q5⟩ := RdP.snoc (k := is) h5
    refine ⟨b, ys', ⟨c, ys, z, h1, h2, h4, q1⟩, q2, q3, q4, fun o => ⟨c, ys, z, h1, ?_, h4, q5 o⟩⟩
    rw [upd_ne h3]
    exact h2
theorem atI_nat {α : Type} {xs : List α} {i : Nat} {x : α} (h : xs[i]? = some x) : atI xs (i : Int) = some x := by
  have hl := (List.getElem?_eq_some_iff.mp h).1
  unfold atI ixN
  rw [if_pos (by omega), if_pos (by omega)]
  simpa using h
section
variable {M : MC} {G : Cfg} {X : Cx}
/-- the body: a method call on the name -/
def tEach (G : Cfg) (m : Mu) (K : PySem.W.Frag) (y : Nat) (args : Exs) : TS := fun D σ H => tVar y σ H fun v H1 => tyV K "list" v H1 ∧ tKs G args σ H1 fun vs H2 => rMu m v vs H2 fun _ H3 => D.nx σ H3
theorem each_body {m : Mu} {id : String} {y : Nat} {args : Exs} {o : Str} {as : List Expr} {p apos pos pos' : Pos} {sc : Scope} (fc : FnCx X sc) (g : Good M G X) (hv : varB M sc y o = true) (ha : mEs M sc args as = true) (hl : as.length < 30) (hline : (apos.endLine == pos.line) = true)
    (slot : Slot "list" (muN m) id) (hty : typeOf (.builtin id) = pure (.type "method_descriptor")) (hm : MtR X id (rMu m)) : PS X (.Expr (.Call (.Attribute (.Name o p) (muN m) apos) as [] pos) pos') (tEach G m X.K y args) := by
  obtain ⟨h1, h2, h3, h4⟩ := varB_of hv g fc.ok
  have hargs := soundKs args ha g fc.ok
  have hes := soundEs args ha g fc.ok
  cases hes with
  | nil =>
    refine ps_imp (ps_expr (pe_bm0 PySem.F.plainAttrs_list slot hty hm (pe_var h1 h2 h3 h4) (base_ok rfl _ _ _) hline)) ?_
    intro D σ H q
    obtain ⟨v, ev1, q1, H0, av, Γ, cs, st, nw, q⟩ := q
    simp only [evOs] at q
    exact ⟨v, ev1, q1, q [] H [] cs (Same.refl _) ⟨st.same, st.nd, st.new, st.rel, by simp only [rOs]; exact ⟨trivial, trivial⟩⟩⟩
  | @cons e es a as h1' hp h2' =>
    exact ps_imp (ps_expr (pe_bm PySem.F.plainAttrs_list slot hty hm (pe_var h1 h2 h3 h4) hargs (base_ok rfl _ _ _) ((SEs.cons h1' hp h2').few pos hl) hline (plain_star hp _ _) (h2'.any_false _ _))) fun D σ H q => q
theorem eachI_len {m : Mu} {x : Nat} {k : List Int} {args : List O} : ∀ {is : List Nat} {Γ Γ' : En}, eachI m x k args is Γ = some Γ' → Γ'.length = Γ.length
  | [], Γ, Γ', h => by simp only [eachI, Option.some.injEq] at h; rw [h]
  | i :: is, Γ, Γ', h => by
    simp only [eachI, Option.bind_eq_some_iff] at h
    obtain ⟨Γ1, h1, h2⟩ := h
    rw [eachI_len h2]
    unfold mutAt at h1
    simp only [Option.bind_eq_some_iff, putO, Option.map_eq_some_iff] at h1
    obtain ⟨_, _, _, _, _, _, _, _, rfl⟩ := h1
    exact setS_len _ _ _
theorem mutAt_other {m : Mu} {x y : Nat} {k : List Int} {args : List O} {Γ Γ' : En} (h : mutAt m x k args Γ = some Γ') (hy : getS Γ y = none) : getS Γ' y = none ∧ x ≠ y := by
  unfold mutAt at h
  simp only [Option.bind_eq_some_iff, putO, Option.map_eq_some_iff] at h
  obtain ⟨_, h1, _, _, o, h2, _, _, rfl⟩ := h
  have ne : x ≠ y := fun z => by subst z; rw [h2] at hy; cases hy
  exact ⟨by rw [getS_set, if_neg ne]; exact hy, ne⟩
theorem st_each {m : Mu} {id : String} {y x : Nat} {path args : Exs} {o yn : Str} {it : Expr} {as : List Expr} {p p2 apos pos pos' pos2 : Pos} {sc : Scope} (fc : FnCx X sc) (g : Good M G X) (hr : mRecv M sc x path it = true) (hp : plainE it = true) (ht : tgB M sc y yn = true)
    (hv : varB M sc y o = true) (ha : mEs M sc args as = true) (hl : as.length < 30) (hline : (apos.endLine == pos.line) = true)
    (slot : Slot "list" (muN m) id) (hty : typeOf (.builtin id) = pure (.type "method_descriptor")) (hm : MtR X id (rMu m)) :
    PS X (.For (.Name yn p2) it [.Expr (.Call (.Attribute (.Name o p) (muN m) apos) as [] pos) pos'] [] pos2) (tS G (.each m y x path args)) := by
  refine ps_imp (ps_for fc.pass g.calm (pi_list (recv_ok hr g fc.ok)) (pg_nm ht g fc.ok) (pss_one (each_body (m := m) fc g hv ha hl hline slot hty hm)) (plain_fold hp X.env)) ?_
  intro D σ H ⟨H0, av, Γ, cs, st, nw, q⟩
  simp only [exec] at q
  obtain ⟨og, hog, q⟩ := q.of
  refine ⟨_, av, Γ, cs, st.rel, st.nd, st.full nw _, nw.here st.same, ⟨og, hog⟩, (q.out st.same).imp fun k hk => ?_⟩
  obtain ⟨-, hk⟩ := hk
  obtain ⟨es, hes, hk⟩ := hk.of
  refine ⟨es, hes, fun b H1 ws s1 hrd hb => ?_⟩
  have st1 := st.grow s1
  refine ⟨b, rfl, ⟨ws, .inl (.inl hb)⟩, ?_⟩
  obtain ⟨v, ev1, hrd⟩ := hrd
  have hct := hrd.ct
  -- as many
  have hlen : ws.length = es.length := by
    obtain ⟨o2, eg, hloc⟩ := atO_loc hes
    obtain ⟨v', c, r, e1, e2, e3, e4⟩ := st1.rel.take eg
    obtain ⟨a2, xs2, ce, rest, ha2, hes2, hp2, hrd2, -⟩ := loc_ok e2 (List.nodup_append.mp (e4.nodup_iff.mp st1.nd)).1 hloc
    rw [ev1] at e1; cases e1
    obtain rfl := hrd.uniq hrd2
    rw [hb] at ha2; cases ha2
    exact hes2.length
  cases eo : evOs G.Φ G.gt args [] with
  | bad => rw [eo] at hk; exact hk.elim
  | exc c pl => rw [eo] at hk; exact hk.elim
  | ok pr =>
    obtain ⟨os, Γe⟩ := pr
    rw [eo] at hk
    have hk : AnsS G H0 av D (if y < Γ.length then (Res.of (eachI m x k os (List.range es.length) (setS Γ y none))).out .nx else .bad) := hk
    split at hk
    · rename_i hyl
      obtain ⟨Γf, hf, hq⟩ := hk.of
      obtain ⟨r0, st2, -⟩ := st1.drop y
      refine ⟨fun i mm σ' H' => mm = ws.length - i ∧ i ≤ ws.length ∧ ∃ Γ' cs', StR H0 H' av Γ' σ' cs' ∧ eachI m x k os ((List.range es.length).drop i) Γ' = some Γf ∧ (∃ v, σ'[x]? = some (some v) ∧ CtP H' v k b) ∧ H' b = some (.lst ws) ∧ getS Γ' y = none ∧ y < σ'.length,
        ⟨ws.length, by simp, Nat.zero_le _, setS Γ y none, r0, st2, hf, ⟨v, ev1, hct⟩, hb, getS_none Γ y, Nat.lt_of_lt_of_le hyl st1.rel.len⟩, ?_⟩
      rintro i mm σ' H' ⟨rfl, hi, Γ', cs', st', hf', ⟨v', ev', hct'⟩, hb', hyn, hyl'⟩
      by_cases hlt : i < ws.length
      · have hdrop : (List.range es.length).drop i = i :: (List.range es.length).drop (i + 1) := by
          rw [List.drop_eq_getElem_cons (by simpa [← hlen] using hlt)]
          simp
        rw [hdrop] at hf'
        simp only [eachI, Option.bind_eq_some_iff] at hf'
        obtain ⟨Γ2, hm2, hf2⟩ := hf'
        obtain ⟨hyn2, hxy⟩ := mutAt_other hm2 hyn
        refine .inr ⟨⟨ws, ws[i], .inl (.inl hb'), List.getElem?_eq_getElem hlt⟩, _, fun σ3 H3 h3 => ⟨ws.length - (i + 1), by omega, rfl, hlt, h3⟩, fun xi H2 hyld => ?_⟩
        obtain ⟨rfl, hyv⟩ := hyld
        have hxi := hyv ws (.inl (.inl hb'))
        have stσ : StR H0 H2 av Γ' (σ'.set y (some xi)) cs' := ⟨st'.same, st'.nd, st'.new, st'.rel.any hyn⟩
        have hget : (σ'.set y (some xi))[x]? = some (some v') := by rw [List.getElem?_set, if_neg (Ne.symm hxy)]; exact ev'
        -- the place is there
        have hplace : ∃ a, xi = .ref a ∧ ∃ xs, H2 a = some (.lst xs) := by
          obtain ⟨es0, ha0, -⟩ := Option.bind_eq_some_iff.mp hm2
          obtain ⟨o2, eg, hloc⟩ := atO_loc ha0
          obtain ⟨w, c, r, e1, e2, e3, e4⟩ := stσ.rel.take eg
          obtain ⟨a2, xs2, ce, rest, ha2, hes2, hp2, hrd2, -⟩ := loc_ok e2 (List.nodup_append.mp (e4.nodup_iff.mp stσ.nd)).1 hloc
          rw [hget] at e1; cases e1
          obtain ⟨b2, ys, q1, q2, q3, q4, q5⟩ := hrd2.snoc
          obtain rfl := q1.uniq hct'
          have : ys = ws := by
            rcases q2 with q2 | q2 <;> (rw [hb'] at q2; cases q2 <;> rfl)
          subst this
          rw [atI_nat hxi] at q4
          cases q4
          exact ⟨a2, rfl, xs2, ha2⟩
        obtain ⟨a0, rfl, xs0, hx0⟩ := hplace
        refine ⟨.ref a0, by rw [List.getElem?_set, if_pos rfl, if_pos hyl'], .inl ⟨rfl, xs0, .inl (.inl hx0)⟩, ?_⟩
        refine ⟨H2, fun a => av a ∧ a ∉ cs', [], [], ⟨Same.refl _, by simp, by simp, ⟨[], .refl _, rfl⟩⟩, stσ.newr nw, ?_⟩
        rw [eo]
        intro vs H3 c c2 s3 k3
        have st3 : StKs H0 H3 av Γ' (σ'.set y (some (.ref a0))) os vs c cs' := by
          have kn : ∀ a ∈ c, H2 a = none := fun a ha => k3.new a (by simp [ha])
          have dj : ∀ a ∈ c, a ∉ cs' := fun a ha hm => stσ.there a hm (kn a ha)
          refine ⟨stσ.same.trans s3, List.nodup_append.mpr ⟨(List.nodup_append.mp k3.nd).1, stσ.nd, fun a ha b' hb' e => dj a ha (e ▸ hb')⟩, fun a ha => ?_, ?_, ?_⟩
          · rcases List.mem_append.mp ha with z | z
            · exact stσ.same.free (kn a z)
            · exact stσ.new a z
          · exact (stσ.rel.there.1.same s3).weak fun a x => ⟨x.1.1, fun z => by
              rcases List.mem_append.mp z with z | z
              · exact x.2 (kn a z)
              · exact x.1.2 z⟩
          · exact k3.val.weak fun a x => ⟨x.1.1, fun z => by
              rcases List.mem_append.mp z with z | z
              · exact x.2 (by simp [z])
              · exact x.1.2 z⟩
        obtain ⟨a', xs', hrd', -, hru, r, st4⟩ := slot_mut st3 hm2
        obtain ⟨v2, e2, hrd'⟩ := hrd'
        rw [hget] at e2; cases e2
        obtain ⟨b2, ys, q1, q2, q3, q4, q5⟩ := hrd'.snoc
        have hct3 := hct'.same s3
        obtain rfl := q1.uniq hct3
        have hb3 := s3 _ _ hb'
        have : ys = ws := by
          rcases q2 with q2 | q2 <;> (rw [hb3] at q2; cases q2 <;> rfl)
        subst this
        rw [atI_nat hxi] at q4
        cases q4
        refine hru _ fun u => ⟨Γ2, r, st4, hf2, ⟨v', hget, q5 _⟩, ?_, hyn2, by rw [List.length_set]; exact hyl'⟩
        rw [upd_ne q3]
        exact hb3
      · have e : i = ws.length := by omega
        subst e
        rw [List.drop_eq_nil_of_le (by simp [hlen])] at hf'
        simp only [eachI, Option.some.injEq] at hf'
        subst hf'
        exact .inl ⟨⟨ws, .inl (.inl hb'), Nat.le_refl _⟩, hq σ' H' cs' st'⟩
    · exact hk.elim
end
end Rp

set_option Elab.async false
set_option linter.all false
set_option maxRecDepth 100000
set_option maxHeartbeats 4000000
/-! RpEach2: for y in x[..] + x[..]: y.clear() or y.append(..); x is given up. -/
namespace Rp
open PySem PySem.Spec PyProof.Rows L2
/-- what a place holds: as many things; each that is an owned list stands at a cell of the slot -/
theorem place_cells {H : Hp} {avs : Addr → Prop} {o : O} {v : V} {c : List Addr} {k : List Int} {es : List O} {b : Addr} {ws : List V} (r : rO H avs o v c) (nd : c.Nodup) (hl : locO k o = some es) (hrd : RdP H v k b) (hb : H b = some (.lst ws)) :
    ws.length = es.length ∧ ∀ (i : Nat) (es' : List O), es[i]? = some (O.lst es') → ∃ (a : Addr) (xs : List V), ws[i]? = some (V.ref a) ∧ a ∈ c ∧ H a = some (.lst xs) ∧ xs.length = es'.length := by
  obtain ⟨a2, xs2, ce, rest, ha2, hes2, hp2, hrd2, -⟩ := loc_ok r nd hl
  obtain rfl := hrd.uniq hrd2
  rw [hb] at ha2; cases ha2
  refine ⟨hes2.length, fun i es' e => ?_⟩
  obtain ⟨v', c1, c2, c3, e1, e2, e3⟩ := hes2.get e
  simp only [rO] at e3
  obtain ⟨a, xs, cs', rfl, ha, rfl, hx⟩ := e3
  exact ⟨a, xs, e1, hp2.mem_iff.mpr (by rw [e2]; simp), ha, hx.length⟩
section
variable {M : MC} {G : Cfg} {X : Cx}
theorem st_each2 {m : Mu} {id : String} {y x : Nat} {path path2 args : Exs} {o yn : Str} {it it2 : Expr} {as : List Expr} {p p2 bp apos pos pos' pos2 : Pos} {sc : Scope} (fc : FnCx X sc) (g : Good M G X) (hr : mRecv M sc x path it = true) (hr2 : mRecv M sc x path2 it2 = true) (ht : tgB M sc y yn = true)
    (hv : varB M sc y o = true) (ha : mEs M sc args as = true) (hl : as.length < 30) (hline : (apos.endLine == pos.line) = true)
    (slot : Slot "list" (muN m) id) (hty : typeOf (.builtin id) = pure (.type "method_descriptor")) (hm : MtR X id (rMu m)) :
    PS X (.For (.Name yn p2) (.BinOp it .Add it2 bp) [.Expr (.Call (.Attribute (.Name o p) (muN m) apos) as [] pos) pos'] [] pos2) (tS G (.each2 m y x path path2 args)) := by
  refine ps_imp (ps_for fc.pass g.calm (pi_list (pe_op op_catR (recv_ok hr g fc.ok) (recv_ok hr2 g fc.ok))) (pg_nm ht g fc.ok) (pss_one (each_body (m := m) fc g hv ha hl hline slot hty hm)) (plain_fold rfl X.env)) ?_
  intro D σ H ⟨H0, av, Γ, cs, st, nw, q⟩
  simp only [exec] at q
  obtain ⟨og, hog, q⟩ := q.of
  refine ⟨_, av, Γ, cs, st.rel, st.nd, st.full nw _, nw.here st.same, ⟨og, hog⟩, (q.out st.same).imp fun k hk => ?_⟩
  obtain ⟨-, hk⟩ := hk
  obtain ⟨es, hes, hk⟩ := hk.of
  refine ⟨es, hes, fun b H1 ws s1 hrd hb => ?_⟩
  have st1 := st.grow s1
  refine ⟨_, av, Γ, cs, st1.rel, st1.nd, st1.full nw _, nw.here st1.same, ⟨og, hog⟩, (hk.out st1.same).imp fun k2 hk => ?_⟩
  obtain ⟨-, hk⟩ := hk
  obtain ⟨es2, hes2, hk⟩ := hk.of
  refine ⟨es2, hes2, fun b2 H2 ws2 s2 hrd2 hb2 => ?_⟩
  have st2 := st1.grow s2
  cases eo : evOs G.Φ G.gt args [] with
  | bad => rw [eo] at hk; exact hk.elim
  | exc c pl => rw [eo] at hk; exact hk.elim
  | ok pr =>
    obtain ⟨os, Γe⟩ := pr
    rw [eo] at hk
    have hk : AnsS G H0 av D (if y < Γ.length ∧ x ≠ y ∧ each2Ok m os (es ++ es2) = true then .nx (setS (setS Γ y none) x none) else .bad) := hk
    split at hk
    · rename_i hyl
      obtain ⟨hyl, hxy, hok⟩ := hyl
      simp only [each2Ok, Bool.and_eq_true, List.all_eq_true] at hok
      obtain ⟨hmo, hall⟩ := hok
      obtain ⟨o1, eg1, hloc1⟩ := atO_loc hes
      obtain ⟨o2, eg2, hloc2⟩ := atO_loc hes2
      rw [eg1] at eg2; cases eg2
      have stT := st2
      obtain ⟨v, c, r, ev1, ro, rr, pm⟩ := st2.rel.take eg1
      obtain ⟨nd1, nd2, nd3⟩ := List.nodup_append.mp (pm.nodup_iff.mp st2.nd)
      obtain ⟨v', ev', hrd⟩ := hrd
      rw [ev1] at ev'; cases ev'
      obtain ⟨v', ev', hrd2⟩ := hrd2
      rw [ev1] at ev'; cases ev'
      have hb := s2 _ _ hb
      obtain ⟨hl1, hc1⟩ := place_cells ro nd1 hloc1 (hrd.same s2) hb
      obtain ⟨hl2, hc2⟩ := place_cells ro nd1 hloc2 hrd2 hb2
      have hW : ∀ i, i < (ws ++ ws2).length → ∃ a xs, (ws ++ ws2)[i]? = some (.ref a) ∧ a ∈ c ∧ H2 a = some (.lst xs) ∧ xs.length + (ws ++ ws2).length ≤ sizeLine := by
        intro i hi
        have hlt : i < (es ++ es2).length := by simpa [hl1, hl2] using hi
        have hmem := hall _ (List.getElem_mem hlt)
        cases ee : (es ++ es2)[i] with
        | lst es' =>
          rw [ee] at hmem
          simp only [decide_eq_true_eq] at hmem
          have ee' : (es ++ es2)[i]? = some (.lst es') := by rw [List.getElem?_eq_getElem hlt, ee]
          by_cases h1 : i < es.length
          · rw [List.getElem?_append_left h1] at ee'
            obtain ⟨a, xs, q1, q2, q3, q4⟩ := hc1 i es' ee'
            exact ⟨a, xs, by rw [List.getElem?_append_left (by omega)]; exact q1, q2, q3, by simp only [List.length_append] at hmem ⊢; omega⟩
          · rw [List.getElem?_append_right (by omega)] at ee'
            obtain ⟨a, xs, q1, q2, q3, q4⟩ := hc2 _ es' ee'
            exact ⟨a, xs, by rw [List.getElem?_append_right (by omega), hl1]; exact q1, q2, q3, by simp only [List.length_append] at hmem ⊢; omega⟩
        | sh d => rw [ee] at hmem; simp at hmem
        | tup d => rw [ee] at hmem; simp at hmem
        | dic d => rw [ee] at hmem; simp at hmem
      have hsz : (ws ++ ws2).length ≤ sizeLine := by
        by_cases h0 : 0 < (ws ++ ws2).length
        · obtain ⟨_, _, _, _, _, z⟩ := hW 0 h0
          omega
        · omega
      rw [List.length_append] at hsz
      refine ⟨b, b2, ws, ws2, rfl, rfl, .inl hb, .inl hb2, hsz, fun l nl => ?_⟩
      refine ⟨l, rfl, ⟨ws ++ ws2, .inl (.inl upd_same)⟩, ?_⟩
      have s3 := same_new (o := .lst (ws ++ ws2)) nl
      -- the other slots, apart from these cells
      have stx : StR H0 (upd H2 l (.lst (ws ++ ws2))) (fun a => av a ∧ a ∉ c) (setS Γ x none) σ r := by
        refine ⟨st2.same.trans s3, nd2, fun a ha => st2.new a (pm.mem_iff.mpr (by simp [ha])), (rr.same s3).weak fun a z => ⟨⟨z.1, fun w => z.2 (pm.mem_iff.mpr (by simp [w]))⟩, fun w => z.2 (pm.mem_iff.mpr (by simp [w]))⟩⟩
      obtain ⟨r2, sty, hsub⟩ := stx.drop y
      have hcom : setS (setS Γ x none) y none = setS (setS Γ y none) x none := by
        rw [setS_eq, setS_eq, setS_eq, setS_eq]
        exact List.set_comm _ _ hxy
      rw [hcom] at sty
      have hl_c : l ∉ c := fun z => ro.there.2 l z nl
      have hcr : ∀ a ∈ c, a ∉ r2 := fun a h1 h2 => nd3 a h1 a (hsub a h2) rfl
      have hav : ∀ a ∈ c, av a := fun a h => nw a (st2.new a (pm.mem_iff.mpr (by simp [h])))
      have hyσ : y < σ.length := Nat.lt_of_lt_of_le hyl st2.rel.len
      have hgy : getS (setS (setS Γ y none) x none) y = none := by rw [getS_set, if_neg hxy]; exact getS_none Γ y
      have hW' : ∀ i, i < (ws ++ ws2).length → ∃ a xs, (ws ++ ws2)[i]? = some (.ref a) ∧ a ∈ c ∧ upd H2 l (.lst (ws ++ ws2)) a = some (.lst xs) ∧ xs.length + (ws ++ ws2).length ≤ sizeLine := fun i hi => by
        obtain ⟨a, xs, q1, q2, q3, q4⟩ := hW i hi
        exact ⟨a, xs, q1, q2, s3 _ _ q3, q4⟩
      clear hW
      generalize ws ++ ws2 = W at hW' sty
      refine ⟨fun i mm σ' H' => mm = W.length - i ∧ i ≤ W.length ∧ (∃ r', StR H0 H' (fun a => av a ∧ a ∉ c) (setS (setS Γ y none) x none) σ' r' ∧ ∀ a ∈ c, a ∉ r') ∧ H' l = some (.lst W) ∧ y < σ'.length ∧ (∀ j, j < W.length → ∃ a xs, W[j]? = some (.ref a) ∧ a ∈ c ∧ H' a = some (.lst xs) ∧ xs.length + (W.length - i) ≤ sizeLine),
        ⟨W.length, by simp, Nat.zero_le _, ⟨r2, sty, hcr⟩, upd_same, hyσ, by simpa using hW'⟩, ?_⟩
      rintro i mm σ' H' ⟨rfl, hi, ⟨r', st', hcr'⟩, hl', hyl', hpl⟩
      by_cases hlt : i < W.length
      · refine .inr ⟨⟨W, W[i], .inl (.inl hl'), List.getElem?_eq_getElem hlt⟩, _, fun σ3 H3 h3 => ⟨W.length - (i + 1), by omega, rfl, hlt, h3⟩, fun xi Hy hyld => ?_⟩
        obtain ⟨rfl, hyv⟩ := hyld
        have hxi := hyv W (.inl (.inl hl'))
        obtain ⟨a0, xs0, h1, h2, h3, h4⟩ := hpl i hlt
        rw [hxi] at h1
        cases h1
        have stσ : StR H0 Hy (fun a => av a ∧ a ∉ c) (setS (setS Γ y none) x none) (σ'.set y (some (.ref a0))) r' := ⟨st'.same, st'.nd, st'.new, st'.rel.any hgy⟩
        refine ⟨.ref a0, by rw [List.getElem?_set, if_pos rfl, if_pos hyl'], .inl ⟨rfl, xs0, .inl (.inl h3)⟩, ?_⟩
        refine ⟨Hy, fun a => Hy a = none, [], [], ⟨Same.refl _, by simp, by simp, ⟨[], .refl _, rfl⟩⟩, fun a e => e, ?_⟩
        rw [eo]
        intro vs H3 c3 c4 s3 k3
        have hc4 : ∀ a, H3 a = none → Hy a = none := fun a e => s3.free e
        have key : ∀ xs', xs'.length + (W.length - (i + 1)) ≤ sizeLine → ∃ r', StR H0 (upd H3 a0 (.lst xs')) (fun a => av a ∧ a ∉ c) (setS (setS Γ y none) x none) (σ'.set y (some (.ref a0))) r' ∧ ∀ a ∈ c, a ∉ r' := by
          intro xs' _
          have kp : Kept (fun a => a ≠ a0) H3 (upd H3 a0 (.lst xs')) := ⟨fun b u e hb => by rw [upd_ne hb]; exact e, fun b u e h1 h2 => by
            rw [upd_ne fun z => by subst z; rw [s3 _ _ h3] at e; cases e; exact h1 _ rfl]; exact e⟩
          refine ⟨r', ⟨fun a u e => ?_, st'.nd, st'.new, ?_⟩, hcr'⟩
          · have ne : a ≠ a0 := fun z => by
              subst z
              rw [st2.new a (pm.mem_iff.mpr (by simp [h2]))] at e; cases e
            rw [upd_ne ne]
            exact s3 _ _ (st'.same a u e)
          · refine (stσ.rel.same s3).kept (kp.weak fun a x => fun z => x.1.2 (z ▸ h2)) (fun _ x => x) fun a ha u e => ?_
            rw [upd_ne fun z : a = a0 => hcr' a0 h2 (by rw [← z]; exact ha)]
            exact e
        have fin : ∀ xs', xs'.length + (W.length - (i + 1)) ≤ sizeLine → ((∃ r', StR H0 (upd H3 a0 (.lst xs')) (fun a => av a ∧ a ∉ c) (setS (setS Γ y none) x none) (σ'.set y (some (.ref a0))) r' ∧ ∀ a ∈ c, a ∉ r') ∧ upd H3 a0 (.lst xs') l = some (.lst W) ∧ y < (σ'.set y (some (.ref a0))).length ∧ (∀ j, j < W.length → ∃ a xs, W[j]? = some (.ref a) ∧ a ∈ c ∧ upd H3 a0 (.lst xs') a = some (.lst xs) ∧ xs.length + (W.length - (i + 1)) ≤ sizeLine)) := by
          intro xs' hx'
          refine ⟨key xs' hx', ?_, by rw [List.length_set]; exact hyl', fun j hj => ?_⟩
          · rw [upd_ne fun z : l = a0 => hl_c (by rw [z]; exact h2)]
            exact s3 _ _ hl'
          · obtain ⟨a, xs, q1, q2, q3, q4⟩ := hpl j hj
            by_cases e : a = a0
            · subst e
              exact ⟨a, xs', q1, q2, upd_same, hx'⟩
            · exact ⟨a, xs, q1, q2, by rw [upd_ne e]; exact s3 _ _ q3, by omega⟩
        split at hmo
        · obtain ⟨rfl, -⟩ := tr0 k3.val
          exact ⟨a0, xs0, rfl, rfl, s3 _ _ h3, fin [] (by simp; omega)⟩
        · obtain ⟨w, rfl, -⟩ := tr1 k3.val
          refine ⟨a0, xs0, w, rfl, rfl, s3 _ _ h3, by omega, fin (xs0 ++ [w]) (by simp; omega)⟩
        · cases hmo
      · have e : i = W.length := by omega
        subst e
        exact .inl ⟨⟨W, .inl (.inl hl'), Nat.le_refl _⟩, hk σ' H' r' ⟨st'.same, st'.nd, st'.new, st'.rel.weak fun a x => ⟨x.1.1, x.2⟩⟩⟩
    · exact hk.elim
end
end Rp

set_option Elab.async false
set_option linter.all false
set_option maxRecDepth 100000
set_option maxHeartbeats 8000000
/-! RpSt9: the match of statements, and its theorem. -/
namespace Rp
open PySem PySem.Spec PyProof.Rows L2

def mAsg (M : MC) (sc : Scope) (tg : List Nat) (e : Ex) (st : Stmt) : Bool := match tg, st with
  | [i], .Assign [.Name x _] a _ => tgB M sc i x && (mE M sc e a && (match a with | .ListComp _ _ _ _ => true | _ => noComp a))
  | i :: j :: is, .Assign [.Tuple es _ _] a _ => matchTs M sc (i :: j :: is) es && (mE M sc e a && (noComp a && noTup a))
  | _, _ => false
def mMut (M : MC) (sc : Scope) (m : Mu) (x : Nat) (path args : Exs) (st : Stmt) : Bool := match st with
  | .Expr (.Call (.Attribute o n apos) as [] pos) _ => decide (m ≠ .set) && ((n == muN m) && (mRecv M sc x path o && (mEs M sc args as && (decide (as.length < 30) && (apos.endLine == pos.line)))))
  | .Assign [.Subscript o ia _] ea _ => match m, args with
    | .set, .cons i (.cons e .nil) => mRecv M sc x path o && (mE M sc i ia && (mE M sc e ea && noComp ea))
    | _, _ => false
  | _ => false
def mDput (M : MC) (sc : Scope) (x : Nat) (k e : Ex) (st : Stmt) : Bool := match st with
  | .Assign [.Subscript (.Name y _) ka _] ea _ => varB M sc x y && (mE M sc k ka && (mE M sc e ea && noComp ea))
  | _ => false
def mAug (M : MC) (sc : Scope) (i : Nat) (op : Bop) (e : Ex) (st : Stmt) : Bool := match st with
  | .AugAssign (.Name x _) o a _ => tgB M sc i x && (mE M sc e a && (match op, o with | .add, .Add => true | .sub, .Sub => true | _, _ => false))
  | _ => false
def mEach (M : MC) (sc : Scope) (m : Mu) (y x : Nat) (path args : Exs) (st : Stmt) : Bool := match st with
  | .For (.Name yn _) it [.Expr (.Call (.Attribute (.Name o _) n apos) as [] pos) _] [] _ => decide (m ≠ .set) && ((n == muN m) && (mRecv M sc x path it && (plainE it && (tgB M sc y yn && (varB M sc y o && (mEs M sc args as && (decide (as.length < 30) && (apos.endLine == pos.line))))))))
  | _ => false
def mEach2 (M : MC) (sc : Scope) (m : Mu) (y x : Nat) (path path2 args : Exs) (st : Stmt) : Bool := match st with
  | .For (.Name yn _) (.BinOp it .Add it2 _) [.Expr (.Call (.Attribute (.Name o _) n apos) as [] pos) _] [] _ => decide (m ≠ .set) && ((n == muN m) && (mRecv M sc x path it && (mRecv M sc x path2 it2 && (tgB M sc y yn && (varB M sc y o && (mEs M sc args as && (decide (as.length < 30) && (apos.endLine == pos.line))))))))
  | _ => false
def mAsgm (M : MC) (sc : Scope) (tg : List Nat) (f : Nat) (es : Exs) (st : Stmt) : Bool := match tg, st with
  | [i], .Assign [.Name x _] (.Call (.Name y _) (a :: as) [] _) _ => tgB M sc i x && (defB M sc f y && mEs M sc es (a :: as))
  | i :: j :: is, .Assign [.Tuple ts _ _] (.Call (.Name y _) (a :: as) [] _) _ => matchTs M sc (i :: j :: is) ts && (defB M sc f y && mEs M sc es (a :: as))
  | _, _ => false
def mRet (M : MC) (sc : Scope) (e : Ex) (st : Stmt) : Bool := match st with
  | .Return (some a) _ => mE M sc e a
  | _ => false
def isBrk : Stmt → Bool
  | .Break _ => true | _ => false
def isPass : Stmt → Bool
  | .Pass _ => true | .Expr (.Constant (.str _) _ _) _ => true | _ => false
mutual
def mS (M : MC) (sc : Scope) : Sm → Stmt → Bool
  | .asg tg e, st => mAsg M sc tg e st
  | .mut m x path args, st => mMut M sc m x path args st
  | .dput x k e, st => mDput M sc x k e st
  | .aug i op e, st => mAug M sc i op e st
  | .ret e, st => mRet M sc e st
  | .ite c a b, .If ca as bs _ => mE M sc c ca && (mSs M sc a as && mSs M sc b bs)
  | .for tg it b, .For t a bs [] _ => mI M sc it t a && (plainE a && (matchT M sc tg t && mSs M sc b bs))
  | .whl c b, .While ca bs [] _ => mE M sc c ca && mSs M sc b bs
  | .brk, st => isBrk st
  | .pass, st => isPass st
  | .each m y x path args, st => mEach M sc m y x path args st
  | .each2 m y x path path2 args, st => mEach2 M sc m y x path path2 args st
  | .asgm tg f es, st => mAsgm M sc tg f es st
  | .rai _ _, _ => true
  | _, _ => false
def mSs (M : MC) (sc : Scope) : Sms → List Stmt → Bool
  | .nil, [] => true
  | .cons s ss, a :: as => mS M sc s a && mSs M sc ss as
  | _, _ => false
end
section
variable {M : MC} {G : Cfg} {X : Cx}
theorem mu_slot {m : Mu} (h : m ≠ .set) : ∃ id, Slot "list" (muN m) id ∧ typeOf (.builtin id) = pure (.type "method_descriptor") ∧ MtR X id (rMu m) := by
  cases m with
  | append => exact ⟨"list.append", PySem.F.slot_list_append, PySem.F.type_list_append, mt_append⟩
  | clear => exact ⟨"list.clear", PySem.F.slot_list_clear, PySem.F.type_list_clear, mt_clear⟩
  | pop => exact ⟨"list.pop", PySem.F.slot_list_pop, PySem.F.type_list_pop, mt_pop⟩
  | popAt => exact ⟨"list.pop", PySem.F.slot_list_pop, PySem.F.type_list_pop, mt_popAt⟩
  | insert => exact ⟨"list.insert", PySem.F.slot_list_insert, PySem.F.type_list_insert, mt_insert⟩
  | reverse => exact ⟨"list.reverse", PySem.F.slot_list_reverse, PySem.F.type_list_reverse, mt_reverse⟩
  | set => exact absurd rfl h
mutual
theorem soundS : ∀ (s : Sm) {sc : Scope} {a : Stmt}, mS M sc s a = true → Good M G X → FnCx X sc → PS X a (tS G s)
  | .asg tg e, sc, a, h, g, fc => by
    simp only [mS] at h
    unfold mAsg at h
    split at h
    · rename_i i x p a pos
      simp only [Bool.and_eq_true] at h
      obtain ⟨h1, h2, h3⟩ := h
      cases a with
      | ListComp elt' gens scope p2 =>
        cases e with
        | comp elt tg it cond own => exact st_asgC fc g h1 h2
        | _ => simp [mE] at h2
      | _ => exact st_asg1 fc g h1 (soundK e h2 g fc.ok) (by first | exact h3 | rfl)
    · simp only [Bool.and_eq_true] at h
      obtain ⟨h1, h2, h3, h4⟩ := h
      exact st_asgN fc g h1 (soundK e h2 g fc.ok) h3 h4
    · cases h
  | .mut m x path args, sc, a, h, g, fc => by
    simp only [mS] at h
    unfold mMut at h
    split at h
    · simp only [Bool.and_eq_true, decide_eq_true_eq, beq_iff_eq] at h
      obtain ⟨h1, rfl, h3, h4, h5, h6⟩ := h
      obtain ⟨id, s1, s2, s3⟩ := mu_slot (X := X) h1
      exact st_mutR h1 fc g h3 h4 h5 (by simpa using h6) s1 s2 s3
    · split at h
      · rename_i i e
        simp only [Bool.and_eq_true] at h
        obtain ⟨h1, h2, h3, h4⟩ := h
        exact st_set fc g h1 (soundE i h2 g fc.ok) (soundK e h3 g fc.ok) h4 (mE_plain h2)
      · cases h
    · cases h
  | .dput x k e, sc, a, h, g, fc => by
    simp only [mS] at h
    unfold mDput at h
    split at h
    · simp only [Bool.and_eq_true] at h
      obtain ⟨h1, h2, h3, h4⟩ := h
      exact st_dput fc g h1 (soundE k h2 g fc.ok) (soundE e h3 g fc.ok) h4
    · cases h
  | .aug i op e, sc, a, h, g, fc => by
    simp only [mS] at h
    unfold mAug at h
    split at h
    · simp only [Bool.and_eq_true] at h
      obtain ⟨h1, h2, h3⟩ := h
      split at h3
      · exact st_aug fc g h1 (soundE e h2 g fc.ok) ip_add fun _ _ => rfl
      · exact st_aug fc g h1 (soundE e h2 g fc.ok) ip_sub fun _ _ => rfl
      · cases h3
    · cases h
  | .ret e, sc, a, h, g, fc => by
    simp only [mS] at h
    unfold mRet at h
    split at h
    · exact st_ret (soundK e h g fc.ok)
    · cases h
  | .ite c x y, sc, a, h, g, fc => by
    cases a with
    | If ca as bs p =>
      simp only [mS, Bool.and_eq_true] at h
      exact st_ite (soundE c h.1 g fc.ok) (soundSs x h.2.1 g fc) (soundSs y h.2.2 g fc)
    | _ => simp [mS] at h
  | .for tg it b, sc, a, h, g, fc => by
    cases a with
    | For t a bs os p =>
      cases os with
      | nil =>
        simp only [mS, Bool.and_eq_true] at h
        exact st_for fc g (soundI it h.1 g fc.ok) h.2.1 h.2.2.1 (soundSs b h.2.2.2 g fc)
      | cons _ _ => simp [mS] at h
    | _ => simp [mS] at h
  | .whl c b, sc, a, h, g, fc => by
    cases a with
    | While ca bs os p =>
      cases os with
      | nil =>
        simp only [mS, Bool.and_eq_true] at h
        exact st_whl fc (soundE c h.1 g fc.ok) (soundSs b h.2 g fc)
      | cons _ _ => simp [mS] at h
    | _ => simp [mS] at h
  | .brk, sc, a, h, g, fc => by
    simp only [mS] at h
    unfold isBrk at h
    split at h
    · exact st_brk
    · cases h
  | .pass, sc, a, h, g, fc => by
    simp only [mS] at h
    unfold isPass at h
    split at h
    · exact st_pass
    · exact st_doc
    · cases h
  | .each m y x path args, sc, a, h, g, fc => by
    simp only [mS] at h
    unfold mEach at h
    split at h
    · simp only [Bool.and_eq_true, decide_eq_true_eq, beq_iff_eq] at h
      obtain ⟨h1, rfl, h3, h4, h5, h6, h7, h8, h9⟩ := h
      obtain ⟨id, s1, s2, s3⟩ := mu_slot (X := X) h1
      exact st_each fc g h3 h4 h5 h6 h7 h8 (by simpa using h9) s1 s2 s3
    · cases h
  | .each2 m y x path path2 args, sc, a, h, g, fc => by
    simp only [mS] at h
    unfold mEach2 at h
    split at h
    · simp only [Bool.and_eq_true, decide_eq_true_eq, beq_iff_eq] at h
      obtain ⟨h1, rfl, h3, h4, h5, h6, h7, h8, h9⟩ := h
      obtain ⟨id, s1, s2, s3⟩ := mu_slot (X := X) h1
      exact st_each2 fc g h3 h4 h5 h6 h7 h8 (by simpa using h9) s1 s2 s3
    · cases h
  | .asgm tg f es, sc, a, h, g, fc => by
    simp only [mS] at h
    unfold mAsgm at h
    split at h
    · simp only [Bool.and_eq_true] at h
      exact st_asgm1 fc g h.1 h.2.1 h.2.2
    · simp only [Bool.and_eq_true] at h
      exact st_asgmN fc g h.1 h.2.1 h.2.2
    · cases h
  | .rai c e, sc, a, h, g, fc => by
    refine ps_imp ps_never ?_
    intro D σ H ⟨H0, av, Γ, cs, st, nw, q⟩
    simp only [exec] at q
    exact q
theorem soundSs : ∀ (ss : Sms) {sc : Scope} {as : List Stmt}, mSs M sc ss as = true → Good M G X → FnCx X sc → PSs X as (tSs G ss)
  | .nil, sc, as, h, g, fc => by
    cases as with
    | nil => exact ss_nil
    | cons a as => simp [mSs] at h
  | .cons s ss, sc, as, h, g, fc => by
    cases as with
    | nil => simp [mSs] at h
    | cons a as =>
      simp only [mSs, Bool.and_eq_true] at h
      exact ss_cons (soundS s h.1 g fc) (soundSs ss h.2 g fc)
end
end
end Rp

set_option Elab.async false
set_option linter.all false
set_option maxRecDepth 100000
set_option maxHeartbeats 4000000
/-! RpFn: defs, and the law's head. -/
namespace Rp
open PySem PySem.Spec PyProof.Rows L2

/-- a def: its name, its text, its slots, its parameters, what it is -/
structure Df where
  x : Str
  st : Stmt
  N : List Str
  ps : List Str
  fd : Fd
  dn : Bool
abbrev Dfs := List (Nat × Df)
def tabOf (ds : Dfs) : Tab := fun i => (ds.lookup i).map (·.fd)
def fnsOf (ds : Dfs) : List (Nat × Str) := ds.map fun p => (p.1, p.2.x)
def mcOf (ds : Dfs) (gs : List (Nat × Str)) (d : Df) : MC := ⟨d.N, fnsOf ds, gs, (ds.map (·.1)).filter fun f => ((ds.lookup f).map (·.dn)).getD false⟩
def okDf (ds : Dfs) (gs : List (Nat × Str)) (d : Df) : Bool := mSs (mcOf ds gs d) (defScope d.st) d.fd.body (defBody d.st) && (C8.scC d.N d.ps (defScope d.st) && (decide (d.fd.np = d.ps.length) && decide (d.fd.nl = d.N.length)))
/-- what a def promises -/
def spF (xr : Nat → D → Value → Option Addr → Hp → Prop) (Φ : Nat → List D → Res O) (f : Nat) : Sp := fun vs H Q E => ∃ (ds : List D) (av : Addr → Prop), RvAll H av vs ds ∧ New H av ∧ (match Φ f ds with
  | .ok o => Post H av o Q
  | .exc c p => ∀ H' cls d, Same H H' → xr c p cls d H' → E cls d H'
  | .bad => False)
theorem rS_none {H : Hp} {av : Addr → Prop} : ∀ (n m : Nat), rS H av (List.replicate n none) (List.replicate (n + m) none) []
  | 0, m => rfl
  | n + 1, m => by
    rw [Nat.succ_add]
    exact ⟨none, _, rfl, rS_none n m⟩
def spO (xr : Nat → D → Value → Option Addr → Hp → Prop) (Φ : Nat → List O → Res O) (f : Nat) : Sp := fun vs H Q E => ∃ (os : List O) (av : Addr → Prop) (cs : List Addr), rOs H (fun a => av a ∧ a ∉ cs) os vs cs ∧ cs.Nodup ∧ New (cutH H cs) av ∧ (match Φ f os with
  | .ok o => Post (cutH H cs) av o Q
  | .exc c p => ∀ H' cls d, Same (cutH H cs) H' → xr c p cls d H' → E cls d H'
  | .bad => False)
theorem spO_of {tab : Tab} {gt : Nat → Option D} {n f : Nat} {xr : Nat → D → Value → Option Addr → Hp → Prop} {vs : List V} {H : Hp} {Q : VK} {E : XK} (h : spF xr (callF tab gt n) f vs H Q E) : spO xr (callO tab gt n) f vs H Q E := by
  obtain ⟨ds, av, h1, h2, h3⟩ := h
  refine ⟨ds.map .sh, av, [], (rOs.shs h1).weak fun a x => ⟨x, by simp⟩, .nil, by rw [cutH_nil]; exact h2, ?_⟩
  rw [cutH_nil]
  exact h3
theorem rS_start {H : Hp} {av : Addr → Prop} {n m : Nat} : ∀ {os : List O} {vs : List V} {cs : List Addr}, rOs H av os vs cs → rS H av (os.map some ++ List.replicate n none) (vs.map some ++ List.replicate (n + m) none) cs
  | [], vs, cs, h => by
    simp only [rOs] at h
    obtain ⟨rfl, rfl⟩ := h
    exact rS_none n m
  | o :: os, vs, cs, h => by
    simp only [rOs] at h
    obtain ⟨v, vs', c1, c2, rfl, rfl, h1, h2⟩ := h
    exact ⟨v, _, c1, c2, rfl, rfl, h1, rS_start h2⟩
section
variable {P : Program} {w : World} {K : PySem.W.Frag} {mg : Str → Option Value} {base : Heap}
/-- what stands in the module for the defs -/
structure Mods (K : PySem.W.Frag) (mg : Str → Option Value) (ds : Dfs) (gs : List (Nat × Str)) (gt : Nat → Option D) (ad : Nat → Addr) (fo : Nat → FuncData) : Prop where
  fn : ∀ f d, ds.lookup f = some d → mg d.x = some (.ref (ad f)) ∧ (∃ dvs, FunD K d.x d.x (defArgs d.st) (defBody d.st) (defScope d.st) dvs [] (ad f) (fo f)) ∧ (Binds K (fo f) d.ps [] ∧ (d.dn = true → Binds K (fo f) d.ps [.none])) ∧ okDf ds gs d = true
  gl : ∀ g x, gs.lookup g = some x → ∃ v u d, mg x = some u ∧ RelV v u ∧ gt g = some d ∧ valD v = some d
  bi : ∀ x : Str, x ∈ (["len", "abs", "min", "max", "sum", "sorted", "list", "tuple", "int", "str", "dict", "set", "range", "zip", "enumerate", "reversed", "isinstance", "bool"] : List Str) → mg x = none
theorem fns_look : ∀ {ds : Dfs} {f : Nat} {x : Str}, (fnsOf ds).lookup f = some x → ∃ d, ds.lookup f = some d ∧ d.x = x
  | [], f, x, h => by simp [fnsOf] at h
  | p :: ds, f, x, h => by
    have h : ((p.1, p.2.x) :: fnsOf ds).lookup f = some x := h
    rw [List.lookup_cons] at h ⊢
    cases hk : f == p.1 with
    | true => rw [hk] at h; cases h; exact ⟨p.2, rfl, rfl⟩
    | false => rw [hk] at h; exact fns_look h
theorem fn_all {ds : Dfs} {gs : List (Nat × Str)} {gt : Nat → Option D} {ad : Nat → Addr} {fo : Nat → FuncData} {xr : Nat → D → Value → Option Addr → Hp → Prop} (Z : Mods K mg ds gs gt ad fo) :
    ∀ (n f : Nat) (d : Df), ds.lookup f = some d → FnOk P w K mg base (L2.CX P w) n (ad f) (fo f) d.ps (spO xr (callO (tabOf ds) gt n) f)
  | 0, f, d, hd => by
    refine ⟨fun vs H Q E h => ?_, fun A outer s H args us vs Q E hr he hb hv h => ?_⟩
    · obtain ⟨es, av, cs, h1, h2, h3, h4⟩ := h
      exact h4.elim
    · obtain ⟨es, av, cs, h1, h2, h3, h4⟩ := h
      exact h4.elim
  | n + 1, f, d, hd => by
    obtain ⟨hmg, hF, hB, hok⟩ := Z.fn f d hd
    obtain ⟨dvs, hF⟩ := hF
    simp only [okDf, Bool.and_eq_true, decide_eq_true_eq] at hok
    obtain ⟨hm, hsc, hnp, hnl⟩ := hok
    have S := C8.fnScope_by hsc
    have etab : tabOf ds f = some d.fd := by unfold tabOf; rw [hd]; rfl
    have lenE : ∀ vs H Q E, spO xr (callO (tabOf ds) gt (n + 1)) f vs H Q E → vs.length = d.ps.length := by
      intro vs H Q E h
      obtain ⟨es, av, cs, h1, h2, h0, h3⟩ := h
      simp only [callO, etab, runFd] at h3
      split at h3
      · rename_i o ho
        split at ho
        · rename_i hl
          rw [h1.length, hl, hnp]
        · cases ho
      · rename_i c p ho
        split at ho
        · rename_i hl
          rw [h1.length, hl, hnp]
        · cases ho
      · exact h3.elim
    refine FunD.ok hF S lenE fun cdv A outer s H vs Q E hr h => ?_
    obtain ⟨es, av, cs, h1, h0, h2, h3⟩ := h
    let X : Cx := cxOf (L2.CX P w) P w K mg base d.N d.x (defScope d.st) (ad f) cdv A outer s H E
    let G : Cfg := ⟨callO (tabOf ds) gt n, gt, fun cls d _ H => E cls d H, xr⟩
    have hu := hr.un
    have g : Good (mcOf ds gs d) G X := {
      calm := rfl
      nd := S.nd
      hN := rfl
      units := by show (A.deeper _).units + 65 < cLine; omega
      fn := fun f' x hx => by
        obtain ⟨d', hd', ex⟩ := fns_look hx
        obtain ⟨hmg', ⟨dvs', hF'⟩, hB', -⟩ := Z.fn f' d' hd'
        refine ⟨n, ad f', fo f', d'.ps, _, by rw [← ex]; exact hmg', hF'.kp, hr, ⟨hB'.1, fun hc => hB'.2 ?_⟩, fn_all Z n f' d' hd', fun vs H Q E q => q⟩
        have hc : ((ds.map (·.1)).filter fun f => ((ds.lookup f).map (·.dn)).getD false).contains f' = true := hc
        rw [List.contains_iff_mem, List.mem_filter, hd'] at hc
        exact hc.2
      gl := Z.gl
      bi := Z.bi
      tk := takes_of rfl rfl rfl rfl }
    have fc : FnCx X (defScope d.st) := ⟨passes_of rfl, fun _ => rfl, rfl, S.kind⟩
    refine ⟨tSs G d.fd.body, soundSs d.fd.body hm g fc, cutH H cs, av, Rp.startO d.fd.nl es, cs, ?_, h2, ?_⟩
    · refine ⟨cutH_same, h0, fun a z => cutH_in z, cs, .refl _, ?_⟩
      have hl : d.fd.nl - es.length = d.N.length - vs.length := by rw [hnl, h1.length]
      show rS H _ (es.map some ++ List.replicate (d.fd.nl - es.length) none) (vs.map some ++ List.replicate (d.N.length - vs.length) none) cs
      rw [hl]
      have := rS_start (n := d.N.length - vs.length) (m := 0) h1
      simpa using this
    · simp only [callO, etab, runFd] at h3
      split at h3
      · rename_i o ho
        split at ho
        · split at ho
          · rename_i o' e
            cases ho
            rw [e]
            exact fun v H' c s nd n r => h3 v H' c s nd n r
          · rename_i Γ e
            cases ho
            rw [e]
            exact fun σ H' cs st => Post.sh h3 st.same .non
          · cases ho
          · cases ho
        · cases ho
      · rename_i c p ho
        split at ho
        · split at ho
          · cases ho
          · cases ho
          · rename_i e
            cases ho
            rw [e]
            exact fun σ H' cls dd s x => h3 H' cls dd s x
          · cases ho
        · cases ho
      · exact h3.elim
theorem fn_allF {ds : Dfs} {gs : List (Nat × Str)} {gt : Nat → Option D} {ad : Nat → Addr} {fo : Nat → FuncData} {xr : Nat → D → Value → Option Addr → Hp → Prop} (Z : Mods K mg ds gs gt ad fo) (n f : Nat) (d : Df) (hd : ds.lookup f = some d) :
    FnOk P w K mg base (L2.CX P w) n (ad f) (fo f) d.ps (spF xr (callF (tabOf ds) gt n) f) := by
  have F := fn_all (P := P) (w := w) (base := base) (xr := xr) Z n f d hd
  exact ⟨fun vs H Q E h => F.len vs H Q E (spO_of h), fun A outer s H args us vs Q E hr he hb hv h => F.run A outer s H args us vs Q E hr he hb hv (spO_of h)⟩
/-- no list among what is written for good -/
def noLists (K : PySem.W.Frag) : Bool := K.all fun p => !(p.2.cls == Value.type "list")
theorem frag_mem {K : PySem.W.Frag} {a : Addr} {o : Obj} (h : K.lookup a = some o) : (a, o) ∈ K := by
  induction K with
  | nil => simp at h
  | cons p K ih =>
    rw [List.lookup_cons] at h
    cases hk : a == p.1 with
    | true =>
      rw [hk] at h
      have := eq_of_beq hk
      cases h
      rw [this]
      exact List.mem_cons_self
    | false =>
      rw [hk] at h
      exact List.mem_cons_of_mem _ (ih h)
theorem RvAll.ints {H : Hp} {av : Addr → Prop} : ∀ (ns : List Int), RvAll H av (ns.map V.int) (ns.map PyData.int)
  | [] => .nil
  | n :: ns => .cons (.int n) (RvAll.ints ns)
/-- the law's promise at its script -/
theorem law_sp {xr : Nat → D → Value → Option Addr → Hp → Prop} {Φ : Nat → List D → Res O} {f : Nat} {H : Hp} {a : Addr} {ns : List Int} (hno : noLists K = true) (hS : SqL K H a (ns.map V.int)) (hlaw : Φ f [.list (ns.map PyData.int)] = .ok (.sh (.bool true))) :
    spF xr Φ f [.ref a] H (fun v _ => v = .bl true) fun _ _ _ => False := by
  refine ⟨[.list (ns.map PyData.int)], fun _ => True, ?_, fun _ _ => trivial, ?_⟩
  · rcases hS with h | ⟨o, its, n, hl, hc, -⟩
    · exact .cons (.lst h trivial (RvAll.ints ns)) .nil
    · exfalso
      have := List.all_eq_true.mp hno _ (frag_mem hl)
      simp only at this
      rw [hc] at this
      revert this
      decide
  · rw [hlaw]
    intro v H' c s nd n r
    simp only [rO] at r
    obtain ⟨r, -⟩ := r
    cases r
    rfl
end
end Rp

set_option Elab.async false
set_option linter.all false
set_option maxRecDepth 100000
set_option maxHeartbeats 4000000
/-! RpHead: from what the top has written to the law's promise. -/
namespace Rp
open PySem PySem.Spec PyProof.Rows L2

inductive AllFn (K : PySem.W.Frag) (mg : Str → Option Value) : Dfs → List (Nat × Addr × FuncData) → Prop
  | nil : AllFn K mg [] []
  | cons {i : Nat} {d : Df} {a : Addr} {fd : FuncData} {ds : Dfs} {l : List (Nat × Addr × FuncData)} : mg d.x = some (.ref a) → (∃ dvs, FunD K d.x d.x (defArgs d.st) (defBody d.st) (defScope d.st) dvs [] a fd) → (Binds K fd d.ps [] ∧ (d.dn = true → Binds K fd d.ps [.none])) → AllFn K mg ds l → AllFn K mg ((i, d) :: ds) ((i, a, fd) :: l)
def adOf (l : List (Nat × Addr × FuncData)) (f : Nat) : Addr := ((l.lookup f).map (·.1)).getD 0
def foOf (l : List (Nat × Addr × FuncData)) (z : FuncData) (f : Nat) : FuncData := ((l.lookup f).map (·.2)).getD z
theorem AllFn.look {K : PySem.W.Frag} {mg : Str → Option Value} {ds : Dfs} {l : List (Nat × Addr × FuncData)} (A : AllFn K mg ds l) : ∀ {f : Nat} {d : Df}, ds.lookup f = some d → ∃ a fd, l.lookup f = some (a, fd) ∧ mg d.x = some (.ref a) ∧ (∃ dvs, FunD K d.x d.x (defArgs d.st) (defBody d.st) (defScope d.st) dvs [] a fd) ∧ (Binds K fd d.ps [] ∧ (d.dn = true → Binds K fd d.ps [.none])) := by
  induction A with
  | nil => intro f d h; simp at h
  | @cons i d0 a fd ds l h1 h2 h3 h4 ih =>
    intro f d h
    rw [List.lookup_cons] at h
    rw [List.lookup_cons]
    cases hk : f == i with
    | true =>
      rw [hk] at h
      cases h
      exact ⟨a, fd, rfl, h1, h2, h3⟩
    | false =>
      rw [hk] at h
      exact ih h
structure Bis (K : PySem.W.Frag) : Prop where
  b1 : PySem.W.nsIn K mainGlobals "len" = some none
  b2 : PySem.W.nsIn K mainGlobals "abs" = some none
  b3 : PySem.W.nsIn K mainGlobals "min" = some none
  b4 : PySem.W.nsIn K mainGlobals "max" = some none
  b5 : PySem.W.nsIn K mainGlobals "sum" = some none
  b6 : PySem.W.nsIn K mainGlobals "sorted" = some none
  b7 : PySem.W.nsIn K mainGlobals "list" = some none
  b8 : PySem.W.nsIn K mainGlobals "tuple" = some none
  b9 : PySem.W.nsIn K mainGlobals "int" = some none
  b10 : PySem.W.nsIn K mainGlobals "str" = some none
  b11 : PySem.W.nsIn K mainGlobals "dict" = some none
  b12 : PySem.W.nsIn K mainGlobals "set" = some none
  b13 : PySem.W.nsIn K mainGlobals "range" = some none
  b14 : PySem.W.nsIn K mainGlobals "zip" = some none
  b15 : PySem.W.nsIn K mainGlobals "enumerate" = some none
  b16 : PySem.W.nsIn K mainGlobals "reversed" = some none
  b17 : PySem.W.nsIn K mainGlobals "isinstance" = some none
  b18 : PySem.W.nsIn K mainGlobals "bool" = some none
section
variable {P : Program} {w : World} {K : PySem.W.Frag} {mg : Str → Option Value} {base : Heap}
theorem Bis.none {h : Heap} (B : Bis K) (X : K.In h) (G : h.Ns mainGlobals mg) : ∀ x : Str, x ∈ (["len", "abs", "min", "max", "sum", "sorted", "list", "tuple", "int", "str", "dict", "set", "range", "zip", "enumerate", "reversed", "isinstance", "bool"] : List Str) → mg x = Option.none := by
  intro x hx
  simp only [List.mem_cons, List.not_mem_nil, or_false] at hx
  rcases hx with rfl | rfl | rfl | rfl | rfl | rfl | rfl | rfl | rfl | rfl | rfl | rfl | rfl | rfl | rfl | rfl | rfl | rfl
  · exact PySem.W.mg_none_of X G B.b1
  · exact PySem.W.mg_none_of X G B.b2
  · exact PySem.W.mg_none_of X G B.b3
  · exact PySem.W.mg_none_of X G B.b4
  · exact PySem.W.mg_none_of X G B.b5
  · exact PySem.W.mg_none_of X G B.b6
  · exact PySem.W.mg_none_of X G B.b7
  · exact PySem.W.mg_none_of X G B.b8
  · exact PySem.W.mg_none_of X G B.b9
  · exact PySem.W.mg_none_of X G B.b10
  · exact PySem.W.mg_none_of X G B.b11
  · exact PySem.W.mg_none_of X G B.b12
  · exact PySem.W.mg_none_of X G B.b13
  · exact PySem.W.mg_none_of X G B.b14
  · exact PySem.W.mg_none_of X G B.b15
  · exact PySem.W.mg_none_of X G B.b16
  · exact PySem.W.mg_none_of X G B.b17
  · exact PySem.W.mg_none_of X G B.b18
theorem fund_plain {x : Str} {st : Stmt} {f : Addr} {oc : Value} {od an : Option Addr} {osl : Array (Option Value)} {kV doc pm cdv ct : Value} (l : K.lookup f = some ⟨oc, od, .func (PySem.W.fnOf x x (defArgs st) (defBody st) (defScope st) .none kV doc pm an cdv ct), osl⟩)
    (c : PySem.W.codeIn K cdv x = true) (k : PySem.W.keepIn K (.ref f) = true) : FunD K x x (defArgs st) (defBody st) (defScope st) [] [] f (PySem.W.fnOf x x (defArgs st) (defBody st) (defScope st) .none kV doc pm an cdv ct) :=
  ⟨⟨oc, od, .none, kV, doc, pm, an, cdv, ct, osl, rfl, l, c, .inl ⟨rfl, rfl⟩, .inl rfl⟩, k⟩
/-- one default: None -/
theorem fund_none {x : Str} {st : Stmt} {f T : Addr} {oc : Value} {od an : Option Addr} {osl : Array (Option Value)} {kV doc pm cdv ct : Value} {oT : Obj} {m : Nat} (l : K.lookup f = some ⟨oc, od, .func (PySem.W.fnOf x x (defArgs st) (defBody st) (defScope st) (.ref T) kV doc pm an cdv ct), osl⟩)
    (c : PySem.W.codeIn K cdv x = true) (k : PySem.W.keepIn K (.ref f) = true) (lT : K.lookup T = some oT) (dT : oT.data = .seq #[.none] m) : FunD K x x (defArgs st) (defBody st) (defScope st) [.non] [] f (PySem.W.fnOf x x (defArgs st) (defBody st) (defScope st) (.ref T) kV doc pm an cdv ct) :=
  ⟨⟨oc, od, .ref T, kV, doc, pm, an, cdv, ct, osl, rfl, l, c, .inr ⟨by simp, T, oT, [.none], m, rfl, lT, dT, .cons rfl .nil⟩, .inl rfl⟩, k⟩
theorem vals_nil {us : List Value} (h : Vals [] us) : us = [] := by cases h; rfl
theorem vals_none {us : List Value} (h : Vals [.non] us) : us = [.none] := by
  cases h with
  | cons h1 h2 =>
    cases h2
    have h1 : RelV .non _ := h1
    first | (cases h1; rfl) | (have e : _ = Value.none := h1; rw [e])
theorem binds_none {x : Str} {st : Stmt} {f : Addr} {fd : FuncData} {ps : List Str} (F : FunD K x x (defArgs st) (defBody st) (defScope st) [.non] [] f fd) (n : Nat) (hn : n + 1 = ps.length)
    (h1 : ∀ (T : Addr) (kV doc pm : Value) (an : Option Addr) (cdv ct : Value) (us its : List Value), us.length = n + 1 → its.length = 1 →
      ∃ k, bindArgs (PySem.W.fnOf x x (defArgs st) (defBody st) (defScope st) (.ref T) kV doc pm an cdv ct) ⟨us, []⟩ = seqItems? (.ref T) >>= k ∧ k (some its.toArray) = pure (ps.zip (us ++ its.drop 1)))
    (h2 : ∀ (T : Addr) (kV doc pm : Value) (an : Option Addr) (cdv ct : Value) (us its : List Value), us.length = n → its.length = 1 →
      ∃ k, bindArgs (PySem.W.fnOf x x (defArgs st) (defBody st) (defScope st) (.ref T) kV doc pm an cdv ct) ⟨us, []⟩ = seqItems? (.ref T) >>= k ∧ k (some its.toArray) = pure (ps.zip (us ++ its.drop 0))) :
    Binds K fd ps [] ∧ Binds K fd ps [.none] := by
  obtain ⟨d1, v1, b1⟩ := F.binds1 (n + 1) 1 (by simp) (by simpa using hn) h1
  obtain ⟨d2, v2, b2⟩ := F.binds1 n 0 (by simp) (by simpa using hn) h2
  rw [vals_nil v1] at b1
  rw [vals_none v2] at b2
  exact ⟨b1, b2⟩
def xr0 : Nat → D → Value → Option Addr → Hp → Prop := fun _ _ _ _ _ => False
def gt0 : Nat → Option D := fun _ => none
/-- every def of the table keeps its promise (no globals, no exceptions) -/
theorem fn_head {ds : Dfs} {l : List (Nat × Addr × FuncData)} {h : Heap} (A : AllFn K mg ds l) (ok : (ds.all fun p => okDf ds [] p.2) = true) (B : Bis K) (X : K.In h) (G : h.Ns mainGlobals mg) {f : Nat} {d : Df} {a : Addr} {fd : FuncData} (hf : ds.lookup f = some d) (hl : l.lookup f = some (a, fd)) (n : Nat) :
    FnOk P w K mg base (L2.CX P w) n a fd d.ps (spF xr0 (callF (tabOf ds) gt0 n) f) := by
  have Z : Mods K mg ds [] gt0 (adOf l) (foOf l fd) := {
    fn := fun f' d' h' => by
      obtain ⟨a', fd', e1, e2, e3, e4⟩ := A.look h'
      have ea : adOf l f' = a' := by unfold adOf; rw [e1]; rfl
      have ef : foOf l fd f' = fd' := by unfold foOf; rw [e1]; rfl
      rw [ea, ef]
      refine ⟨e2, e3, e4, ?_⟩
      have key : ∀ (es : Dfs), es.lookup f' = some d' → (f', d') ∈ es := by
        intro es
        induction es with
        | nil => intro h; simp at h
        | cons p es ih =>
          intro h
          rw [List.lookup_cons] at h
          cases hk : f' == p.1 with
          | true => rw [hk] at h; have := eq_of_beq hk; cases h; rw [this]; exact List.mem_cons_self
          | false => rw [hk] at h; exact List.mem_cons_of_mem _ (ih h)
      exact List.all_eq_true.mp ok _ (key ds h')
    gl := fun g x hx => by simp at hx
    bi := B.none X G }
  have := fn_allF (P := P) (w := w) (base := base) (xr := xr0) Z n f d hf
  have ea : adOf l f = a := by unfold adOf; rw [hl]; rfl
  have ef : foOf l fd f = fd := by unfold foOf; rw [hl]; rfl
  rwa [ea, ef] at this
theorem cx_none {H : Hp} {s : Shared} {e : Value} {s' : Shared} : L2.CX P w [] H s (fun _ _ _ => False) e s' → False := fun h => by
  obtain ⟨_, _, _, _, _, _, _, _, _, _, _, _, z⟩ := h
  exact z
end
end Rp

set_option Elab.async false
set_option linter.all false
set_option maxRecDepth 100000
/-! RpTab: the defs, as the evaluator has them (printed by mk.py). -/
namespace Rp.T
open Rp
/-- is_number: slots 0=thing -/
def f0 : Fd := ⟨1, 1, (.cons (.ret (.and (.cons (.not (.isi (.var 0) [0])) (.cons (.isi (.var 0) [1]) .nil)))) .nil)⟩
/-- _law_fold: slots 0=_law_script 1=_law_number 2=_law_cell -/
def f5 : Fd := ⟨2, 3, (.cons (.for [2] (.ls (.var 0)) (.cons (.asg [1] (.bin .mod (.bin .mul (.bin .add (.var 1) (.bin .mod (.var 2) (.bin .pow (.con (.int 2)) (.con (.int 61))))) (.con (.int 3202034522624059733))) (.bin .pow (.con (.int 2)) (.con (.int 64))))) (.cons (.asg [1] (.bin .xor (.var 1) (.bin .fdiv (.var 1) (.bin .pow (.con (.int 2)) (.con (.int 32)))))) .nil))) (.cons (.ret (.mv 1)) .nil))⟩
/-- _law_next: slots 0=_law_number -/
def f6 : Fd := ⟨1, 1, (.cons (.ret (.bin .mod (.bin .mul (.bin .xor (.var 0) (.bin .fdiv (.var 0) (.bin .pow (.con (.int 2)) (.con (.int 29))))) (.con (.int 7046029254386353131))) (.bin .pow (.con (.int 2)) (.con (.int 64))))) .nil)⟩
/-- _law_net: slots 0=_law_number 1=_law_most 2=_law_many 3=_law_scale 4=_law_dense 5=_law_net_here 6=_law_place 7=_law_row 8=_law_bare 9=_law_to -/
def f7 : Fd := ⟨2, 10, (.cons (.asg [2] (.bin .add (.con (.int 1)) (.bin .mod (.bin .fdiv (.var 0) (.bin .pow (.con (.int 2)) (.con (.int 7)))) (.var 1)))) (.cons (.asg [3] (.idx (.lst (.cons (.con (.int 1)) (.cons (.con (.int 9)) (.cons (.bin .pow (.con (.int 10)) (.con (.int 18))) .nil)))) (.bin .mod (.bin .fdiv (.var 0) (.bin .pow (.con (.int 2)) (.con (.int 11)))) (.con (.int 3))))) (.cons (.asg [4] (.bin .add (.con (.int 2)) (.bin .mod (.bin .fdiv (.var 0) (.bin .pow (.con (.int 2)) (.con (.int 13)))) (.con (.int 4))))) (.cons (.asg [5] (.lst .nil)) (.cons (.for [6] (.rng (.cons (.var 2) .nil)) (.cons (.asg [7] (.lst .nil)) (.cons (.asg [0] (.call 6 (.cons (.var 0) .nil))) (.cons (.asg [8] (.cmp .eq (.bin .mod (.bin .fdiv (.var 0) (.bin .pow (.con (.int 2)) (.con (.int 20)))) (.con (.int 4))) (.con (.int 1)))) (.cons (.for [9] (.rng (.cons (.var 2) .nil)) (.cons (.asg [0] (.call 6 (.cons (.var 0) .nil))) (.cons (.ite (.and (.cons (.not (.var 8)) (.cons (.cmp .lt (.bin .mod (.bin .fdiv (.var 0) (.bin .pow (.con (.int 2)) (.con (.int 20)))) (.con (.int 6))) (.var 4)) .nil))) (.cons (.mut .append 7 .nil (.cons (.tup (.cons (.mv 9) (.cons (.bin .add (.con (.int 1)) (.bin .mod (.bin .fdiv (.var 0) (.bin .pow (.con (.int 2)) (.con (.int 3)))) (.var 3))) .nil))) .nil)) .nil) .nil) .nil))) (.cons (.mut .append 5 .nil (.cons (.mv 7) .nil)) .nil)))))) (.cons (.ret (.mv 5)) .nil))))))⟩
/-- _law_whole: slots 0=_law_found -/
def f8 : Fd := ⟨1, 1, (.cons (.ret (.and (.cons (.isi (.var 0) [1]) (.cons (.not (.isi (.var 0) [0])) .nil)))) .nil)⟩
/-- ends_at: slots 0=net 1=place 2=to 3=weight -/
def f16 : Fd := ⟨2, 4, (.cons (.ret (.comp (.var 2) [2, 3] (.ls (.idx (.var 0) (.var 1))) .nil [2, 3])) .nil)⟩
/-- has_ends: slots 0=net 1=things 2=place -/
def f17 : Fd := ⟨2, 3, (.cons (.for [2] (.rng (.cons (.bi .len (.cons (.var 0) .nil)) .nil)) (.cons (.ite (.cmp .eq (.idx (.var 0) (.var 2)) (.lst .nil)) (.cons (.ite (.cmp .notN (.idx (.var 1) (.var 2)) (.con .none)) (.cons (.ret (.con (.bool false))) .nil) .nil) .nil) (.cons (.ite (.or (.cons (.not (.call 0 (.cons (.idx (.var 1) (.var 2)) .nil))) (.cons (.cmp .notin (.idx (.var 1) (.var 2)) (.call 16 (.cons (.var 0) (.cons (.var 2) .nil)))) .nil))) (.cons (.ret (.con (.bool false))) .nil) .nil) .nil)) .nil)) (.cons (.ret (.con (.bool true))) .nil))⟩
/-- way_along: slots 0=tree 1=place 2=way -/
def f18 : Fd := ⟨2, 3, (.cons (.asg [2] (.lst (.cons (.mv 1) .nil))) (.cons (.whl (.and (.cons (.cmp .notN (.idx (.var 0) (.idx (.var 2) (.neg (.con (.int 1))))) (.con .none)) (.cons (.cmp .notin (.idx (.var 0) (.idx (.var 2) (.neg (.con (.int 1))))) (.var 2)) .nil))) (.cons (.mut .append 2 .nil (.cons (.idx (.var 0) (.idx (.var 2) (.neg (.con (.int 1))))) .nil)) .nil)) (.cons (.ret (.mv 2)) .nil)))⟩
/-- is_tree: slots 0=net 1=things 2=place -/
def f19 : Fd := ⟨2, 3, (.cons (.ite (.or (.cons (.not (.isi (.var 1) [3])) (.cons (.cmp .ne (.bi .len (.cons (.var 1) .nil)) (.bi .len (.cons (.var 0) .nil))) (.cons (.not (.call 17 (.cons (.var 0) (.cons (.var 1) .nil)))) .nil)))) (.cons (.ret (.con (.bool false))) .nil) .nil) (.cons (.for [2] (.rng (.cons (.bi .len (.cons (.var 0) .nil)) .nil)) (.cons (.ite (.cmp .notN (.idx (.var 1) (.idx (.call 18 (.cons (.var 1) (.cons (.var 2) .nil))) (.neg (.con (.int 1))))) (.con .none)) (.cons (.ret (.con (.bool false))) .nil) .nil) .nil)) (.cons (.ret (.con (.bool true))) .nil)))⟩
/-- _law_tree: slots 0=_law_net_here 1=_law_number 2=_law_tree_here 3=_law_hung 4=_law_place 5=_law_turn 6=_law_step 7=_law_ends_here 8=_law_to 9=_law_weight -/
def f20 : Fd := ⟨2, 10, (.cons (.asg [2] (.bin .mul (.lst (.cons (.con .none) .nil)) (.bi .len (.cons (.var 0) .nil)))) (.cons (.asg [3] (.comp (.var 4) [4] (.rng (.cons (.bi .len (.cons (.var 0) .nil)) .nil)) (.cons (.cmp .eq (.idx (.var 0) (.var 4)) (.lst .nil)) .nil) [4])) (.cons (.for [5] (.rng (.cons (.bi .len (.cons (.var 0) .nil)) .nil)) (.cons (.for [6] (.rng (.cons (.bi .len (.cons (.var 0) .nil)) .nil)) (.cons (.asg [4] (.bin .mod (.bin .add (.bin .fdiv (.var 1) (.bin .pow (.con (.int 2)) (.con (.int 9)))) (.var 6)) (.bi .len (.cons (.var 0) .nil)))) (.cons (.asg [7] (.comp (.var 8) [8, 9] (.ls (.idx (.var 0) (.var 4))) (.cons (.cmp .inn (.var 8) (.var 3)) .nil) [8, 9])) (.cons (.ite (.and (.cons (.cmp .notin (.var 4) (.var 3)) (.cons (.cmp .ne (.var 7) (.lst .nil)) .nil))) (.cons (.mut .set 2 .nil (.cons (.var 4) (.cons (.mvi 7 (.bin .mod (.bin .fdiv (.var 1) (.bin .pow (.con (.int 2)) (.con (.int 17)))) (.bi .len (.cons (.var 7) .nil)))) .nil))) (.cons (.mut .append 3 .nil (.cons (.mv 4) .nil)) (.cons (.asg [1] (.call 6 (.cons (.var 1) .nil))) .nil))) .nil) .nil)))) .nil)) (.cons (.ite (.cmp .lt (.bi .len (.cons (.var 3) .nil)) (.bi .len (.cons (.var 0) .nil))) (.cons (.ret (.con .none)) .nil) .nil) (.cons (.ret (.mv 2)) .nil)))))⟩
/-- _law_ends: slots 0=_law_net_here 1=_law_number 2=_law_found 3=_law_row -/
def f21 : Fd := ⟨2, 4, (.cons (.asg [2] (.lst .nil)) (.cons (.for [3] (.ls (.var 0)) (.cons (.asg [1] (.call 6 (.cons (.var 1) .nil))) (.cons (.ite (.cmp .eq (.var 3) (.lst .nil)) (.cons (.mut .append 2 .nil (.cons (.con .none) .nil)) .nil) (.cons (.mut .append 2 .nil (.cons (.idx (.idx (.var 3) (.bin .mod (.bin .fdiv (.var 1) (.bin .pow (.con (.int 2)) (.con (.int 9)))) (.bi .len (.cons (.var 3) .nil)))) (.con (.int 0))) .nil)) .nil)) .nil))) (.cons (.ret (.mv 2)) .nil)))⟩
/-- _law_good: slots 0=_law_net_here 1=_law_things 2=_law_row 3=_law_end 4=_law_ends_here 5=_law_to 6=_law_weight 7=_law_place 8=_law_here 9=_law_step -/
def f22 : Fd := ⟨2, 10, (.cons (.ite (.or (.cons (.not (.isi (.var 1) [3])) (.cons (.cmp .ne (.bi .len (.cons (.var 1) .nil)) (.bi .len (.cons (.var 0) .nil))) .nil))) (.cons (.ret (.con (.bool false))) .nil) .nil) (.cons (.for [2, 3] (.zip (.var 0) (.var 1)) (.cons (.asg [4] (.comp (.var 5) [5, 6] (.ls (.var 2)) .nil [5, 6])) (.cons (.ite (.and (.cons (.cmp .eq (.var 2) (.lst .nil)) (.cons (.cmp .notN (.var 3) (.con .none)) .nil))) (.cons (.ret (.con (.bool false))) .nil) .nil) (.cons (.ite (.and (.cons (.cmp .ne (.var 2) (.lst .nil)) (.cons (.or (.cons (.not (.isi (.var 3) [1])) (.cons (.isi (.var 3) [0]) .nil))) .nil))) (.cons (.ret (.con (.bool false))) .nil) .nil) (.cons (.ite (.and (.cons (.cmp .ne (.var 2) (.lst .nil)) (.cons (.cmp .notin (.var 3) (.var 4)) .nil))) (.cons (.ret (.con (.bool false))) .nil) .nil) .nil))))) (.cons (.for [7] (.rng (.cons (.bi .len (.cons (.var 0) .nil)) .nil)) (.cons (.asg [8] (.mv 7)) (.cons (.for [9] (.rng (.cons (.bi .len (.cons (.var 0) .nil)) .nil)) (.cons (.ite (.cmp .notN (.idx (.var 1) (.var 8)) (.con .none)) (.cons (.asg [8] (.idx (.var 1) (.var 8))) .nil) .nil) .nil)) (.cons (.ite (.cmp .notN (.idx (.var 1) (.var 8)) (.con .none)) (.cons (.ret (.con (.bool false))) .nil) .nil) .nil)))) (.cons (.ret (.con (.bool true))) .nil))))⟩
/-- _law_spoiled: slots 0=_law_net_here 1=_law_things 2=_law_number 3=_law_kind 4=_law_place 5=_law_some -/
def f23 : Fd := ⟨3, 6, (.cons (.asg [3] (.bin .mod (.bin .fdiv (.var 2) (.bin .pow (.con (.int 2)) (.con (.int 9)))) (.con (.int 16)))) (.cons (.asg [4] (.bin .mod (.bin .fdiv (.var 2) (.bin .pow (.con (.int 2)) (.con (.int 21)))) (.bi .len (.cons (.var 0) .nil)))) (.cons (.ite (.cmp .eq (.var 3) (.con (.int 8))) (.cons (.ret (.bin .add (.var 1) (.lst (.cons (.con .none) .nil)))) .nil) .nil) (.cons (.ite (.cmp .eq (.var 3) (.con (.int 9))) (.cons (.ret (.cut (.var 1) (.nul) (.neg (.con (.int 1))))) .nil) .nil) (.cons (.ite (.cmp .eq (.var 3) (.con (.int 10))) (.cons (.ret (.bi .tuple (.cons (.var 1) .nil))) .nil) .nil) (.cons (.ite (.cmp .eq (.var 3) (.con (.int 11))) (.cons (.ret (.idx (.lst (.cons (.con .none) (.cons (.con (.int 0)) (.cons (.con (.str "0")) (.cons (.dnew) .nil))))) (.bin .mod (.bin .fdiv (.var 2) (.bin .pow (.con (.int 2)) (.con (.int 40)))) (.con (.int 4))))) .nil) .nil) (.cons (.asg [5] (.lst (.cons (.con .none) (.cons (.var 4) (.cons (.con (.bool true)) (.cons (.con (.str "0")) (.cons (.bi .len (.cons (.var 0) .nil)) (.cons (.neg (.con (.int 1))) (.cons (.con (.int 0)) (.cons (.bin .mod (.bin .fdiv (.var 2) (.bin .pow (.con (.int 2)) (.con (.int 41)))) (.bi .len (.cons (.var 0) .nil))) .nil)))))))))) (.cons (.ite (.cmp .lt (.var 3) (.con (.int 8))) (.cons (.mut .set 1 .nil (.cons (.var 4) (.cons (.mvi 5 (.var 3)) .nil))) .nil) .nil) (.cons (.ret (.mv 1)) .nil)))))))))⟩
/-- law: slots 0=_law_script 1=_law_number 2=_law_net_here 3=_law_things 4=_law_turn 5=_law_handed 6=_law_row 7=_law_due 8=_law_again 9=_law_found -/
def f24 : Fd := ⟨1, 10, (.cons (.asg [1] (.call 5 (.cons (.var 0) (.cons (.con (.int 362436069362436069)) .nil)))) (.cons (.asg [2] (.call 7 (.cons (.var 1) (.cons (.con (.int 8)) .nil)))) (.cons (.asg [3] (.call 20 (.cons (.var 2) (.cons (.var 1) .nil)))) (.cons (.ite (.or (.cons (.cmp .isN (.var 3) (.con .none)) (.cons (.cmp .eq (.bin .mod (.bin .fdiv (.var 1) (.bin .pow (.con (.int 2)) (.con (.int 50)))) (.con (.int 4))) (.con (.int 1))) .nil))) (.cons (.asg [3] (.call 21 (.cons (.var 2) (.cons (.var 1) .nil)))) .nil) .nil) (.cons (.for [4] (.rng (.cons (.con (.int 2)) .nil)) (.cons (.asg [5] (.comp (.bi .list (.cons (.var 6) .nil)) [6] (.ls (.var 2)) .nil [6])) (.cons (.asg [7] (.call 22 (.cons (.var 2) (.cons (.var 3) .nil)))) (.cons (.for [8] (.rng (.cons (.con (.int 2)) .nil)) (.cons (.asg [9] (.call 19 (.cons (.var 5) (.cons (.var 3) .nil)))) (.cons (.ite (.or (.cons (.not (.isi (.var 9) [0])) (.cons (.cmp .ne (.var 9) (.var 7)) (.cons (.cmp .ne (.var 5) (.var 2)) .nil)))) (.cons (.ret (.con (.bool false))) .nil) .nil) .nil))) (.cons (.ite (.cmp .eq (.var 4) (.con (.int 0))) (.cons (.asg [1] (.call 6 (.cons (.var 1) .nil))) (.cons (.asgm [3] 23 (.cons (.var 2) (.cons (.mv 3) (.cons (.var 1) .nil)))) .nil)) .nil) .nil))))) (.cons (.ret (.con (.bool true))) .nil))))))⟩
/-- tops_of: slots 0=piles 1=found 2=pile -/
def f35 : Fd := ⟨1, 3, (.cons (.asg [1] (.lst .nil)) (.cons (.for [2] (.ls (.var 0)) (.cons (.ite (.cmp .eq (.var 2) (.lst .nil)) (.cons (.mut .append 1 .nil (.cons (.con .none) .nil)) .nil) (.cons (.mut .append 1 .nil (.cons (.idx (.var 2) (.con (.int 0))) .nil)) .nil)) .nil)) (.cons (.ret (.mv 1)) .nil)))⟩
/-- rings_of: slots 0=tops 1=found 2=place 3=ring 4=here -/
def f43 : Fd := ⟨1, 5, (.cons (.asg [1] (.lst .nil)) (.cons (.for [2] (.rng (.cons (.bi .len (.cons (.var 0) .nil)) .nil)) (.cons (.asg [3] (.lst (.cons (.var 2) .nil))) (.cons (.asg [4] (.idx (.var 0) (.var 2))) (.cons (.whl (.and (.cons (.cmp .notN (.var 4) (.con .none)) (.cons (.cmp .notin (.var 4) (.var 3)) .nil))) (.cons (.mut .append 3 .nil (.cons (.var 4) .nil)) (.cons (.asg [4] (.idx (.var 0) (.var 4))) .nil))) (.cons (.ite (.and (.cons (.cmp .eq (.var 4) (.var 2)) (.cons (.cmp .eq (.bi .min (.cons (.var 3) .nil)) (.var 2)) .nil))) (.cons (.mut .append 1 .nil (.cons (.mv 3) .nil)) .nil) .nil) .nil))))) (.cons (.ret (.mv 1)) .nil)))⟩
/-- _law_tops: slots 0=_law_script 1=_law_number 2=_law_many 3=_law_tops_here 4=_law_place 5=_law_end 6=_law_cell -/
def f44 : Fd := ⟨2, 7, (.cons (.asg [2] (.bin .add (.con (.int 1)) (.bin .mod (.bin .fdiv (.var 1) (.bin .pow (.con (.int 2)) (.con (.int 7)))) (.con (.int 8))))) (.cons (.asg [3] (.lst .nil)) (.cons (.for [4] (.rng (.cons (.var 2) .nil)) (.cons (.asg [1] (.call 6 (.cons (.var 1) .nil))) (.cons (.asg [5] (.bin .mod (.bin .fdiv (.var 1) (.bin .pow (.con (.int 2)) (.con (.int 9)))) (.var 2))) (.cons (.ite (.cmp .eq (.bin .mod (.bin .fdiv (.var 1) (.bin .pow (.con (.int 2)) (.con (.int 20)))) (.con (.int 6))) (.con (.int 1))) (.cons (.asg [5] (.con .none)) .nil) .nil) (.cons (.mut .append 3 .nil (.cons (.mv 5) .nil)) .nil))))) (.cons (.for [6] (.ls (.var 0)) (.cons (.mut .set 3 .nil (.cons (.bin .mod (.var 6) (.var 2)) (.cons (.bin .mod (.bin .fdiv (.var 6) (.var 2)) (.var 2)) .nil))) .nil)) (.cons (.ret (.mv 3)) .nil)))))⟩
/-- _law_on_ring: slots 0=_law_tops_here 1=_law_place 2=_law_here 3=_law_step -/
def f45 : Fd := ⟨2, 4, (.cons (.asg [2] (.idx (.var 0) (.var 1))) (.cons (.for [3] (.rng (.cons (.bi .len (.cons (.var 0) .nil)) .nil)) (.cons (.ite (.and (.cons (.cmp .notN (.var 2) (.con .none)) (.cons (.cmp .ne (.var 2) (.var 1)) .nil))) (.cons (.asg [2] (.idx (.var 0) (.var 2))) .nil) .nil) .nil)) (.cons (.ret (.cmp .eq (.var 2) (.var 1))) .nil)))⟩
/-- _law_is_ring: slots 0=_law_ring 1=_law_tops_here 2=_law_place -/
def f46 : Fd := ⟨2, 3, (.cons (.ite (.or (.cons (.not (.isi (.var 0) [3])) (.cons (.cmp .eq (.var 0) (.lst .nil)) .nil))) (.cons (.ret (.con (.bool false))) .nil) .nil) (.cons (.ite (.cmp .ne (.bi .len (.cons (.comp (.var 2) [2] (.ls (.var 0)) (.cons (.and (.cons (.call 8 (.cons (.var 2) .nil)) (.cons (.chain .le .lt (.con (.int 0)) (.var 2) (.bi .len (.cons (.var 1) .nil))) .nil))) .nil) [2]) .nil)) (.bi .len (.cons (.var 0) .nil))) (.cons (.ret (.con (.bool false))) .nil) .nil) (.cons (.ite (.or (.cons (.cmp .ne (.lset (.var 0)) (.bi .len (.cons (.var 0) .nil))) (.cons (.cmp .ne (.bi .min (.cons (.var 0) .nil)) (.idx (.var 0) (.con (.int 0)))) .nil))) (.cons (.ret (.con (.bool false))) .nil) .nil) (.cons (.ret (.cmp .eq (.comp (.idx (.var 1) (.var 2)) [2] (.ls (.var 0)) .nil [2]) (.bin .add (.cut (.var 0) (.con (.int 1)) (.nul)) (.cut (.var 0) (.nul) (.con (.int 1)))))) .nil))))⟩
/-- _law_right: slots 0=_law_found 1=_law_tops_here 2=_law_covered 3=_law_ring 4=_law_places 5=_law_place -/
def f47 : Fd := ⟨2, 6, (.cons (.ite (.not (.isi (.var 0) [3])) (.cons (.ret (.con (.bool false))) .nil) .nil) (.cons (.asg [2] (.lst .nil)) (.cons (.for [3] (.ls (.var 0)) (.cons (.ite (.not (.call 46 (.cons (.var 3) (.cons (.var 1) .nil)))) (.cons (.ret (.con (.bool false))) .nil) .nil) (.cons (.ite (.and (.cons (.cmp .ne (.var 2) (.lst .nil)) (.cons (.cmp .le (.idx (.var 3) (.con (.int 0))) (.idx (.var 2) (.neg (.con (.int 1))))) .nil))) (.cons (.ret (.con (.bool false))) .nil) .nil) (.cons (.mut .append 2 .nil (.cons (.idx (.var 3) (.con (.int 0))) .nil)) .nil)))) (.cons (.asg [4] (.lst .nil)) (.cons (.for [3] (.ls (.var 0)) (.cons (.asg [4] (.bin .add (.var 4) (.var 3))) .nil)) (.cons (.ret (.cmp .eq (.bi .sorted (.cons (.var 4) .nil)) (.comp (.var 5) [5] (.rng (.cons (.bi .len (.cons (.var 1) .nil)) .nil)) (.cons (.call 45 (.cons (.var 1) (.cons (.var 5) .nil))) .nil) [5]))) .nil))))))⟩
/-- law: slots 0=_law_script 1=_law_tops_here 2=_law_handed 3=_law_found 4=_law_held 5=_law_ring -/
def f48 : Fd := ⟨1, 6, (.cons (.asg [1] (.call 44 (.cons (.var 0) (.cons (.call 5 (.cons (.var 0) (.cons (.con (.int 747796405747796405)) .nil))) .nil)))) (.cons (.asg [2] (.bi .list (.cons (.var 1) .nil))) (.cons (.asg [3] (.call 43 (.cons (.var 2) .nil))) (.cons (.ite (.or (.cons (.not (.call 47 (.cons (.var 3) (.cons (.var 1) .nil)))) (.cons (.cmp .ne (.var 2) (.var 1)) .nil))) (.cons (.ret (.con (.bool false))) .nil) .nil) (.cons (.asg [4] (.comp (.bi .list (.cons (.var 5) .nil)) [5] (.ls (.var 3)) .nil [5])) (.cons (.ite (.or (.cons (.not (.call 47 (.cons (.call 43 (.cons (.bin .add (.lst (.cons (.con .none) .nil)) (.bin .mul (.lst (.cons (.con .none) .nil)) (.bi .len (.cons (.cut (.var 1) (.con (.int 1)) (.nul)) .nil)))) .nil)) (.cons (.bin .mul (.lst (.cons (.con .none) .nil)) (.bi .len (.cons (.var 1) .nil))) .nil)))) (.cons (.cmp .ne (.var 3) (.var 4)) .nil))) (.cons (.ret (.con (.bool false))) .nil) .nil) (.cons (.each .clear 5 3 .nil .nil) (.cons (.ret (.call 47 (.cons (.call 43 (.cons (.var 1) .nil)) (.cons (.var 1) .nil)))) .nil))))))))⟩
/-- copied_piles: slots 0=piles 1=pile -/
def f49 : Fd := ⟨1, 2, (.cons (.ret (.comp (.bi .list (.cons (.var 1) .nil)) [1] (.ls (.var 0)) .nil [1])) .nil)⟩
/-- pop_ring: slots 0=piles 1=ring 2=place 3=found -/
def f50 : Fd := ⟨2, 4, (.cons (.ite (.or (.cons (.not (.isi (.var 1) [3])) (.cons (.cmp .ne (.comp (.var 2) [2] (.ls (.var 1)) (.cons (.not (.call 0 (.cons (.var 2) .nil))) .nil) [2]) (.lst .nil)) .nil))) (.cons (.rai 0 .nul) .nil) .nil) (.cons (.ite (.cmp .notin (.var 1) (.call 43 (.cons (.call 35 (.cons (.var 0) .nil)) .nil))) (.cons (.rai 0 .nul) .nil) .nil) (.cons (.asg [3] (.call 49 (.cons (.var 0) .nil))) (.cons (.for [2] (.ls (.var 1)) (.cons (.mut .popAt 3 (.cons (.var 2) .nil) (.cons (.con (.int 0)) .nil)) .nil)) (.cons (.ret (.mv 3)) .nil)))))⟩
/-- _law_any: slots 0=_law_script 1=_law_number 2=_law_many 3=_law_piles 4=_law_place 5=_law_bare 6=_law_cell -/
def f51 : Fd := ⟨2, 7, (.cons (.asg [2] (.bin .add (.con (.int 1)) (.bin .mod (.bin .fdiv (.var 1) (.bin .pow (.con (.int 2)) (.con (.int 7)))) (.con (.int 8))))) (.cons (.asg [3] (.comp (.lst .nil) [4] (.rng (.cons (.var 2) .nil)) .nil [4])) (.cons (.asg [5] (.comp (.var 4) [4] (.rng (.cons (.var 2) .nil)) (.cons (.cmp .eq (.bin .mod (.bin .fdiv (.var 1) (.bin .add (.con (.int 2048)) (.bin .mul (.con (.int 77)) (.var 4)))) (.con (.int 5))) (.con (.int 1))) .nil) [4])) (.cons (.for [6] (.ls (.var 0)) (.cons (.asg [4] (.bin .mod (.var 6) (.var 2))) (.cons (.ite (.and (.cons (.cmp .notin (.var 4) (.var 5)) (.cons (.cmp .lt (.bi .len (.cons (.idx (.var 3) (.var 4)) .nil)) (.con (.int 40))) .nil))) (.cons (.mut .append 3 (.cons (.var 4) .nil) (.cons (.bin .mod (.bin .fdiv (.var 6) (.var 2)) (.var 2)) .nil)) .nil) .nil) .nil))) (.cons (.ret (.mv 3)) .nil)))))⟩
/-- pop_out: slots 0=piles 1=order 2=rest 3=popped 4=rings 5=which -/
def f58 : Fd := ⟨2, 6, (.cons (.asg [2] (.call 49 (.cons (.var 0) .nil))) (.cons (.asg [3] (.lst .nil)) (.cons (.asg [4] (.call 43 (.cons (.call 35 (.cons (.var 2) .nil)) .nil))) (.cons (.whl (.cmp .ne (.var 4) (.lst .nil)) (.cons (.asg [5] (.con (.int 0))) (.cons (.ite (.and (.cons (.cmp .notN (.var 1) (.con .none)) (.cons (.cmp .lt (.bi .len (.cons (.var 3) .nil)) (.bi .len (.cons (.var 1) .nil))) .nil))) (.cons (.asg [5] (.bin .mod (.idx (.var 1) (.bi .len (.cons (.var 3) .nil))) (.bi .len (.cons (.var 4) .nil)))) .nil) .nil) (.cons (.asg [2] (.call 50 (.cons (.var 2) (.cons (.idx (.var 4) (.var 5)) .nil)))) (.cons (.mut .append 3 .nil (.cons (.mvi 4 (.var 5)) .nil)) (.cons (.asg [4] (.call 43 (.cons (.call 35 (.cons (.var 2) .nil)) .nil))) .nil)))))) (.cons (.ret (.tup (.cons (.mv 3) (.cons (.mv 2) .nil)))) .nil)))))⟩
/-- _law_rings: slots 0=_law_piles 1=_law_tops 2=_law_pile 3=_law_found 4=_law_place 5=_law_ring 6=_law_here -/
def f59 : Fd := ⟨1, 7, (.cons (.asg [1] (.comp (.idx (.bin .add (.var 2) (.lst (.cons (.con .none) .nil))) (.con (.int 0))) [2] (.ls (.var 0)) .nil [2])) (.cons (.asg [3] (.lst .nil)) (.cons (.for [4] (.rng (.cons (.bi .len (.cons (.var 1) .nil)) .nil)) (.cons (.asg [5] (.lst (.cons (.var 4) .nil))) (.cons (.asg [6] (.idx (.var 1) (.var 4))) (.cons (.whl (.and (.cons (.cmp .notN (.var 6) (.con .none)) (.cons (.cmp .gt (.var 6) (.var 4)) (.cons (.cmp .notin (.var 6) (.var 5)) .nil)))) (.cons (.mut .append 5 .nil (.cons (.var 6) .nil)) (.cons (.asg [6] (.idx (.var 1) (.var 6))) .nil))) (.cons (.ite (.cmp .eq (.var 6) (.var 4)) (.cons (.mut .append 3 .nil (.cons (.mv 5) .nil)) .nil) .nil) .nil))))) (.cons (.ret (.mv 3)) .nil))))⟩
/-- _law_walked: slots 0=_law_piles 1=_law_order 2=_law_found 3=_law_left 4=_law_pile 5=_law_k 6=_law_rings_here 7=_law_which 8=_law_place -/
def f60 : Fd := ⟨3, 9, (.cons (.ite (.or (.cons (.not (.isi (.var 2) [2])) (.cons (.cmp .ne (.bi .len (.cons (.var 2) .nil)) (.con (.int 2))) (.cons (.not (.isi (.idx (.var 2) (.con (.int 0))) [3])) .nil)))) (.cons (.ret (.con (.bool false))) .nil) .nil) (.cons (.asg [3] (.comp (.bi .list (.cons (.var 4) .nil)) [4] (.ls (.var 0)) .nil [4])) (.cons (.for [5] (.rng (.cons (.bi .len (.cons (.idx (.var 2) (.con (.int 0))) .nil)) .nil)) (.cons (.asg [6] (.call 59 (.cons (.var 3) .nil))) (.cons (.asg [7] (.con (.int 0))) (.cons (.ite (.cmp .lt (.var 5) (.bi .len (.cons (.var 1) .nil))) (.cons (.asg [7] (.bin .mod (.idx (.var 1) (.var 5)) (.bi .max (.cons (.con (.int 1)) (.cons (.bi .len (.cons (.var 6) .nil)) .nil))))) .nil) .nil) (.cons (.ite (.or (.cons (.cmp .eq (.var 6) (.lst .nil)) (.cons (.not (.isi (.idx (.idx (.var 2) (.con (.int 0))) (.var 5)) [3])) (.cons (.cmp .ne (.idx (.idx (.var 2) (.con (.int 0))) (.var 5)) (.idx (.var 6) (.var 7))) .nil)))) (.cons (.ret (.con (.bool false))) .nil) .nil) (.cons (.for [8] (.ls (.idx (.var 6) (.var 7))) (.cons (.mut .set 3 .nil (.cons (.var 8) (.cons (.cut (.idx (.var 3) (.var 8)) (.con (.int 1)) (.nul)) .nil))) .nil)) .nil)))))) (.cons (.ret (.and (.cons (.cmp .eq (.call 59 (.cons (.var 3) .nil)) (.lst .nil)) (.cons (.isi (.idx (.var 2) (.con (.int 1))) [3]) (.cons (.cmp .eq (.idx (.var 2) (.con (.int 1))) (.var 3)) .nil))))) .nil))))⟩
/-- law: slots 0=_law_script 1=_law_number 2=_law_piles 3=_law_order 4=_law_cell 5=_law_handed 6=_law_pile 7=_law_found 8=_law_held 9=_law_ring 10=_law_first 11=_law_part -/
def f61 : Fd := ⟨1, 12, (.cons (.asg [1] (.call 5 (.cons (.var 0) (.cons (.con (.int 2862933555777941757)) .nil)))) (.cons (.asg [2] (.call 51 (.cons (.var 0) (.cons (.var 1) .nil)))) (.cons (.asg [3] (.comp (.bin .mod (.bi .abs (.cons (.var 4) .nil)) (.bin .pow (.con (.int 10)) (.con (.int 30)))) [4] (.ls (.var 0)) .nil [4])) (.cons (.ite (.cmp .eq (.bin .mod (.bin .fdiv (.var 1) (.bin .pow (.con (.int 2)) (.con (.int 40)))) (.con (.int 4))) (.con (.int 1))) (.cons (.asg [3] (.lst .nil)) .nil) .nil) (.cons (.asg [5] (.lst (.cons (.comp (.bi .list (.cons (.var 6) .nil)) [6] (.ls (.var 2)) .nil [6]) (.cons (.bi .list (.cons (.var 3) .nil)) .nil)))) (.cons (.asg [7] (.call 58 (.cons (.idx (.var 5) (.con (.int 0))) (.cons (.idx (.var 5) (.con (.int 1))) .nil)))) (.cons (.ite (.or (.cons (.not (.call 60 (.cons (.var 2) (.cons (.var 3) (.cons (.var 7) .nil))))) (.cons (.cmp .ne (.var 5) (.lst (.cons (.var 2) (.cons (.var 3) .nil)))) .nil))) (.cons (.ret (.con (.bool false))) .nil) .nil) (.cons (.asg [8] (.tup (.cons (.comp (.bi .list (.cons (.var 9) .nil)) [9] (.ls (.idx (.var 7) (.con (.int 0)))) .nil [9]) (.cons (.comp (.bi .list (.cons (.var 6) .nil)) [6] (.ls (.idx (.var 7) (.con (.int 1)))) .nil [6]) .nil)))) (.cons (.asg [10] (.calld 58 (.cons (.idx (.var 5) (.con (.int 0))) .nil))) (.cons (.ite (.or (.cons (.not (.call 60 (.cons (.var 2) (.cons (.lst .nil) (.cons (.var 10) .nil))))) (.cons (.cmp .ne (.call 58 (.cons (.idx (.var 5) (.con (.int 0))) (.cons (.con .none) .nil))) (.var 10)) (.cons (.cmp .ne (.var 5) (.lst (.cons (.var 2) (.cons (.var 3) .nil)))) .nil)))) (.cons (.ret (.con (.bool false))) .nil) .nil) (.cons (.each .clear 6 5 (.cons (.con (.int 0)) .nil) .nil) (.cons (.ite (.cmp .ne (.var 7) (.var 8)) (.cons (.ret (.con (.bool false))) .nil) .nil) (.cons (.each2 .append 11 7 (.cons (.con (.int 0)) .nil) (.cons (.con (.int 1)) .nil) (.cons (.con (.int 0)) .nil)) (.cons (.ret (.cmp .eq (.call 58 (.cons (.var 2) (.cons (.var 3) .nil))) (.var 8))) .nil))))))))))))))⟩
/-- put_back: slots 0=piles 1=rings 2=found 3=ring 4=place 5=to -/
def f62 : Fd := ⟨2, 6, (.cons (.asg [2] (.call 49 (.cons (.var 0) .nil))) (.cons (.for [3] (.rev (.var 1)) (.cons (.for [4, 5] (.zip (.var 3) (.bin .add (.cut (.var 3) (.con (.int 1)) (.nul)) (.cut (.var 3) (.nul) (.con (.int 1))))) (.cons (.mut .insert 2 (.cons (.var 4) .nil) (.cons (.con (.int 0)) (.cons (.mv 5) .nil))) .nil)) .nil)) (.cons (.ret (.mv 2)) .nil)))⟩
/-- _law_drawn: slots 0=_law_script 1=_law_many 2=_law_rings 3=_law_cell 4=_law_size 5=_law_start 6=_law_ring 7=_law_k 8=_law_at -/
def f63 : Fd := ⟨2, 9, (.cons (.asg [2] (.lst .nil)) (.cons (.for [3] (.ls (.cut (.var 0) (.nul) (.con (.int 20)))) (.cons (.asg [4] (.bin .add (.con (.int 1)) (.bin .mod (.bin .fdiv (.var 3) (.con (.int 8))) (.var 1)))) (.cons (.asg [5] (.bin .mod (.bin .fdiv (.var 3) (.con (.int 64))) (.var 1))) (.cons (.asg [6] (.comp (.bin .mod (.bin .add (.var 5) (.var 7)) (.var 1)) [7] (.rng (.cons (.var 4) .nil)) .nil [7])) (.cons (.ite (.cmp .eq (.bin .mod (.bin .fdiv (.var 3) (.con (.int 512))) (.con (.int 2))) (.con (.int 1))) (.cons (.mut .reverse 6 .nil .nil) .nil) .nil) (.cons (.asg [8] (.mt .index (.var 6) (.cons (.bi .min (.cons (.var 6) .nil)) .nil))) (.cons (.mut .append 2 .nil (.cons (.bin .add (.cut (.var 6) (.var 8) (.nul)) (.cut (.var 6) (.nul) (.var 8))) .nil)) .nil))))))) (.cons (.ret (.mv 2)) .nil)))⟩
/-- _law_due: slots 0=_law_piles 1=_law_rings 2=_law_found 3=_law_place 4=_law_ahead 5=_law_ring -/
def f64 : Fd := ⟨2, 6, (.cons (.asg [2] (.lst .nil)) (.cons (.for [3] (.rng (.cons (.bi .len (.cons (.var 0) .nil)) .nil)) (.cons (.asg [4] (.lst .nil)) (.cons (.for [5] (.ls (.var 1)) (.cons (.ite (.cmp .inn (.var 3) (.var 5)) (.cons (.mut .append 4 .nil (.cons (.idx (.bin .add (.var 5) (.cut (.var 5) (.nul) (.con (.int 1)))) (.bin .add (.mt .index (.var 5) (.cons (.var 3) .nil)) (.con (.int 1)))) .nil)) .nil) .nil) .nil)) (.cons (.mut .append 2 .nil (.cons (.bin .add (.var 4) (.idx (.var 0) (.var 3))) .nil)) .nil)))) (.cons (.ret (.mv 2)) .nil)))⟩
/-- _law_back: slots 0=_law_piles 1=_law_rings 2=_law_due_here 3=_law_handed 4=_law_pile 5=_law_ring 6=_law_found -/
def f65 : Fd := ⟨3, 7, (.cons (.asg [3] (.lst (.cons (.comp (.bi .list (.cons (.var 4) .nil)) [4] (.ls (.var 0)) .nil [4]) (.cons (.comp (.bi .list (.cons (.var 5) .nil)) [5] (.ls (.var 1)) .nil [5]) .nil)))) (.cons (.asg [6] (.call 62 (.cons (.idx (.var 3) (.con (.int 0))) (.cons (.idx (.var 3) (.con (.int 1))) .nil)))) (.cons (.ite (.or (.cons (.not (.isi (.var 6) [3])) (.cons (.cmp .ne (.var 6) (.var 2)) (.cons (.cmp .ne (.var 3) (.lst (.cons (.var 0) (.cons (.var 1) .nil)))) .nil)))) (.cons (.ret (.con (.bool false))) .nil) .nil) (.cons (.each2 .clear 4 3 (.cons (.con (.int 0)) .nil) (.cons (.con (.int 1)) .nil) .nil) (.cons (.ite (.or (.cons (.cmp .ne (.var 6) (.var 2)) (.cons (.cmp .ne (.bi .len (.cons (.comp (.var 4) [4] (.ls (.var 6)) (.cons (.isi (.var 4) [3]) .nil) [4]) .nil)) (.bi .len (.cons (.var 6) .nil))) .nil))) (.cons (.ret (.con (.bool false))) .nil) .nil) (.cons (.each .append 4 6 .nil (.cons (.con (.int 0)) .nil)) (.cons (.ret (.cmp .eq (.call 62 (.cons (.var 0) (.cons (.var 1) .nil))) (.var 2))) .nil)))))))⟩
/-- law: slots 0=_law_script 1=_law_number 2=_law_piles 3=_law_order 4=_law_cell 5=_law_rings 6=_law_rest 7=_law_drawn_here -/
def f66 : Fd := ⟨1, 8, (.cons (.asg [1] (.call 5 (.cons (.var 0) (.cons (.con (.int 3935559000370003845)) .nil)))) (.cons (.asg [2] (.call 51 (.cons (.var 0) (.cons (.var 1) .nil)))) (.cons (.asg [3] (.comp (.bin .mod (.bi .abs (.cons (.var 4) .nil)) (.bin .pow (.con (.int 10)) (.con (.int 30)))) [4] (.ls (.var 0)) .nil [4])) (.cons (.asg [5, 6] (.call 58 (.cons (.var 2) (.cons (.var 3) .nil)))) (.cons (.ite (.not (.call 65 (.cons (.var 6) (.cons (.var 5) (.cons (.var 2) .nil))))) (.cons (.ret (.con (.bool false))) .nil) .nil) (.cons (.asg [7] (.call 63 (.cons (.var 0) (.cons (.bi .len (.cons (.var 2) .nil)) .nil)))) (.cons (.ret (.call 65 (.cons (.var 2) (.cons (.var 7) (.cons (.call 64 (.cons (.var 2) (.cons (.var 7) .nil))) .nil))))) .nil)))))))⟩
/-- marked_rings: slots 0=rings 1=depths 2=found 3=ring 4=place -/
def f67 : Fd := ⟨1, 5, (.cons (.asg [1] (.dnew)) (.cons (.asg [2] (.lst .nil)) (.cons (.for [3] (.ls (.var 0)) (.cons (.mut .append 2 .nil (.cons (.comp (.tup (.cons (.var 4) (.cons (.mt .get (.var 1) (.cons (.var 4) (.cons (.con (.int 0)) .nil))) .nil))) [4] (.ls (.var 3)) .nil [4]) .nil)) (.cons (.for [4] (.ls (.var 3)) (.cons (.dput 1 (.var 4) (.bin .add (.mt .get (.var 1) (.cons (.var 4) (.cons (.con (.int 0)) .nil))) (.con (.int 1)))) .nil)) .nil))) (.cons (.ret (.sortm 2)) .nil))))⟩
/-- _law_drawn: slots 0=_law_script 1=_law_many 2=_law_rings 3=_law_cell 4=_law_size 5=_law_step 6=_law_ring 7=_law_k 8=_law_at -/
def f68 : Fd := ⟨2, 9, (.cons (.asg [2] (.lst .nil)) (.cons (.for [3] (.ls (.cut (.var 0) (.nul) (.con (.int 60)))) (.cons (.asg [4] (.bin .add (.con (.int 1)) (.bin .mod (.bin .fdiv (.var 3) (.con (.int 8))) (.var 1)))) (.cons (.asg [5] (.idx (.lst (.cons (.con (.int 1)) (.cons (.bin .sub (.var 1) (.con (.int 1))) .nil))) (.bin .mod (.bin .fdiv (.var 3) (.con (.int 512))) (.con (.int 2))))) (.cons (.asg [6] (.comp (.bin .mod (.bin .add (.bin .fdiv (.var 3) (.con (.int 64))) (.bin .mul (.var 5) (.var 7))) (.var 1)) [7] (.rng (.cons (.var 4) .nil)) .nil [7])) (.cons (.asg [8] (.mt .index (.var 6) (.cons (.bi .min (.cons (.var 6) .nil)) .nil))) (.cons (.mut .append 2 .nil (.cons (.bin .add (.cut (.var 6) (.var 8) (.nul)) (.cut (.var 6) (.nul) (.var 8))) .nil)) .nil)))))) (.cons (.ret (.mv 2)) .nil)))⟩
/-- _law_due: slots 0=_law_rings 1=_law_found 2=_law_k 3=_law_marks 4=_law_place 5=_law_ring -/
def f69 : Fd := ⟨1, 6, (.cons (.asg [1] (.lst .nil)) (.cons (.for [2] (.rng (.cons (.bi .len (.cons (.var 0) .nil)) .nil)) (.cons (.asg [3] (.lst .nil)) (.cons (.for [4] (.ls (.idx (.var 0) (.var 2))) (.cons (.mut .append 3 .nil (.cons (.tup (.cons (.var 4) (.cons (.bi .len (.cons (.comp (.con (.int 1)) [5] (.ls (.cut (.var 0) (.nul) (.var 2))) (.cons (.cmp .inn (.var 4) (.var 5)) .nil) [5]) .nil)) .nil))) .nil)) .nil)) (.cons (.mut .append 1 .nil (.cons (.mv 3) .nil)) .nil)))) (.cons (.ret (.sortm 1)) .nil)))⟩
/-- _law_marked: slots 0=_law_rings 1=_law_handed 2=_law_ring 3=_law_found 4=_law_marks 5=_law_mark 6=_law_place 7=_law_depth -/
def f70 : Fd := ⟨1, 8, (.cons (.asg [1] (.comp (.bi .list (.cons (.var 2) .nil)) [2] (.ls (.var 0)) .nil [2])) (.cons (.asg [3] (.call 67 (.cons (.var 1) .nil))) (.cons (.ite (.or (.cons (.not (.isi (.var 3) [3])) (.cons (.cmp .ne (.var 3) (.call 69 (.cons (.var 0) .nil))) (.cons (.cmp .ne (.var 1) (.var 0)) .nil)))) (.cons (.ret (.con (.bool false))) .nil) .nil) (.cons (.for [4] (.ls (.var 3)) (.cons (.ite (.or (.cons (.not (.isi (.var 4) [3])) (.cons (.cmp .ne (.bi .len (.cons (.comp (.var 5) [5] (.ls (.var 4)) (.cons (.isi (.var 5) [2]) .nil) [5]) .nil)) (.bi .len (.cons (.var 4) .nil))) .nil))) (.cons (.ret (.con (.bool false))) .nil) .nil) (.cons (.for [6, 7] (.ls (.var 4)) (.cons (.ite (.or (.cons (.not (.call 8 (.cons (.var 6) .nil))) (.cons (.not (.call 8 (.cons (.var 7) .nil))) .nil))) (.cons (.ret (.con (.bool false))) .nil) .nil) .nil)) .nil))) (.cons (.each .clear 2 1 .nil .nil) (.cons (.ite (.cmp .ne (.var 3) (.call 69 (.cons (.var 0) .nil))) (.cons (.ret (.con (.bool false))) .nil) .nil) (.cons (.each .clear 4 3 .nil .nil) (.cons (.ret (.cmp .eq (.call 67 (.cons (.var 0) .nil)) (.call 69 (.cons (.var 0) .nil)))) .nil))))))))⟩
/-- law: slots 0=_law_script 1=_law_many 2=_law_rings -/
def f71 : Fd := ⟨1, 3, (.cons (.asg [1] (.bin .add (.con (.int 1)) (.bin .mod (.bi .len (.cons (.var 0) .nil)) (.con (.int 8))))) (.cons (.ite (.cmp .gt (.bi .len (.cons (.var 0) .nil)) (.con (.int 0))) (.cons (.asg [1] (.bin .add (.con (.int 1)) (.bin .mod (.bin .add (.idx (.var 0) (.con (.int 0))) (.bi .len (.cons (.var 0) .nil))) (.con (.int 8))))) .nil) .nil) (.cons (.asg [2] (.call 68 (.cons (.var 0) (.cons (.var 1) .nil)))) (.cons (.ret (.and (.cons (.call 70 (.cons (.var 2) .nil)) (.cons (.call 70 (.cons (.revl (.var 2)) .nil)) (.cons (.call 70 (.cons (.lst .nil) .nil)) .nil))))) .nil))))⟩
/-- _law_numbers: slots 0=_law_script 1=_law_seed 2=_law_number 3=_law_found 4=_law_k -/
def f72 : Fd := ⟨2, 5, (.cons (.asg [2] (.call 5 (.cons (.var 0) (.cons (.var 1) .nil)))) (.cons (.asg [3] (.lst .nil)) (.cons (.for [4] (.rng (.cons (.bi .len (.cons (.var 0) .nil)) .nil)) (.cons (.asg [2] (.call 6 (.cons (.bin .add (.call 6 (.cons (.bin .add (.var 2) (.bin .mod (.idx (.var 0) (.var 4)) (.bin .pow (.con (.int 2)) (.con (.int 61))))) .nil)) (.bin .mul (.var 4) (.var 4))) .nil))) (.cons (.mut .append 3 .nil (.cons (.idx (.lst (.cons (.bin .mod (.bin .fdiv (.var 2) (.bin .pow (.con (.int 2)) (.con (.int 40)))) (.con (.int 4096))) (.cons (.bi .abs (.cons (.idx (.var 0) (.var 4)) .nil)) .nil))) (.bin .mod (.idx (.var 0) (.con (.int 0))) (.con (.int 2)))) .nil)) .nil))) (.cons (.ret (.mv 3)) .nil))))⟩
/-- _law_digits: slots 0=_law_number 1=_law_base 2=_law_most 3=_law_found -/
def f73 : Fd := ⟨3, 4, (.cons (.asg [3] (.lst (.cons (.bin .mod (.var 0) (.var 1)) .nil))) (.cons (.asg [0] (.bin .fdiv (.var 0) (.var 1))) (.cons (.whl (.and (.cons (.cmp .gt (.var 0) (.con (.int 1))) (.cons (.cmp .lt (.bi .len (.cons (.var 3) .nil)) (.var 2)) .nil))) (.cons (.mut .append 3 .nil (.cons (.bin .mod (.var 0) (.var 1)) .nil)) (.cons (.asg [0] (.bin .fdiv (.var 0) (.var 1))) .nil))) (.cons (.ret (.mv 3)) .nil))))⟩
/-- _law_any: slots 0=_law_numbers_here 1=_law_first 2=_law_many 3=_law_piles 4=_law_place 5=_law_bare 6=_law_k 7=_law_digit -/
def f74 : Fd := ⟨1, 8, (.cons (.asg [1] (.idx (.bin .add (.var 0) (.lst (.cons (.con (.int 0)) .nil))) (.con (.int 0)))) (.cons (.asg [2] (.bin .add (.con (.int 1)) (.bin .mod (.bin .fdiv (.var 1) (.con (.int 2))) (.con (.int 8))))) (.cons (.asg [3] (.comp (.lst .nil) [4] (.rng (.cons (.var 2) .nil)) .nil [4])) (.cons (.asg [5] (.comp (.var 4) [4] (.rng (.cons (.var 2) .nil)) (.cons (.and (.cons (.cmp .eq (.bin .mod (.var 1) (.con (.int 2))) (.con (.int 0))) (.cons (.cmp .eq (.bin .mod (.bin .fdiv (.var 1) (.bin .add (.con (.int 16)) (.bin .mul (.con (.int 77)) (.var 4)))) (.con (.int 5))) (.con (.int 1))) .nil))) .nil) [4])) (.cons (.for [6] (.rng (.cons (.con (.int 1)) (.cons (.bi .len (.cons (.var 0) .nil)) (.cons (.con (.int 2)) .nil)))) (.cons (.for [7] (.ls (.call 73 (.cons (.idx (.var 0) (.var 6)) (.cons (.con (.int 64)) (.cons (.con (.int 12)) .nil))))) (.cons (.asg [4] (.bin .mod (.bin .mod (.var 7) (.con (.int 8))) (.var 2))) (.cons (.ite (.and (.cons (.cmp .notin (.var 4) (.var 5)) (.cons (.cmp .lt (.bi .len (.cons (.idx (.var 3) (.var 4)) .nil)) (.con (.int 40))) .nil))) (.cons (.mut .append 3 (.cons (.var 4) .nil) (.cons (.bin .mod (.bin .fdiv (.var 7) (.con (.int 8))) (.var 2)) .nil)) .nil) .nil) .nil))) .nil)) (.cons (.ret (.mv 3)) .nil))))))⟩
/-- _law_order: slots 0=_law_numbers_here 1=_law_found 2=_law_k -/
def f75 : Fd := ⟨1, 3, (.cons (.asg [1] (.lst .nil)) (.cons (.for [2] (.rng (.cons (.con (.int 2)) (.cons (.bi .len (.cons (.var 0) .nil)) (.cons (.con (.int 2)) .nil)))) (.cons (.asg [1] (.bin .add (.var 1) (.call 73 (.cons (.idx (.var 0) (.var 2)) (.cons (.con (.int 840)) (.cons (.con (.int 12)) .nil)))))) .nil)) (.cons (.ret (.mv 1)) .nil)))⟩
/-- _law_marks: slots 0=_law_rings 1=_law_depths 2=_law_found 3=_law_ring 4=_law_place -/
def f76 : Fd := ⟨1, 5, (.cons (.asg [1] (.dnew)) (.cons (.asg [2] (.lst .nil)) (.cons (.for [3] (.ls (.var 0)) (.cons (.mut .append 2 .nil (.cons (.comp (.tup (.cons (.var 4) (.cons (.mt .get (.var 1) (.cons (.var 4) (.cons (.con (.int 0)) .nil))) .nil))) [4] (.ls (.var 3)) .nil [4]) .nil)) (.cons (.for [4] (.ls (.var 3)) (.cons (.dput 1 (.var 4) (.bin .add (.mt .get (.var 1) (.cons (.var 4) (.cons (.con (.int 0)) .nil))) (.con (.int 1)))) .nil)) .nil))) (.cons (.ret (.sortm 2)) .nil))))⟩
/-- _law_gone: slots 0=_law_piles 1=_law_rings 2=_law_rest 3=_law_place 4=_law_ends 5=_law_ring -/
def f77 : Fd := ⟨3, 6, (.cons (.for [3] (.rng (.cons (.bi .len (.cons (.var 0) .nil)) .nil)) (.cons (.asg [4] (.lst .nil)) (.cons (.for [5] (.ls (.var 1)) (.cons (.ite (.cmp .inn (.var 3) (.var 5)) (.cons (.mut .append 4 .nil (.cons (.idx (.bin .add (.var 5) (.cut (.var 5) (.nul) (.con (.int 1)))) (.bin .add (.mt .index (.var 5) (.cons (.var 3) .nil)) (.con (.int 1)))) .nil)) .nil) .nil) .nil)) (.cons (.ite (.cmp .ne (.bin .add (.var 4) (.idx (.var 2) (.var 3))) (.idx (.var 0) (.var 3))) (.cons (.ret (.con (.bool false))) .nil) .nil) .nil)))) (.cons (.ret (.con (.bool true))) .nil))⟩
/-- law: slots 0=_law_script 1=_law_numbers_here 2=_law_piles 3=_law_one 4=_law_number 5=_law_other 6=_law_cell 7=_law_rings 8=_law_rest 9=_law_marks_here 10=_law_order_here 11=_law_ring 12=_law_again 13=_law_left 14=_law_pile -/
def f78 : Fd := ⟨1, 15, (.cons (.asg [1] (.call 72 (.cons (.var 0) (.cons (.con (.int 4354685564936845)) .nil)))) (.cons (.asg [2] (.call 74 (.cons (.var 1) .nil))) (.cons (.asg [3] (.call 75 (.cons (.var 1) .nil))) (.cons (.asg [4] (.call 5 (.cons (.var 0) (.cons (.con (.int 1442695040888963407)) .nil)))) (.cons (.asg [5] (.lst .nil)) (.cons (.for [6] (.rev (.var 0)) (.cons (.asg [4] (.call 6 (.cons (.bin .add (.var 4) (.bin .mod (.var 6) (.bin .pow (.con (.int 2)) (.con (.int 61))))) .nil))) (.cons (.mut .append 5 .nil (.cons (.var 4) .nil)) .nil))) (.cons (.asg [7, 8] (.call 58 (.cons (.var 2) (.cons (.var 3) .nil)))) (.cons (.asg [9] (.call 76 (.cons (.var 7) .nil))) (.cons (.ite (.or (.cons (.not (.call 77 (.cons (.var 2) (.cons (.var 7) (.cons (.var 8) .nil))))) (.cons (.cmp .ne (.call 67 (.cons (.var 7) .nil)) (.var 9)) .nil))) (.cons (.ret (.con (.bool false))) .nil) .nil) (.cons (.for [10] (.ls (.lst (.cons (.var 5) (.cons (.comp (.con (.int 839)) [11] (.ls (.var 7)) .nil [11]) (.cons (.lst .nil) .nil))))) (.cons (.asg [12, 13] (.call 58 (.cons (.comp (.bi .list (.cons (.var 14) .nil)) [14] (.ls (.var 2)) .nil [14]) (.cons (.var 10) .nil)))) (.cons (.ite (.or (.cons (.cmp .ne (.call 76 (.cons (.var 12) .nil)) (.var 9)) (.cons (.cmp .ne (.var 13) (.var 8)) (.cons (.cmp .ne (.call 67 (.cons (.var 12) .nil)) (.var 9)) .nil)))) (.cons (.ret (.con (.bool false))) .nil) .nil) .nil))) (.cons (.ret (.con (.bool true))) .nil)))))))))))⟩
/-- law: slots 0=_law_script 1=_law_numbers_here 2=_law_piles 3=_law_choices 4=_law_rings 5=_law_rest 6=_law_left 7=_law_pile 8=_law_popped 9=_law_stop 10=_law_choice 11=_law_there 12=_law_place 13=_law_gone 14=_law_behind 15=_law_last -/
def f79 : Fd := ⟨1, 16, (.cons (.asg [1] (.call 72 (.cons (.var 0) (.cons (.con (.int 6148914691236517205)) .nil)))) (.cons (.asg [2] (.call 74 (.cons (.var 1) .nil))) (.cons (.asg [3] (.call 75 (.cons (.var 1) .nil))) (.cons (.asg [4, 5] (.calld 58 (.cons (.var 2) .nil))) (.cons (.asg [6] (.comp (.bi .list (.cons (.var 7) .nil)) [7] (.ls (.var 2)) .nil [7])) (.cons (.asg [8] (.lst .nil)) (.cons (.asg [9] (.bin .mod (.bin .fdiv (.idx (.bin .add (.var 1) (.lst (.cons (.con (.int 0)) .nil))) (.con (.int 0))) (.con (.int 16))) (.bin .add (.bi .len (.cons (.var 4) .nil)) (.con (.int 2))))) (.cons (.for [10] (.ls (.cut (.var 3) (.nul) (.var 9))) (.cons (.asg [11] (.call 43 (.cons (.call 35 (.cons (.var 6) .nil)) .nil))) (.cons (.ite (.cmp .ne (.var 11) (.lst .nil)) (.cons (.mut .append 8 .nil (.cons (.mvi 11 (.bin .mod (.var 10) (.bi .len (.cons (.var 11) .nil)))) .nil)) (.cons (.asg [6] (.call 50 (.cons (.var 6) (.cons (.idx (.var 8) (.neg (.con (.int 1)))) .nil)))) .nil)) .nil) .nil))) (.cons (.for [12] (.rng (.cons (.bi .len (.cons (.var 2) .nil)) .nil)) (.cons (.asg [13] (.bin .sub (.bi .len (.cons (.idx (.var 2) (.var 12)) .nil)) (.bi .len (.cons (.idx (.var 6) (.var 12)) .nil)))) (.cons (.ite (.or (.cons (.cmp .lt (.bi .len (.cons (.idx (.var 6) (.var 12)) .nil)) (.bi .len (.cons (.idx (.var 5) (.var 12)) .nil))) (.cons (.cmp .ne (.cut (.idx (.var 2) (.var 12)) (.var 13) (.nul)) (.idx (.var 6) (.var 12))) .nil))) (.cons (.ret (.con (.bool false))) .nil) .nil) .nil))) (.cons (.asg [14, 15] (.call 58 (.cons (.var 6) (.cons (.revl (.var 3)) .nil)))) (.cons (.ret (.and (.cons (.cmp .eq (.call 67 (.cons (.bin .add (.var 8) (.var 14)) .nil)) (.call 67 (.cons (.var 4) .nil))) (.cons (.cmp .eq (.var 15) (.var 5)) .nil)))) .nil)))))))))))⟩
/-- pop_rounds: slots 0=piles 1=rest 2=rounds 3=rings 4=ring -/
def f80 : Fd := ⟨1, 5, (.cons (.asg [1] (.call 49 (.cons (.var 0) .nil))) (.cons (.asg [2] (.lst .nil)) (.cons (.asg [3] (.call 43 (.cons (.call 35 (.cons (.var 1) .nil)) .nil))) (.cons (.whl (.cmp .ne (.var 3) (.lst .nil)) (.cons (.mut .append 2 .nil (.cons (.var 3) .nil)) (.cons (.for [4] (.ls (.var 3)) (.cons (.asg [1] (.call 50 (.cons (.var 1) (.cons (.var 4) .nil)))) .nil)) (.cons (.asg [3] (.call 43 (.cons (.call 35 (.cons (.var 1) .nil)) .nil))) .nil)))) (.cons (.ret (.mv 2)) .nil)))))⟩
/-- _law_touches: slots 0=_law_ring 1=_law_others 2=_law_other 3=_law_place -/
def f81 : Fd := ⟨2, 4, (.cons (.for [2] (.ls (.var 1)) (.cons (.ite (.cmp .gt (.bi .len (.cons (.comp (.var 3) [3] (.ls (.var 0)) (.cons (.cmp .inn (.var 3) (.var 2)) .nil) [3]) .nil)) (.con (.int 0))) (.cons (.ret (.con (.bool true))) .nil) .nil) .nil)) (.cons (.ret (.con (.bool false))) .nil))⟩
/-- _law_right: slots 0=_law_found 1=_law_piles 2=_law_left 3=_law_pile 4=_law_k 5=_law_ring 6=_law_place -/
def f82 : Fd := ⟨2, 7, (.cons (.ite (.not (.isi (.var 0) [3])) (.cons (.ret (.con (.bool false))) .nil) .nil) (.cons (.asg [2] (.comp (.bi .list (.cons (.var 3) .nil)) [3] (.ls (.var 1)) .nil [3])) (.cons (.for [4] (.rng (.cons (.bi .len (.cons (.var 0) .nil)) .nil)) (.cons (.ite (.or (.cons (.not (.isi (.idx (.var 0) (.var 4)) [3])) (.cons (.cmp .eq (.idx (.var 0) (.var 4)) (.lst .nil)) (.cons (.cmp .ne (.idx (.var 0) (.var 4)) (.call 59 (.cons (.var 2) .nil))) .nil)))) (.cons (.ret (.con (.bool false))) .nil) .nil) (.cons (.for [5] (.ls (.idx (.var 0) (.var 4))) (.cons (.ite (.or (.cons (.not (.isi (.var 5) [3])) (.cons (.and (.cons (.cmp .gt (.var 4) (.con (.int 0))) (.cons (.not (.call 81 (.cons (.var 5) (.cons (.idx (.var 0) (.bin .sub (.var 4) (.con (.int 1)))) .nil)))) .nil))) .nil))) (.cons (.ret (.con (.bool false))) .nil) .nil) (.cons (.for [6] (.ls (.var 5)) (.cons (.mut .set 2 .nil (.cons (.var 6) (.cons (.cut (.idx (.var 2) (.var 6)) (.con (.int 1)) (.nul)) .nil))) .nil)) .nil))) .nil))) (.cons (.ret (.cmp .eq (.call 59 (.cons (.var 2) .nil)) (.lst .nil))) .nil))))⟩
/-- law: slots 0=_law_script 1=_law_piles 2=_law_handed 3=_law_pile 4=_law_found 5=_law_rings_here 6=_law_each 7=_law_ring -/
def f83 : Fd := ⟨1, 8, (.cons (.asg [1] (.call 51 (.cons (.var 0) (.cons (.call 5 (.cons (.var 0) (.cons (.con (.int 982451653982451653)) .nil))) .nil)))) (.cons (.asg [2] (.comp (.bi .list (.cons (.var 3) .nil)) [3] (.ls (.var 1)) .nil [3])) (.cons (.asg [4] (.call 80 (.cons (.var 2) .nil))) (.cons (.ite (.or (.cons (.not (.call 82 (.cons (.var 4) (.cons (.var 1) .nil)))) (.cons (.cmp .ne (.var 2) (.var 1)) .nil))) (.cons (.ret (.con (.bool false))) .nil) .nil) (.cons (.asg [5] (.lst .nil)) (.cons (.for [6] (.ls (.var 4)) (.cons (.asg [5] (.bin .add (.var 5) (.comp (.bi .list (.cons (.var 7) .nil)) [7] (.ls (.var 6)) .nil [7]))) .nil)) (.cons (.ite (.cmp .ne (.call 67 (.cons (.var 5) .nil)) (.call 67 (.cons (.idx (.calld 58 (.cons (.var 1) .nil)) (.con (.int 0))) .nil))) (.cons (.ret (.con (.bool false))) .nil) .nil) (.cons (.each .clear 6 4 .nil .nil) (.cons (.mut .clear 4 .nil .nil) (.cons (.ret (.call 82 (.cons (.call 80 (.cons (.var 1) .nil)) (.cons (.var 1) .nil)))) .nil))))))))))⟩
/-- _law_lost: slots 0=_law_piles 1=_law_order_here 2=_law_rings 3=_law_rest 4=_law_pile 5=_law_left -/
def f84 : Fd := ⟨2, 6, (.cons (.asg [2, 3] (.call 58 (.cons (.var 0) (.cons (.var 1) .nil)))) (.cons (.ret (.lst (.cons (.call 67 (.cons (.var 2) .nil)) (.cons (.comp (.bin .sub (.bi .len (.cons (.var 4) .nil)) (.bi .len (.cons (.var 5) .nil))) [4, 5] (.zip (.var 0) (.var 3)) .nil [4, 5]) .nil)))) .nil))⟩
/-- _law_within: slots 0=_law_fewer 1=_law_more 2=_law_ring 3=_law_one 4=_law_other -/
def f85 : Fd := ⟨2, 5, (.cons (.for [2] (.ls (.idx (.var 0) (.con (.int 0)))) (.cons (.ite (.cmp .notin (.var 2) (.idx (.var 1) (.con (.int 0)))) (.cons (.ret (.con (.bool false))) .nil) .nil) .nil)) (.cons (.ret (.cmp .eq (.bi .len (.cons (.comp (.con (.int 1)) [3, 4] (.zip (.idx (.var 0) (.con (.int 1))) (.idx (.var 1) (.con (.int 1)))) (.cons (.cmp .gt (.var 3) (.var 4)) .nil) [3, 4]) .nil)) (.con (.int 0)))) .nil))⟩
/-- law: slots 0=_law_script 1=_law_numbers_here 2=_law_first 3=_law_piles 4=_law_order_here 5=_law_whole 6=_law_place 7=_law_emptied 8=_law_pile 9=_law_cut 10=_law_more -/
def f86 : Fd := ⟨1, 11, (.cons (.asg [1] (.call 72 (.cons (.var 0) (.cons (.con (.int 5536775847593249671)) .nil)))) (.cons (.asg [2] (.idx (.bin .add (.var 1) (.lst (.cons (.con (.int 0)) .nil))) (.con (.int 0)))) (.cons (.asg [3] (.call 74 (.cons (.var 1) .nil))) (.cons (.asg [4] (.call 75 (.cons (.var 1) .nil))) (.cons (.asg [5] (.call 84 (.cons (.var 3) (.cons (.var 4) .nil)))) (.cons (.asg [6] (.bin .mod (.bin .mod (.bin .fdiv (.var 2) (.con (.int 16))) (.con (.int 8))) (.bi .len (.cons (.var 3) .nil)))) (.cons (.asg [7] (.comp (.bi .list (.cons (.var 8) .nil)) [8] (.ls (.var 3)) .nil [8])) (.cons (.mut .set 7 .nil (.cons (.var 6) (.cons (.lst .nil) .nil))) (.cons (.ite (.not (.call 85 (.cons (.call 84 (.cons (.var 7) (.cons (.revl (.var 4)) .nil))) (.cons (.var 5) .nil)))) (.cons (.ret (.con (.bool false))) .nil) .nil) (.cons (.asg [9] (.comp (.bi .list (.cons (.var 8) .nil)) [8] (.ls (.var 3)) .nil [8])) (.cons (.mut .set 9 .nil (.cons (.var 6) (.cons (.cut (.idx (.var 9) (.var 6)) (.nul) (.bin .mod (.bin .mod (.bin .fdiv (.var 2) (.con (.int 128))) (.con (.int 41))) (.bin .add (.bi .len (.cons (.idx (.var 9) (.var 6)) .nil)) (.con (.int 1))))) .nil))) (.cons (.ite (.not (.call 85 (.cons (.call 84 (.cons (.var 9) (.cons (.lst .nil) .nil))) (.cons (.var 5) .nil)))) (.cons (.ret (.con (.bool false))) .nil) .nil) (.cons (.ite (.cmp .eq (.bi .len (.cons (.idx (.var 3) (.var 6)) .nil)) (.con (.int 40))) (.cons (.ret (.con (.bool true))) .nil) .nil) (.cons (.asg [10] (.comp (.bi .list (.cons (.var 8) .nil)) [8] (.ls (.var 3)) .nil [8])) (.cons (.mut .append 10 (.cons (.var 6) .nil) (.cons (.bin .mod (.bin .fdiv (.var 2) (.con (.int 5248))) (.bi .len (.cons (.var 3) .nil))) .nil)) (.cons (.ret (.call 85 (.cons (.var 5) (.cons (.call 84 (.cons (.var 10) (.cons (.var 4) .nil))) .nil)))) .nil))))))))))))))))⟩
end Rp.T

set_option Elab.async false
set_option linter.all false
set_option maxRecDepth 100000
set_option maxHeartbeats 4000000
/-! RpEv: the evaluator, step by step, without binders (for simp). -/
namespace Rp
open PySem

section
variable {Φ : Nat → List O → Res O} {gt : Nat → Option D} {γ : Env0} {Γ : En}
theorem callO_at {tab : Tab} {f : Nat} {fd : Fd} (h : tab f = some fd) (n : Nat) (os : List O) : callO tab gt (n + 1) f os = runFd (callO tab gt n) gt fd os := by
  simp only [callO, h]
def fin : Out → Res O
  | .rt o => .ok o | .nx _ => .ok (.sh .none) | .exc c p => .exc c p | _ => .bad
theorem fin_rt (o : O) : fin (.rt o) = .ok o := rfl
theorem runFd_eq (fd : Fd) (os : List O) (h : os.length = fd.np) : runFd Φ gt fd os = fin (execs Φ gt fd.body (startO fd.nl os)) := by
  unfold runFd
  rw [if_pos h]
  cases execs Φ gt fd.body (startO fd.nl os) <;> rfl
theorem callO_go {tab : Tab} {f : Nat} {fd : Fd} (h : tab f = some fd) (n : Nat) (os : List O) (hl : os.length = fd.np) : callO tab gt (n + 1) f os = fin (execs (callO tab gt n) gt fd.body (startO fd.nl os)) := by
  rw [callO_at h, runFd_eq _ _ hl]
theorem callF_go {tab : Tab} {f : Nat} {fd : Fd} (h : tab f = some fd) (n : Nat) (ds : List D) (hl : ds.length = fd.np) : callF tab gt (n + 1) f ds = fin (execs (callO tab gt n) gt fd.body (start fd.nl ds)) := by
  unfold callF
  rw [callO_go h _ _ (by rw [List.length_map]; exact hl), startO_sh]
/-! statements -/
theorem xs_nil : execs Φ gt .nil Γ = .nx Γ := by simp only [execs]
theorem xs_cons (s : Sm) (ss : Sms) : execs Φ gt (.cons s ss) Γ = (exec Φ gt s Γ).then (execs Φ gt ss) := by simp only [execs]
theorem then_nx (f : En → Out) : (Out.nx Γ).then f = f Γ := rfl
theorem then_rt (o : O) (f : En → Out) : (Out.rt o).then f = .rt o := rfl
theorem then_bk (f : En → Out) : (Out.bk Γ).then f = .bk Γ := rfl
def oAsg (tg : List Nat) (r : Res (O × En)) : Out := r.out fun p => (Res.of (bindO p.2 tg p.1)).out .nx
theorem x_asg (tg : List Nat) (e : Ex) : exec Φ gt (.asg tg e) Γ = oAsg tg (evO Φ gt e Γ) := by simp only [exec]; rfl
theorem oAsg_1 (i : Nat) (o : O) : oAsg [i] (.ok (o, Γ)) = .nx (setS Γ i (some o)) := rfl
theorem oAsg_t2 (i j : Nat) (o1 o2 : O) : oAsg [i, j] (.ok (.tup [o1, o2], Γ)) = .nx (setS (setS Γ i (some o1)) j (some o2)) := rfl
theorem oAsg_s2 (i j : Nat) (d1 d2 : D) : oAsg [i, j] (.ok (.sh (.tuple [d1, d2]), Γ)) = .nx (setS (setS Γ i (some (.sh d1))) j (some (.sh d2))) := rfl
def oRet (r : Res (O × En)) : Out := r.out fun p => .rt p.1
theorem x_ret (e : Ex) : exec Φ gt (.ret e) Γ = oRet (evO Φ gt e Γ) := by simp only [exec]; rfl
theorem oRet_ok (o : O) : oRet (.ok (o, Γ)) = .rt o := rfl
def oIte (r : Res O) (f g : En → Out) (Γ : En) : Out := r.out fun o => (isB (er o)).out fun q => if q then f Γ else g Γ
theorem x_ite (c : Ex) (a b : Sms) : exec Φ gt (.ite c a b) Γ = oIte (ev Φ gt (eEnv Γ) c) (execs Φ gt a) (execs Φ gt b) Γ := by simp only [exec]; rfl
theorem oIte_b (q : Bool) (f g : En → Out) : oIte (.ok (.sh (.bool q))) f g Γ = if q then f Γ else g Γ := rfl
theorem oIte_t (f g : En → Out) : oIte (.ok (.sh (.bool true))) f g Γ = f Γ := rfl
theorem oIte_f (f g : En → Out) : oIte (.ok (.sh (.bool false))) f g Γ = g Γ := rfl
theorem x_pass : exec Φ gt .pass Γ = .nx Γ := by simp only [exec]
theorem x_brk : exec Φ gt .brk Γ = .bk Γ := by simp only [exec]
def oMut (m : Mu) (x : Nat) (k : List Int) (r : Res (List O × En)) : Out := r.out fun p => (Res.of (mutAt m x k p.1 p.2)).out .nx
theorem x_mut0 {m : Mu} (hm : m ≠ .set) (x : Nat) (args : Exs) {os : List O} (h : getS Γ x = some (.lst os)) : exec Φ gt (.mut m x .nil args) Γ = oMut m x [] (evOs Φ gt args Γ) := by
  cases m <;> first | exact absurd rfl hm | (simp only [exec, h, Res.of_some, evPath, atO, locO, Option.bind_some, Option.isSome_some, if_true]; rfl)
theorem oMut_app0 {x : Nat} {os : List O} {o : O} (h : getS Γ x = some (.lst os)) (hl : os.length < sizeLine) : oMut .append x [] (.ok ([o], Γ)) = .nx (setS Γ x (some (.lst (os ++ [o])))) := by
  simp only [oMut, Res.out, mutAt, atO, putO, h, Option.bind_some, locO, mutO, hl, if_true, repO, Option.map_some, Res.of_some]
/-! kept things -/
def kO (e : Ex) (Γ : En) (r : Res O) : Res (O × En) := r.bind fun o => .ok (o, if clean o then Γ else frz (srcs e) Γ)
theorem kO_ok (e : Ex) {o : O} (hc : clean o = true) : kO e Γ (.ok o) = .ok (o, Γ) := by simp only [kO, Res.bind_ok, hc, if_true]
theorem kO_fr (e : Ex) {o : O} (hc : clean o = false) : kO e Γ (.ok o) = .ok (o, frz (srcs e) Γ) := by simp [kO, Res.bind_ok, hc]
theorem kO_int (e : Ex) (i : Int) : kO e Γ (.ok (.sh (.int i))) = .ok (.sh (.int i), Γ) := rfl
theorem kO_bool (e : Ex) (i : Bool) : kO e Γ (.ok (.sh (.bool i))) = .ok (.sh (.bool i), Γ) := rfl
theorem kO_none (e : Ex) : kO e Γ (.ok (.sh .none)) = .ok (.sh .none, Γ) := rfl
theorem kO_str (e : Ex) (x : Str) : kO e Γ (.ok (.sh (.str x))) = .ok (.sh (.str x), Γ) := rfl
theorem o_var (i : Nat) : evO Φ gt (.var i) Γ = kO (.var i) Γ (ev Φ gt (eEnv Γ) (.var i)) := evO_def _ _ rfl _
theorem o_con (d : D) : evO Φ gt (.con d) Γ = kO (.con d) Γ (ev Φ gt (eEnv Γ) (.con d)) := evO_def _ _ rfl _
theorem o_bin (op : Bop) (a b : Ex) : evO Φ gt (.bin op a b) Γ = kO (.bin op a b) Γ (ev Φ gt (eEnv Γ) (.bin op a b)) := evO_def _ _ rfl _
theorem o_neg (a : Ex) : evO Φ gt (.neg a) Γ = kO (.neg a) Γ (ev Φ gt (eEnv Γ) (.neg a)) := evO_def _ _ rfl _
theorem o_cmp (op : Cop) (a b : Ex) : evO Φ gt (.cmp op a b) Γ = kO (.cmp op a b) Γ (ev Φ gt (eEnv Γ) (.cmp op a b)) := evO_def _ _ rfl _
theorem o_chain (op op2 : Cop) (a b c : Ex) : evO Φ gt (.chain op op2 a b c) Γ = kO (.chain op op2 a b c) Γ (ev Φ gt (eEnv Γ) (.chain op op2 a b c)) := evO_def _ _ rfl _
theorem o_not (a : Ex) : evO Φ gt (.not a) Γ = kO (.not a) Γ (ev Φ gt (eEnv Γ) (.not a)) := evO_def _ _ rfl _
theorem o_and (es : Exs) : evO Φ gt (.and es) Γ = kO (.and es) Γ (ev Φ gt (eEnv Γ) (.and es)) := evO_def _ _ rfl _
theorem o_or (es : Exs) : evO Φ gt (.or es) Γ = kO (.or es) Γ (ev Φ gt (eEnv Γ) (.or es)) := evO_def _ _ rfl _
theorem o_idx (a b : Ex) : evO Φ gt (.idx a b) Γ = kO (.idx a b) Γ (ev Φ gt (eEnv Γ) (.idx a b)) := evO_def _ _ rfl _
theorem o_cut (a b c : Ex) : evO Φ gt (.cut a b c) Γ = kO (.cut a b c) Γ (ev Φ gt (eEnv Γ) (.cut a b c)) := evO_def _ _ rfl _
theorem o_call (f : Nat) (es : Exs) : evO Φ gt (.call f es) Γ = kO (.call f es) Γ (ev Φ gt (eEnv Γ) (.call f es)) := evO_def _ _ rfl _
theorem o_calld (f : Nat) (es : Exs) : evO Φ gt (.calld f es) Γ = kO (.calld f es) Γ (ev Φ gt (eEnv Γ) (.calld f es)) := evO_def _ _ rfl _
theorem o_revl (e : Ex) : evO Φ gt (.revl e) Γ = kO (.revl e) Γ (ev Φ gt (eEnv Γ) (.revl e)) := evO_def _ _ rfl _
theorem o_bi (f : Bi) (es : Exs) : evO Φ gt (.bi f es) Γ = kO (.bi f es) Γ (ev Φ gt (eEnv Γ) (.bi f es)) := evO_def _ _ rfl _
theorem o_mt (m : Mt) (a : Ex) (es : Exs) : evO Φ gt (.mt m a es) Γ = kO (.mt m a es) Γ (ev Φ gt (eEnv Γ) (.mt m a es)) := evO_def _ _ rfl _
theorem o_isi (a : Ex) (ts : List Nat) : evO Φ gt (.isi a ts) Γ = kO (.isi a ts) Γ (ev Φ gt (eEnv Γ) (.isi a ts)) := evO_def _ _ rfl _
theorem o_comp (a : Ex) (tg : List Nat) (it : Itx) (c : Exs) (own : List Nat) : evO Φ gt (.comp a tg it c own) Γ = kO (.comp a tg it c own) Γ (ev Φ gt (eEnv Γ) (.comp a tg it c own)) := evO_def _ _ rfl _
theorem o_dnew : evO Φ gt .dnew Γ = .ok (.dic [], Γ) := by rw [evO_def _ _ rfl]; simp only [ev, Res.bind_ok]; rfl
theorem o_mv_sh {i : Nat} {d : D} (h : getS Γ i = some (.sh d)) : evO Φ gt (.mv i) Γ = .ok (.sh d, Γ) := by simp only [evO, h]
theorem o_mv_lst {i : Nat} {os : List O} (h : getS Γ i = some (.lst os)) : evO Φ gt (.mv i) Γ = .ok (.lst os, setS Γ i none) := by simp only [evO, h]
theorem o_mv_tup {i : Nat} {os : List O} (h : getS Γ i = some (.tup os)) : evO Φ gt (.mv i) Γ = .ok (.tup os, setS Γ i none) := by simp only [evO, h]
theorem o_mv_dic {i : Nat} {os : List (D × D)} (h : getS Γ i = some (.dic os)) : evO Φ gt (.mv i) Γ = .ok (.dic os, setS Γ i none) := by simp only [evO, h]
theorem os_nil : evOs Φ gt .nil Γ = .ok ([], Γ) := by simp only [evOs]
/-- one after the other -/
def oSeq (Φ : Nat → List O → Res O) (gt : Nat → Option D) (r : Res (O × En)) (es : Exs) : Res (List O × En) := r.bind fun p => (evOs Φ gt es p.2).bind fun q => .ok (p.1 :: q.1, q.2)
theorem os_cons (e : Ex) (es : Exs) : evOs Φ gt (.cons e es) Γ = oSeq Φ gt (evO Φ gt e Γ) es := by simp only [evOs]; rfl
def oPre (o : O) (r : Res (List O × En)) : Res (List O × En) := r.bind fun q => .ok (o :: q.1, q.2)
theorem oSeq_ok (o : O) (es : Exs) : oSeq Φ gt (.ok (o, Γ)) es = oPre o (evOs Φ gt es Γ) := rfl
theorem oPre_ok (o : O) (os : List O) : oPre o (.ok (os, Γ)) = .ok (o :: os, Γ) := rfl
def oLst (r : Res (List O × En)) : Res (O × En) := r.bind fun p => if p.1.length ≤ sizeLine then .ok (.lst p.1, p.2) else .bad
def oTup (r : Res (List O × En)) : Res (O × En) := r.bind fun p => if p.1.length ≤ sizeLine then .ok (.tup p.1, p.2) else .bad
theorem o_lst (es : Exs) : evO Φ gt (.lst es) Γ = oLst (evOs Φ gt es Γ) := by simp only [evO]; rfl
theorem o_tup (es : Exs) : evO Φ gt (.tup es) Γ = oTup (evOs Φ gt es Γ) := by simp only [evO]; rfl
theorem oLst_ok {os : List O} (h : os.length ≤ sizeLine) : oLst (.ok (os, Γ)) = .ok (.lst os, Γ) := by simp only [oLst, Res.bind_ok, h, if_true]
theorem oTup_ok {os : List O} (h : os.length ≤ sizeLine) : oTup (.ok (os, Γ)) = .ok (.tup os, Γ) := by simp only [oTup, Res.bind_ok, h, if_true]
theorem oLst_0 : oLst (.ok ([], Γ)) = .ok (.lst [], Γ) := oLst_ok (os := []) (Nat.zero_le _)
theorem oLst_1 (a : O) : oLst (.ok ([a], Γ)) = .ok (.lst [a], Γ) := oLst_ok (os := [a]) (show 1 ≤ sizeLine by decide)
theorem oLst_2 (a b : O) : oLst (.ok ([a, b], Γ)) = .ok (.lst [a, b], Γ) := oLst_ok (os := [a, b]) (show 2 ≤ sizeLine by decide)
theorem oLst_3 (a b c : O) : oLst (.ok ([a, b, c], Γ)) = .ok (.lst [a, b, c], Γ) := oLst_ok (os := [a, b, c]) (show 3 ≤ sizeLine by decide)
theorem oTup_2 (a b : O) : oTup (.ok ([a, b], Γ)) = .ok (.tup [a, b], Γ) := oTup_ok (os := [a, b]) (show 2 ≤ sizeLine by decide)
theorem oTup_3 (a b c : O) : oTup (.ok ([a, b, c], Γ)) = .ok (.tup [a, b, c], Γ) := oTup_ok (os := [a, b, c]) (show 3 ≤ sizeLine by decide)
/-! expressions -/
def oVar (x : Option D) : Res O := (Res.of x).bind fun d => .ok (.sh d)
theorem e_var (i : Nat) : ev Φ gt γ (.var i) = oVar (getS γ i) := by simp only [ev]; rfl
theorem e_mv (i : Nat) : ev Φ gt γ (.mv i) = oVar (getS γ i) := by simp only [ev]; rfl
theorem oVar_some (d : D) : oVar (some d) = .ok (.sh d) := rfl
theorem e_con (d : D) : ev Φ gt γ (.con d) = .ok (.sh d) := by simp only [ev]
def oBin (op : Bop) (r1 r2 : Res O) : Res O := r1.bind fun x => r2.bind fun y => (Res.of (bopO op x y)).bind fun d => .ok (mkO d)
theorem e_bin (op : Bop) (a b : Ex) : ev Φ gt γ (.bin op a b) = oBin op (ev Φ gt γ a) (ev Φ gt γ b) := by simp only [ev]; rfl
theorem bin_add (i j : Int) : oBin .add (.ok (.sh (.int i))) (.ok (.sh (.int j))) = .ok (.sh (.int (i + j))) := rfl
theorem bin_sub (i j : Int) : oBin .sub (.ok (.sh (.int i))) (.ok (.sh (.int j))) = .ok (.sh (.int (i - j))) := rfl
theorem bin_xor (i j : Int) : oBin .xor (.ok (.sh (.int i))) (.ok (.sh (.int j))) = .ok (.sh (.int (Builtin.bitXor i j))) := rfl
theorem bin_mul {i j : Int} (h : mulOk i j = true) : oBin .mul (.ok (.sh (.int i))) (.ok (.sh (.int j))) = .ok (.sh (.int (i * j))) := by
  simp only [oBin, Res.bind_ok, bopO, er, bop, h, if_true, Res.of_some, mkO]
theorem bin_fdiv {i j : Int} (h : divOk i j = true) : oBin .fdiv (.ok (.sh (.int i))) (.ok (.sh (.int j))) = .ok (.sh (.int (i / j))) := by
  simp only [oBin, Res.bind_ok, bopO, er, bop, h, if_true, Res.of_some, mkO]
theorem bin_mod {i j : Int} (h : 0 < j) : oBin .mod (.ok (.sh (.int i))) (.ok (.sh (.int j))) = .ok (.sh (.int (i % j))) := by
  simp only [oBin, Res.bind_ok, bopO, er, bop, h, if_true, Res.of_some, mkO]
theorem bin_pow {i j : Int} (h : powOk i j = true) : oBin .pow (.ok (.sh (.int i))) (.ok (.sh (.int j))) = .ok (.sh (.int (i ^ j.toNat))) := by
  simp only [oBin, Res.bind_ok, bopO, er, bop, h, if_true, Res.of_some, mkO]
theorem bin_cat {x y : O} {a b : List D} (hx : er x = .list a) (hy : er y = .list b) (h : a.length + b.length ≤ sizeLine) : oBin .add (.ok x) (.ok y) = .ok (shl (a ++ b)) := by
  simp only [oBin, Res.bind_ok, bopO, hx, hy, bop, h, if_true, Res.of_some, mkO]
def oNeg (r : Res O) : Res O := r.bind fun x => match er x with | .int i => .ok (.sh (.int (-i))) | _ => .bad
theorem e_neg (a : Ex) : ev Φ gt γ (.neg a) = oNeg (ev Φ gt γ a) := by simp only [ev]; rfl
theorem oNeg_ok (i : Int) : oNeg (.ok (.sh (.int i))) = .ok (.sh (.int (-i))) := rfl
def oCmp (op : Cop) (r1 r2 : Res O) : Res O := r1.bind fun x => r2.bind fun y => (Res.of (cop op (er x) (er y))).bind fun c => .ok (.sh (.bool c))
theorem e_cmp (op : Cop) (a b : Ex) : ev Φ gt γ (.cmp op a b) = oCmp op (ev Φ gt γ a) (ev Φ gt γ b) := by simp only [ev]; rfl
theorem cmp_ok {op : Cop} {x y : O} {c : Bool} (h : cop op (er x) (er y) = some c) : oCmp op (.ok x) (.ok y) = .ok (.sh (.bool c)) := by simp only [oCmp, Res.bind_ok, h, Res.of_some]
theorem cmp_lt (i j : Int) : oCmp .lt (.ok (.sh (.int i))) (.ok (.sh (.int j))) = .ok (.sh (.bool (decide (i < j)))) := rfl
theorem cmp_le (i j : Int) : oCmp .le (.ok (.sh (.int i))) (.ok (.sh (.int j))) = .ok (.sh (.bool (decide (i ≤ j)))) := rfl
theorem cmp_gt (i j : Int) : oCmp .gt (.ok (.sh (.int i))) (.ok (.sh (.int j))) = .ok (.sh (.bool (decide (j < i)))) := rfl
theorem cmp_ge (i j : Int) : oCmp .ge (.ok (.sh (.int i))) (.ok (.sh (.int j))) = .ok (.sh (.bool (decide (j ≤ i)))) := rfl
theorem sh_int (i : Int) : shaped (.int i) = true := by simp [shaped, SeqAt.shaped, PyData.canLay0, PyData.depth]
theorem sh_none : shaped .none = true := by simp [shaped, SeqAt.shaped, PyData.canLay0, PyData.depth]
theorem sh_bool (b : Bool) : shaped (.bool b) = true := by simp [shaped, SeqAt.shaped, PyData.canLay0, PyData.depth]
theorem cmp_eqI (i j : Int) : oCmp .eq (.ok (.sh (.int i))) (.ok (.sh (.int j))) = .ok (.sh (.bool (decide (i = j)))) := by
  refine cmp_ok ?_
  simp only [er, cop, sh_int, Bool.and_self, if_true, PyData.eqv]
  by_cases h : i = j <;> simp [h]
theorem cmp_neI (i j : Int) : oCmp .ne (.ok (.sh (.int i))) (.ok (.sh (.int j))) = .ok (.sh (.bool (!decide (i = j)))) := by
  refine cmp_ok ?_
  simp only [er, cop, sh_int, Bool.and_self, if_true, PyData.eqv]
  by_cases h : i = j <;> simp [h]
theorem cmp_isN_int (i : Int) : oCmp .isN (.ok (.sh (.int i))) (.ok (.sh .none)) = .ok (.sh (.bool false)) := rfl
theorem cmp_isN_none : oCmp .isN (.ok (.sh .none)) (.ok (.sh .none)) = .ok (.sh (.bool true)) := rfl
theorem cmp_notN_int (i : Int) : oCmp .notN (.ok (.sh (.int i))) (.ok (.sh .none)) = .ok (.sh (.bool true)) := rfl
theorem cmp_notN_none : oCmp .notN (.ok (.sh .none)) (.ok (.sh .none)) = .ok (.sh (.bool false)) := rfl
def oChain (o1 o2 : Cop) (r1 r2 r3 : Res O) : Res O := r1.bind fun x => r2.bind fun y => (Res.of (cop o1 (er x) (er y))).bind fun q => if q then r3.bind fun z => (Res.of (cop o2 (er y) (er z))).bind fun q2 => .ok (.sh (.bool q2)) else .ok (.sh (.bool false))
theorem e_chain (o1 o2 : Cop) (a b c : Ex) : ev Φ gt γ (.chain o1 o2 a b c) = oChain o1 o2 (ev Φ gt γ a) (ev Φ gt γ b) (ev Φ gt γ c) := by simp only [ev]; rfl
theorem chain_lelt (i j k : Int) : oChain .le .lt (.ok (.sh (.int i))) (.ok (.sh (.int j))) (.ok (.sh (.int k))) = .ok (.sh (.bool (decide (i ≤ j) && decide (j < k)))) := by
  by_cases h : i ≤ j <;> simp [oChain, Res.bind, cop, er, Res.of, h]
def oNot (r : Res O) : Res O := r.bind fun x => (isB (er x)).bind fun b => .ok (.sh (.bool (!b)))
theorem e_not (a : Ex) : ev Φ gt γ (.not a) = oNot (ev Φ gt γ a) := by simp only [ev]; rfl
theorem oNot_ok (b : Bool) : oNot (.ok (.sh (.bool b))) = .ok (.sh (.bool (!b))) := rfl
def oB (r : Res Bool) : Res O := r.bind fun b => .ok (.sh (.bool b))
theorem oB_ok (b : Bool) : oB (.ok b) = .ok (.sh (.bool b)) := rfl
theorem e_and (es : Exs) : ev Φ gt γ (.and es) = oB (evAnd Φ gt γ es) := by simp only [ev]; rfl
theorem e_or (es : Exs) : ev Φ gt γ (.or es) = oB (evOr Φ gt γ es) := by simp only [ev]; rfl
def oAnd (r : Res O) (s : Res Bool) : Res Bool := r.bind fun o => (isB (er o)).bind fun b => if b then s else .ok false
def oOr (r : Res O) (s : Res Bool) : Res Bool := r.bind fun o => (isB (er o)).bind fun b => if b then .ok true else s
theorem a_nil : evAnd Φ gt γ .nil = .ok true := by simp only [evAnd]
theorem a_cons (e : Ex) (es : Exs) : evAnd Φ gt γ (.cons e es) = oAnd (ev Φ gt γ e) (evAnd Φ gt γ es) := by simp only [evAnd]; rfl
theorem r_nil : evOr Φ gt γ .nil = .ok false := by simp only [evOr]
theorem r_cons (e : Ex) (es : Exs) : evOr Φ gt γ (.cons e es) = oOr (ev Φ gt γ e) (evOr Φ gt γ es) := by simp only [evOr]; rfl
theorem oAnd_f (s : Res Bool) : oAnd (.ok (.sh (.bool false))) s = .ok false := rfl
theorem oAnd_t (s : Res Bool) : oAnd (.ok (.sh (.bool true))) s = s := rfl
theorem oAnd_ok (b c : Bool) : oAnd (.ok (.sh (.bool b))) (.ok c) = .ok (b && c) := by cases b <;> rfl
theorem oOr_f (s : Res Bool) : oOr (.ok (.sh (.bool false))) s = s := rfl
theorem oOr_t (s : Res Bool) : oOr (.ok (.sh (.bool true))) s = .ok true := rfl
theorem oOr_ok (b c : Bool) : oOr (.ok (.sh (.bool b))) (.ok c) = .ok (b || c) := by cases b <;> rfl
def oIdx (r1 r2 : Res O) : Res O := r1.bind fun x => r2.bind fun k => (Res.of (dix (er x) (er k))).bind fun d => .ok (.sh d)
theorem e_idx (a b : Ex) : ev Φ gt γ (.idx a b) = oIdx (ev Φ gt γ a) (ev Φ gt γ b) := by simp only [ev]; rfl
theorem idx_ok {x k : O} {d : D} (h : dix (er x) (er k) = some d) : oIdx (.ok x) (.ok k) = .ok (.sh d) := by simp only [oIdx, Res.bind_ok, h, Res.of_some]
def oCut (r : Res O) (l h : Res (Option Int)) : Res O := r.bind fun x => l.bind fun l => h.bind fun h => match er x with | .list ds => .ok (shl (cutD ds l h)) | _ => .bad
theorem e_cut (a b c : Ex) : ev Φ gt γ (.cut a b c) = oCut (ev Φ gt γ a) (partOf (isNul b) (ev Φ gt γ b)) (partOf (isNul c) (ev Φ gt γ c)) := by simp only [ev]; rfl
theorem part_t (r : Res O) : partOf true r = .ok none := rfl
theorem part_f (i : Int) : partOf false (.ok (.sh (.int i))) = .ok (some i) := rfl
theorem oCut_ok {x : O} {ds : List D} (h : er x = .list ds) (l k : Option Int) : oCut (.ok x) (.ok l) (.ok k) = .ok (shl (cutD ds l k)) := by simp only [oCut, Res.bind_ok, h]
def oCons (r : Res O) (s : Res (List O)) : Res (List O) := r.bind fun o => s.bind fun os => .ok (o :: os)
theorem s_nil : evs Φ gt γ .nil = .ok [] := by simp only [evs]
theorem s_cons (e : Ex) (es : Exs) : evs Φ gt γ (.cons e es) = oCons (ev Φ gt γ e) (evs Φ gt γ es) := by simp only [evs]; rfl
theorem oCons_ok (o : O) (os : List O) : oCons (.ok o) (.ok os) = .ok (o :: os) := rfl
def oL (r : Res (List O)) : Res O := r.bind fun os => if os.length ≤ sizeLine then .ok (.lst os) else .bad
def oT (r : Res (List O)) : Res O := r.bind fun os => if os.length ≤ sizeLine then .ok (.tup os) else .bad
theorem e_lst (es : Exs) : ev Φ gt γ (.lst es) = oL (evs Φ gt γ es) := by simp only [ev]; rfl
theorem e_tup (es : Exs) : ev Φ gt γ (.tup es) = oT (evs Φ gt γ es) := by simp only [ev]; rfl
theorem oL_ok {os : List O} (h : os.length ≤ sizeLine) : oL (.ok os) = .ok (.lst os) := by simp only [oL, Res.bind_ok, h, if_true]
theorem oT_ok {os : List O} (h : os.length ≤ sizeLine) : oT (.ok os) = .ok (.tup os) := by simp only [oT, Res.bind_ok, h, if_true]
theorem oL_0 : oL (.ok []) = .ok (.lst []) := oL_ok (os := []) (Nat.zero_le _)
theorem oL_1 (a : O) : oL (.ok [a]) = .ok (.lst [a]) := oL_ok (os := [a]) (show 1 ≤ sizeLine by decide)
theorem oL_2 (a b : O) : oL (.ok [a, b]) = .ok (.lst [a, b]) := oL_ok (os := [a, b]) (show 2 ≤ sizeLine by decide)
theorem oL_3 (a b c : O) : oL (.ok [a, b, c]) = .ok (.lst [a, b, c]) := oL_ok (os := [a, b, c]) (show 3 ≤ sizeLine by decide)
theorem oL_4 (a b c d : O) : oL (.ok [a, b, c, d]) = .ok (.lst [a, b, c, d]) := oL_ok (os := [a, b, c, d]) (show 4 ≤ sizeLine by decide)
theorem oT_2 (a b : O) : oT (.ok [a, b]) = .ok (.tup [a, b]) := oT_ok (os := [a, b]) (show 2 ≤ sizeLine by decide)
theorem oT_3 (a b c : O) : oT (.ok [a, b, c]) = .ok (.tup [a, b, c]) := oT_ok (os := [a, b, c]) (show 3 ≤ sizeLine by decide)
def oCall (Φ : Nat → List O → Res O) (f : Nat) (r : Res (List O)) : Res O := r.bind fun os => Φ f ((ers os).map .sh)
theorem e_call (f : Nat) (es : Exs) : ev Φ gt γ (.call f es) = oCall Φ f (evs Φ gt γ es) := by simp only [ev]; rfl
theorem oCall_ok {tab : Tab} {n : Nat} (f : Nat) (os : List O) : oCall (callO tab gt n) f (.ok os) = callF tab gt n f (ers os) := rfl
def oCalld (Φ : Nat → List O → Res O) (f : Nat) (r : Res (List O)) : Res O := r.bind fun os => Φ f ((ers os ++ [PyData.none]).map .sh)
theorem e_calld (f : Nat) (es : Exs) : ev Φ gt γ (.calld f es) = oCalld Φ f (evs Φ gt γ es) := by simp only [ev]; rfl
theorem oCalld_ok {tab : Tab} {n : Nat} (f : Nat) (os : List O) : oCalld (callO tab gt n) f (.ok os) = callF tab gt n f (ers os ++ [PyData.none]) := rfl
def oBi (f : Bi) (r : Res (List O)) : Res O := r.bind fun os => Res.of (bfn f (ers os))
theorem e_bi (f : Bi) (es : Exs) : ev Φ gt γ (.bi f es) = oBi f (evs Φ gt γ es) := by simp only [ev]; rfl
theorem bf_ok {f : Bi} {os : List O} {o : O} (h : bfn f (ers os) = some o) : oBi f (.ok os) = .ok o := by simp only [oBi, Res.bind_ok, h, Res.of_some]
theorem bf_len {x : O} {ds : List D} (h : er x = .list ds) : oBi .len (.ok [x]) = .ok (.sh (.int ds.length)) := bf_ok (by simp only [ers, h]; rfl)
theorem bf_list {x : O} {ds : List D} (h : er x = .list ds) : oBi .list (.ok [x]) = .ok (shl ds) := bf_ok (by simp only [ers, h]; rfl)
theorem bf_tuple {x : O} {ds : List D} (h : er x = .list ds) : oBi .tuple (.ok [x]) = .ok (.sh (.tuple ds)) := bf_ok (by simp only [ers, h]; rfl)
def oMt (m : Mt) (r : Res O) (s : Res (List O)) : Res O := r.bind fun x => if mtOk m (er x) then s.bind fun os => Res.of (mtf m (er x) (ers os)) else .bad
theorem e_mt (m : Mt) (a : Ex) (es : Exs) : ev Φ gt γ (.mt m a es) = oMt m (ev Φ gt γ a) (evs Φ gt γ es) := by simp only [ev]; rfl
def oIsi (ts : List Nat) (r : Res O) : Res O := r.bind fun x => .ok (.sh (.bool (ts.any fun t => isTy (er x) t)))
theorem e_isi (a : Ex) (ts : List Nat) : ev Φ gt γ (.isi a ts) = oIsi ts (ev Φ gt γ a) := by simp only [ev]; rfl
theorem oIsi_1 (x : O) (t : Nat) : oIsi [t] (.ok x) = .ok (.sh (.bool (isTy (er x) t))) := by simp [oIsi, Res.bind]
def oLs (r : Res O) : Res O := r.bind fun x => (Res.of (lsetD (er x))).bind fun n => .ok (.sh (.int n))
theorem e_lset (a : Ex) : ev Φ gt γ (.lset a) = oLs (ev Φ gt γ a) := by simp only [ev]; rfl
def oRevl (r : Res O) : Res O := r.bind fun x => (Res.of (revD (er x))).bind fun ds => .ok (shl ds)
theorem e_revl (a : Ex) : ev Φ gt γ (.revl a) = oRevl (ev Φ gt γ a) := by simp only [ev]; rfl
theorem oRevl_ok {x : O} {ds : List D} (h : er x = .list ds) : oRevl (.ok x) = .ok (shl ds.reverse) := by simp only [oRevl, Res.bind_ok, h, revD, Res.of_some]
/-! what is walked -/
def oLsI (r : Res O) : Res (List D × Bool) := r.bind fun o => (Res.of (lsD (er o))).bind fun ds => .ok (ds, isFresh o && flats ds)
theorem i_ls (e : Ex) : evI Φ gt γ (.ls e) = oLsI (ev Φ gt γ e) := by simp only [evI]; rfl
theorem oB_bind (b : Bool) : ((oB (.ok b)).bind fun o => isB (er o)) = .ok b := rfl
theorem okB_bind (b : Bool) : ((Res.ok (O.sh (PyData.bool b))).bind fun o => isB (er o)) = .ok b := rfl
theorem oLsI_ok {o : O} {ds : List D} (h : er o = .list ds) : oLsI (.ok o) = .ok (ds, isFresh o && flats ds) := by simp only [oLsI, Res.bind_ok, h, lsD, Res.of_some]
def oRng (r : Res (List O)) : Res (List D × Bool) := r.bind fun os => (Res.of (rngD (ers os))).bind fun ds => .ok (ds, true)
theorem i_rng (es : Exs) : evI Φ gt γ (.rng es) = oRng (evs Φ gt γ es) := by simp only [evI]; rfl
theorem rng1 {j : Int} (h : j < 2 ^ 62) (h0 : 0 ≤ j) : oRng (.ok [.sh (.int j)]) = .ok ((List.range j.toNat).map fun (k : Nat) => .int k, true) := by
  have : decide (-(2 ^ 62) ≤ j ∧ j < 2 ^ 62) = true := by simp only [decide_eq_true_eq]; omega
  simp only [oRng, Res.bind_ok, ers, er, rngD, this, if_true, Res.of_some]
/-! loops -/
noncomputable def stepF (Φ : Nat → List O → Res O) (gt : Nat → Option D) (tg : List Nat) (b : Sms) (d : D) (Γ : En) : Out := (Res.of (bindO Γ tg (.sh d))).out fun Γ'' => execs Φ gt b Γ''
noncomputable def oFor (tg : List Nat) (it : Itx) (b : Sms) (Φ : Nat → List O → Res O) (gt : Nat → Option D) (Γ : En) (r : Res (List D × Bool)) : Out := r.out fun p => forL (stepF Φ gt tg b) p.1 (if p.2 then Γ else frz (srcsI it) Γ)
theorem x_for (tg : List Nat) (it : Itx) (b : Sms) : exec Φ gt (.for tg it b) Γ = oFor tg it b Φ gt Γ (evI Φ gt (eEnv Γ) it) := by simp only [exec]; rfl
theorem oFor_t (tg : List Nat) (it : Itx) (b : Sms) (ds : List D) : oFor tg it b Φ gt Γ (.ok (ds, true)) = forL (stepF Φ gt tg b) ds Γ := rfl
theorem oFor_f (tg : List Nat) (it : Itx) (b : Sms) (ds : List D) : oFor tg it b Φ gt Γ (.ok (ds, false)) = forL (stepF Φ gt tg b) ds (frz (srcsI it) Γ) := rfl
theorem step_1 (i : Nat) (b : Sms) (d : D) : stepF Φ gt [i] b d Γ = execs Φ gt b (setS Γ i (some (.sh d))) := rfl
theorem step_2 (i j : Nat) (b : Sms) (d e : D) : stepF Φ gt [i, j] b (.tuple [d, e]) Γ = execs Φ gt b (setS (setS Γ i (some (.sh d))) j (some (.sh e))) := rfl
/-- a loop as a fold -/
theorem forL_fold {α β : Type} {f : D → En → Out} (env : α → En) (enc : β → D) (step : α → β → α) (P : α → Prop) : ∀ (bs : List β) (s : α), P s → (∀ s b, b ∈ bs → P s → f (enc b) (env s) = .nx (env (step s b)) ∧ P (step s b)) → forL f (bs.map enc) (env s) = .nx (env (bs.foldl step s)) ∧ P (bs.foldl step s)
  | [], s, hs, _ => ⟨rfl, hs⟩
  | b :: bs, s, hs, h => by
    obtain ⟨h1, h2⟩ := h s b (by simp) hs
    simp only [List.map_cons, forL, h1, List.foldl_cons]
    exact forL_fold env enc step P bs _ h2 fun s b hb hp => h s b (by simp [hb]) hp
/-- .. with the place of the turn -/
theorem forL_foldI {α β : Type} {f : D → En → Out} (env : α → En) (enc : β → D) (step : α → β → α) (P : Nat → α → Prop) : ∀ (bs : List β) (i : Nat) (s : α), P i s → (∀ j s b, bs[j]? = some b → P (i + j) s → f (enc b) (env s) = .nx (env (step s b)) ∧ P (i + j + 1) (step s b)) → forL f (bs.map enc) (env s) = .nx (env (bs.foldl step s)) ∧ P (i + bs.length) (bs.foldl step s)
  | [], i, s, hs, _ => ⟨rfl, hs⟩
  | b :: bs, i, s, hs, h => by
    obtain ⟨h1, h2⟩ := h 0 s b rfl hs
    simp only [List.map_cons, forL, h1, List.foldl_cons, List.length_cons]
    have := forL_foldI env enc step P bs (i + 1) _ h2 fun j s b hb hp => by
      have := h (j + 1) s b (by simpa using hb) (by rw [show i + (j + 1) = i + 1 + j by omega]; exact hp)
      rw [show i + (j + 1) + 1 = i + 1 + j + 1 by omega] at this
      exact this
    rw [show i + (bs.length + 1) = i + 1 + bs.length by omega]
    exact this
/-- a loop: what holds after each turn, where the states are told by a relation -/
theorem forL_rel {β : Type} {f : D → En → Out} (enc : β → D) (R : Nat → En → Prop) : ∀ (bs : List β) (i : Nat) (Γ : En), R i Γ → (∀ j Γ b, bs[j]? = some b → R (i + j) Γ → ∃ Γ', f (enc b) Γ = .nx Γ' ∧ R (i + j + 1) Γ') → ∃ Γ', forL f (bs.map enc) Γ = .nx Γ' ∧ R (i + bs.length) Γ'
  | [], i, Γ, hs, _ => ⟨Γ, rfl, hs⟩
  | b :: bs, i, Γ, hs, h => by
    obtain ⟨Γ1, h1, h2⟩ := h 0 Γ b rfl hs
    simp only [List.map_cons, forL, h1, List.length_cons]
    obtain ⟨Γ2, e, q⟩ := forL_rel enc R bs (i + 1) Γ1 h2 fun j Γ b hb hp => by
      obtain ⟨Γ', e, q⟩ := h (j + 1) Γ b (by simpa using hb) (by rw [show i + (j + 1) = i + 1 + j by omega]; exact hp)
      exact ⟨Γ', e, by rw [show i + 1 + j + 1 = i + (j + 1) + 1 by omega]; exact q⟩
    exact ⟨Γ2, e, by rw [show i + (bs.length + 1) = i + 1 + bs.length by omega]; exact q⟩
/-- a while loop, by a relation and a measure -/
theorem whl_rel {c : En → Res Bool} {f : En → Out} (R : Nat → En → Prop) (E : En → Prop) (h : ∀ m Γ, R m Γ → (c Γ = .ok false ∧ E Γ) ∨ (c Γ = .ok true ∧ ∃ Γ' m', f Γ = .nx Γ' ∧ m' < m ∧ R m' Γ')) : ∀ (n m : Nat) (Γ : En), R m Γ → m < n → ∃ Γ', whlN c f n Γ = .nx Γ' ∧ E Γ'
  | 0, m, Γ, _, hm => absurd hm (Nat.not_lt_zero _)
  | n + 1, m, Γ, hr, hm => by
    rcases h m Γ hr with ⟨h1, h2⟩ | ⟨h1, Γ', m', h2, h3, h4⟩
    · exact ⟨Γ, by simp only [whlN, h1, Res.out, Bool.false_eq_true, if_false], h2⟩
    · obtain ⟨Γ2, e, q⟩ := whl_rel R E h n m' Γ' h4 (by omega)
      exact ⟨Γ2, by simp only [whlN, h1, Res.out, if_true, h2]; exact e, q⟩
theorem x_whl (c : Ex) (b : Sms) : exec Φ gt (.whl c b) Γ = whlN (fun Γ => (ev Φ gt (eEnv Γ) c).bind fun o => isB (er o)) (execs Φ gt b) fuelW Γ := by simp only [exec]
def condF (Φ : Nat → List O → Res O) (gt : Nat → Option D) (c : Ex) (Γ : En) : Res Bool := (ev Φ gt (eEnv Γ) c).bind fun o => isB (er o)
noncomputable def bodyF (Φ : Nat → List O → Res O) (gt : Nat → Option D) (b : Sms) (Γ : En) : Out := execs Φ gt b Γ
theorem x_whlS (c : Ex) (b : Sms) : exec Φ gt (.whl c b) Γ = whlN (condF Φ gt c) (bodyF Φ gt b) fuelW Γ := by rw [x_whl]; rfl
theorem x_set0 {x : Nat} {os : List O} {i e : Ex} {o : O} {Γ1 : En} {k : Int} {j : Nat} (he : evO Φ gt e Γ = .ok (o, Γ1)) (hi : ev Φ gt (eEnv Γ1) i = .ok (.sh (.int k))) (hg : getS Γ1 x = some (.lst os)) (hj : pix os.length k = some j) : exec Φ gt (.mut .set x .nil (.cons i (.cons e .nil))) Γ = .nx (setS Γ1 x (some (.lst (os.set j o)))) := by
  simp only [exec, he, Res.out, hg, Res.of_some, evPath, atO, locO, Option.bind_some, Option.isSome_some, if_true, hi, er, mutAt, mutO, hj, Option.map_some, putO, repO]
/-! comprehensions -/
def cT (Φ : Nat → List O → Res O) (gt : Nat → Option D) (γ : Env0) (tg : List Nat) (cond : Exs) (elt : Ex) (own : List Nat) (d : D) : Res (Option O) :=
  (Res.of (bindD (wipeS γ own) tg d)).bind fun γ' => (evAnd Φ gt γ' cond).bind fun b => if b then (ev Φ gt γ' elt).bind fun o => .ok (some o) else .ok none
def oComp (f : D → Res (Option O)) (r : Res (List D × Bool)) : Res O := r.bind fun p => (compL f p.1).bind fun os => if os.length < sizeLine then .ok (.lst os) else .bad
theorem e_comp (elt : Ex) (tg : List Nat) (it : Itx) (cond : Exs) (own : List Nat) : ev Φ gt γ (.comp elt tg it cond own) = oComp (cT Φ gt γ tg cond elt own) (evI Φ gt γ it) := by simp only [ev]; rfl
theorem compL_filter {α β γ : Type} {f : α → Res (Option β)} (enc : γ → α) (p : γ → Bool) (g : γ → β) : ∀ (bs : List γ), (∀ b ∈ bs, f (enc b) = .ok (if p b then some (g b) else none)) → compL f (bs.map enc) = .ok ((bs.filter p).map g)
  | [], _ => rfl
  | b :: bs, h => by
    have h1 := h b (by simp)
    have ih := compL_filter enc p g bs fun b hb => h b (by simp [hb])
    simp only [List.map_cons, compL, h1]
    cases hp : p b with
    | true => simp only [if_true, ih, Res.bind_ok, List.filter_cons, hp, List.map_cons]
    | false => simp only [Bool.false_eq_true, if_false, ih, List.filter_cons, hp]
theorem compL_map {α β γ : Type} {f : α → Res (Option β)} (enc : γ → α) (g : γ → β) (bs : List γ) (h : ∀ b ∈ bs, f (enc b) = .ok (some (g b))) : compL f (bs.map enc) = .ok (bs.map g) := by
  have := compL_filter (f := f) enc (fun _ => true) g bs fun b hb => by rw [h b hb]; rfl
  rwa [show bs.filter (fun _ => true) = bs from List.filter_eq_self.mpr (by simp)] at this
theorem oComp_ok {f : D → Res (Option O)} {ds : List D} {os : List O} {fr : Bool} (h : compL f ds = .ok os) (hl : os.length < sizeLine) : oComp f (.ok (ds, fr)) = .ok (.lst os) := by simp only [oComp, Res.bind_ok, h, hl, if_true]
theorem cT_1 (i : Nat) (elt : Ex) (own : List Nat) (d : D) : cT Φ gt γ [i] .nil elt own d = (ev Φ gt (setS (wipeS γ own) i (some d)) elt).bind fun o => .ok (some o) := by
  simp only [cT, bindD, Res.of_some, Res.bind_ok, evAnd, if_true]
theorem cT_1c (i : Nat) (c elt : Ex) (own : List Nat) (d : D) {b : Bool} (h : ev Φ gt (setS (wipeS γ own) i (some d)) c = .ok (.sh (.bool b))) : cT Φ gt γ [i] (.cons c .nil) elt own d = if b then (ev Φ gt (setS (wipeS γ own) i (some d)) elt).bind fun o => .ok (some o) else .ok none := by
  cases b <;> simp [cT, bindD, Res.of_some, Res.bind_ok, evAnd, h, isB, er]
theorem cT_2 (i j : Nat) (elt : Ex) (own : List Nat) (d e : D) : cT Φ gt γ [i, j] .nil elt own (.tuple [d, e]) = (ev Φ gt (setS (setS (wipeS γ own) i (some d)) j (some e)) elt).bind fun o => .ok (some o) := by
  simp [cT, bindD, Res.of_some, Res.bind_ok, evAnd]
/-- a while loop, by a measure -/
theorem whl_fold {α : Type} {c : En → Res Bool} {f : En → Out} (env : α → En) (go : α → Option α) (m : α → Nat) (P : α → Prop) (hgo : ∀ s, P s → match go s with | some s' => c (env s) = .ok true ∧ f (env s) = .nx (env s') ∧ P s' ∧ m s' < m s | none => c (env s) = .ok false) :
    ∀ (n : Nat) (s : α), P s → m s < n → ∃ s', whlN c f n (env s) = .nx (env s') ∧ P s' ∧ go s' = none ∧ True
  | 0, s, _, h => absurd h (Nat.not_lt_zero _)
  | n + 1, s, hp, hn => by
    have h := hgo s hp
    cases hg : go s with
    | none =>
      rw [hg] at h
      refine ⟨s, ?_, hp, hg, trivial⟩
      simp only [whlN, h, Res.out, Bool.false_eq_true, if_false]
    | some s1 =>
      rw [hg] at h
      obtain ⟨h1, h2, h3, h4⟩ := h
      obtain ⟨s2, e, q⟩ := whl_fold env go m P hgo n s1 h3 (by omega)
      refine ⟨s2, ?_, q⟩
      simp only [whlN, h1, Res.out, if_true, h2]
      exact e
end
/-! moves and stores, by what stands in the slot (for simp) -/
section
variable {Φ : Nat → List O → Res O} {gt : Nat → Option D} {γ : Env0} {Γ : En}
def oMv (i : Nat) (r : Option O) (Γ : En) : Res (O × En) := match r with
  | some (.sh d) => .ok (.sh d, Γ)
  | some o => .ok (o, setS Γ i none)
  | none => .bad
def oSm (i : Nat) (r : Option O) (Γ : En) : Res (O × En) := match r with
  | some (.lst os) => if sortOk (ers os) then .ok (.lst (sortO os), setS Γ i none) else .bad
  | _ => .bad
theorem o_sortm (i : Nat) : evO Φ gt (.sortm i) Γ = oSm i (getS Γ i) Γ := by simp only [evO]; rfl
theorem oSm_lst (i : Nat) {os : List O} (h : sortOk (ers os) = true) : oSm i (some (.lst os)) Γ = .ok (.lst (sortO os), setS Γ i none) := by simp only [oSm, h, if_true]
theorem o_mvG (i : Nat) : evO Φ gt (.mv i) Γ = oMv i (getS Γ i) Γ := by
  simp only [evO]
  cases getS Γ i with
  | none => rfl
  | some o => cases o <;> rfl
theorem oMv_sh (i : Nat) (d : D) : oMv i (some (.sh d)) Γ = .ok (.sh d, Γ) := rfl
theorem oMv_lst (i : Nat) (os : List O) : oMv i (some (.lst os)) Γ = .ok (.lst os, setS Γ i none) := rfl
theorem oMv_tup (i : Nat) (os : List O) : oMv i (some (.tup os)) Γ = .ok (.tup os, setS Γ i none) := rfl
theorem oMv_dic (i : Nat) (os : List (D × D)) : oMv i (some (.dic os)) Γ = .ok (.dic os, setS Γ i none) := rfl
def oMu (m : Mu) (x : Nat) (r : Option O) (s : Res (List O × En)) : Out := match r with
  | some (.lst _) => oMut m x [] s
  | _ => .bad
theorem x_muG {m : Mu} (hm : m ≠ .set) (x : Nat) (args : Exs) : exec Φ gt (.mut m x .nil args) Γ = oMu m x (getS Γ x) (evOs Φ gt args Γ) := by
  cases e : getS Γ x with
  | none => cases m <;> first | exact absurd rfl hm | (simp only [exec, e]; rfl)
  | some o =>
    cases o with
    | lst os => rw [x_mut0 hm x args e]; rfl
    | sh d => cases m <;> first | exact absurd rfl hm | (simp only [exec, e, Res.of_some, evPath, atO, locO, Option.bind_some]; rfl)
    | tup d => cases m <;> first | exact absurd rfl hm | (simp only [exec, e, Res.of_some, evPath, atO, locO, Option.bind_some]; rfl)
    | dic d => cases m <;> first | exact absurd rfl hm | (simp only [exec, e, Res.of_some, evPath, atO, locO, Option.bind_some]; rfl)
theorem x_app (x : Nat) (args : Exs) : exec Φ gt (.mut .append x .nil args) Γ = oMu .append x (getS Γ x) (evOs Φ gt args Γ) := x_muG (by decide) x args
theorem x_rev (x : Nat) (args : Exs) : exec Φ gt (.mut .reverse x .nil args) Γ = oMu .reverse x (getS Γ x) (evOs Φ gt args Γ) := x_muG (by decide) x args
theorem oMu_lst (m : Mu) (x : Nat) (os : List O) (s : Res (List O × En)) : oMu m x (some (.lst os)) s = oMut m x [] s := rfl
def oAp (x : Nat) (o : O) (r : Option O) (Γ : En) : Out := match r with
  | some (.lst os) => if os.length < sizeLine then .nx (setS Γ x (some (.lst (os ++ [o])))) else .bad
  | _ => .bad
theorem oMut_app (x : Nat) (o : O) : oMut .append x [] (.ok ([o], Γ)) = oAp x o (getS Γ x) Γ := by
  cases e : getS Γ x with
  | none => simp only [oMut, Res.out, mutAt, atO, e, Option.bind_none, oAp]; rfl
  | some p =>
    cases p with
    | lst os =>
      by_cases hl : os.length < sizeLine
      · rw [oMut_app0 e hl]; simp only [oAp, hl, if_true]
      · simp only [oMut, Res.out, mutAt, atO, putO, e, Option.bind_some, locO, mutO, oAp, hl, if_false, Option.bind_none]; rfl
    | sh d => simp only [oMut, Res.out, mutAt, atO, e, Option.bind_some, locO, oAp]; rfl
    | tup d => simp only [oMut, Res.out, mutAt, atO, e, Option.bind_some, locO, oAp]; rfl
    | dic d => simp only [oMut, Res.out, mutAt, atO, e, Option.bind_some, locO, oAp]; rfl
theorem oAp_lst {x : Nat} {o : O} {os : List O} (h : os.length < sizeLine) : oAp x o (some (.lst os)) Γ = .nx (setS Γ x (some (.lst (os ++ [o])))) := by simp only [oAp, h, if_true]
theorem oMut_rev (x : Nat) {os : List O} (h : getS Γ x = some (.lst os)) : oMut .reverse x [] (.ok ([], Γ)) = .nx (setS Γ x (some (.lst os.reverse))) := by
  simp only [oMut, Res.out, mutAt, atO, putO, h, Option.bind_some, locO, mutO, repO, Option.map_some, Res.of_some]
def oSet2 (x : Nat) (o : O) (k : Res O) (r : Option O) (Γ : En) : Out := match r with
  | some (.lst os) => k.out fun z => match er z with
    | .int i => (match pix os.length i with
      | some j => .nx (setS Γ x (some (.lst (os.set j o))))
      | none => .bad)
    | _ => .bad
  | _ => .bad
def oSet (x : Nat) (Φ : Nat → List O → Res O) (gt : Nat → Option D) (i : Ex) (r : Res (O × En)) : Out := r.out fun p => oSet2 x p.1 (ev Φ gt (eEnv p.2) i) (getS p.2 x) p.2
theorem x_setG (x : Nat) (i e : Ex) : exec Φ gt (.mut .set x .nil (.cons i (.cons e .nil))) Γ = oSet x Φ gt i (evO Φ gt e Γ) := by
  simp only [exec, oSet]
  cases evO Φ gt e Γ with
  | bad => rfl
  | exc c p => rfl
  | ok p =>
    simp only [Res.out]
    cases eg : getS p.2 x with
    | none => rfl
    | some o =>
      cases o with
      | lst os =>
        simp only [Res.of_some, evPath, atO, eg, locO, Option.bind_some, Option.isSome_some, if_true, oSet2, Res.out]
        cases ev Φ gt (eEnv p.2) i with
        | bad => rfl
        | exc c p => rfl
        | ok z =>
          simp only
          cases er z <;> simp only [mutAt, atO, eg, Option.bind_some, locO, mutO] <;> first | rfl | skip
          rename_i i
          cases pix os.length i <;> simp only [Option.map_none, Option.map_some, Option.bind_none, Option.bind_some, putO, eg, repO] <;> rfl
      | sh d => simp only [Res.of_some, evPath, atO, eg, locO, Option.bind_some, oSet2]; rfl
      | tup d => simp only [Res.of_some, evPath, atO, eg, locO, Option.bind_some, oSet2]; rfl
      | dic d => simp only [Res.of_some, evPath, atO, eg, locO, Option.bind_some, oSet2]; rfl
theorem oSet_ok (x : Nat) (i : Ex) (o : O) : oSet x Φ gt i (.ok (o, Γ)) = oSet2 x o (ev Φ gt (eEnv Γ) i) (getS Γ x) Γ := rfl
theorem oSet2_ok {x : Nat} {o : O} {os : List O} {k : Int} {j : Nat} (h : pix os.length k = some j) : oSet2 x o (.ok (.sh (.int k))) (some (.lst os)) Γ = .nx (setS Γ x (some (.lst (os.set j o)))) := by
  simp only [oSet2, Res.out, er, h]
def oAug (i : Nat) (op : Bop) (a : Option D) (b : Res O) (Γ : En) : Out := match a with
  | some (.int x) => b.out fun y => match er y with
    | .int y => (Res.of (bop op (.int x) (.int y))).out fun d => .nx (setS Γ i (some (.sh d)))
    | _ => .bad
  | _ => .bad
/-- .. in a list of lists -/
def oMut1 (m : Mu) (x : Nat) (k : Res O) (r : Option O) (s : Res (List O × En)) : Out := match r with
  | some (.lst os) => k.out fun z => match er z with
    | .int i => (match (pix os.length i).bind fun j => os[j]? with
      | some (.lst _) => s.out fun p => (Res.of (mutAt m x [i] p.1 p.2)).out .nx
      | _ => .bad)
    | _ => .bad
  | _ => .bad
theorem mut1_at {m : Mu} (hm : m ≠ .set) {x : Nat} {e : Ex} {args : Exs} {os : List O} {i : Int} {j : Nat} {es : List O} (h : getS Γ x = some (.lst os)) (he : ev Φ gt (eEnv Γ) e = .ok (.sh (.int i))) (hj : pix os.length i = some j) (hs : os[j]? = some (.lst es)) :
    exec Φ gt (.mut m x (.cons e .nil) args) Γ = oMut m x [i] (evOs Φ gt args Γ) := by
  cases m <;> first | exact absurd rfl hm | (simp only [exec, h, Res.of_some, evPath, he, er, Res.bind_ok, atO, locO, Option.bind_some, hj, hs, Option.isSome_some, if_true, Res.out]; rfl)
theorem oMut1_ok {m : Mu} {x : Nat} {os : List O} {i : Int} {j : Nat} {es es' args : List O} (h : getS Γ x = some (.lst os)) (hj : pix os.length i = some j) (hs : os[j]? = some (.lst es)) (hm : mutO m es args = some es') :
    oMut m x [i] (.ok (args, Γ)) = .nx (setS Γ x (some (.lst (os.set j (.lst es'))))) := by
  simp only [oMut, Res.out, mutAt, atO, putO, h, Option.bind_some, locO, hj, hs, hm, repO, Option.map_some, Res.of_some]
/-- a loop that may tell an answer: each turn goes on, or tells o -/
theorem forL_all {β : Type} {f : D → En → Out} (enc : β → D) (p : Nat → β → Bool) (o : O) (R : Nat → En → Prop) : ∀ (bs : List β) (i : Nat) (Γ : En), R i Γ → (∀ j Γ b, bs[j]? = some b → R (i + j) Γ → if p (i + j) b = true then ∃ Γ', f (enc b) Γ = .nx Γ' ∧ R (i + j + 1) Γ' else f (enc b) Γ = .rt o) →
    ((∀ j b, bs[j]? = some b → p (i + j) b = true) ∧ ∃ Γ', forL f (bs.map enc) Γ = .nx Γ' ∧ R (i + bs.length) Γ') ∨ ((∃ j b, bs[j]? = some b ∧ p (i + j) b = false) ∧ forL f (bs.map enc) Γ = .rt o)
  | [], i, Γ, hs, _ => .inl ⟨fun j b h => by simp at h, Γ, rfl, hs⟩
  | b :: bs, i, Γ, hs, h => by
    have h0 := h 0 Γ b rfl hs
    rw [Nat.add_zero] at h0
    by_cases hp : p i b = true
    · rw [if_pos hp] at h0
      obtain ⟨Γ1, h1, h2⟩ := h0
      have ih := forL_all enc p o R bs (i + 1) Γ1 h2 fun j Γ b hb hr => by
        have := h (j + 1) Γ b (by simpa using hb) (by rw [show i + (j + 1) = i + 1 + j by omega]; exact hr)
        rw [show i + (j + 1) = i + 1 + j by omega] at this
        exact this
      simp only [List.map_cons, forL, h1, List.length_cons]
      rcases ih with ⟨a, Γ2, e, q⟩ | ⟨⟨j, b', e1, e2⟩, e⟩
      · refine .inl ⟨fun j b' hb => ?_, Γ2, e, by rw [show i + (bs.length + 1) = i + 1 + bs.length by omega]; exact q⟩
        cases j with
        | zero => simp at hb; subst hb; exact hp
        | succ j => rw [show i + (j + 1) = i + 1 + j by omega]; exact a j b' (by simpa using hb)
      · exact .inr ⟨⟨j + 1, b', by simpa using e1, by rw [show i + (j + 1) = i + 1 + j by omega]; exact e2⟩, e⟩
    · rw [if_neg hp] at h0
      refine .inr ⟨⟨0, b, rfl, by simpa using hp⟩, ?_⟩
      simp only [List.map_cons, forL, h0]
end
/-! integers -/
theorem dec_N (a b : Nat) : decide ((a : Int) = (b : Int)) = decide (a = b) := by
  by_cases h : a = b
  · subst h; simp
  · have : ¬ ((a : Int) = b) := by omega
    simp [h, this]
theorem log2_lt {n : Nat} {k : Nat} (h : n < 2 ^ k) (hk : 0 < k) : n.log2 < k := by
  by_cases hn : n = 0
  · subst hn; simpa using hk
  · exact (Nat.log2_lt hn).mpr h
theorem mulOk_of {i j : Int} (a b : Nat) (hi : i.natAbs < 2 ^ a) (hj : j.natAbs < 2 ^ b) (ha : 0 < a) (hb : 0 < b) (h : a + b ≤ 1000000) : mulOk i j = true := by
  have h1 := log2_lt hi ha
  have h2 := log2_lt hj hb
  simp only [mulOk, decide_eq_true_eq]
  omega
theorem divOk_of {i j : Int} (b : Nat) (h0 : 0 < j) (hj : j.natAbs < 2 ^ b) (hb : 0 < b) (h : b ≤ 9000) : divOk i j = true := by
  have h2 := log2_lt hj hb
  simp only [divOk, Bool.and_eq_true, decide_eq_true_eq]
  omega
theorem divOk_c {i j : Int} (h : (decide (0 < j) && decide (j.natAbs.log2 < 9000)) = true) : divOk i j = true := h
end Rp

set_option Elab.async false
set_option linter.all false
set_option maxRecDepth 100000
set_option maxHeartbeats 4000000
/-! RpM1: the drawn numbers. -/
namespace Rp
open PySem Rp.T

def I64 (x : Int) : Prop := 0 ≤ x ∧ x < 2 ^ 64
theorem xor64 {x y : Int} (hx : I64 x) (hy : I64 y) : I64 (Builtin.bitXor x y) := by
  rw [I64, Bits.bitXor_pp hx.1 hy.1]
  have h1 : x.toNat < 2 ^ 64 := by have := hx.2; have := hx.1; omega
  have h2 : y.toNat < 2 ^ 64 := by have := hy.2; have := hy.1; omega
  have := Nat.xor_lt_two_pow h1 h2
  constructor
  · exact Int.natCast_nonneg _
  · exact_mod_cast this
theorem div64 {x : Int} (hx : I64 x) (k : Int) (hk : 0 < k) : I64 (x / k) :=
  ⟨Int.ediv_nonneg hx.1 (Int.le_of_lt hk), Int.lt_of_le_of_lt (Int.ediv_le_self k hx.1) hx.2⟩
theorem abs64 {x : Int} (hx : I64 x) : x.natAbs < 2 ^ 64 := by
  have h1 := hx.1; have h2 := hx.2; omega
theorem mod64 (x : Int) : I64 (x % 18446744073709551616) := ⟨Int.emod_nonneg _ (by decide), Int.emod_lt_of_pos _ (by decide)⟩
def nextI (x : Int) : Int := Builtin.bitXor x (x / 536870912) * 7046029254386353131 % 18446744073709551616
theorem next64 (x : Int) : I64 (nextI x) := mod64 _
section
variable {tab : Tab} {gt : Nat → Option D}
theorem next_ok (h : tab 6 = some f6) (n : Nat) {x : Int} (hx : I64 x) : callF tab gt (n + 1) 6 [.int x] = .ok (.sh (.int (nextI x))) := by
  rw [callF_go h _ _ rfl]
  have hm : mulOk (Builtin.bitXor x (x / 536870912)) 7046029254386353131 = true := mulOk_of 64 64 (abs64 (xor64 hx (div64 hx _ (by decide)))) (by decide) (by decide) (by decide) (by decide)
  have p1 : oBin .pow (.ok (.sh (.int 2))) (.ok (.sh (.int 29))) = .ok (.sh (.int 536870912)) := by rw [bin_pow (by decide)]; rfl
  have p2 : oBin .pow (.ok (.sh (.int 2))) (.ok (.sh (.int 64))) = .ok (.sh (.int 18446744073709551616)) := by rw [bin_pow (by decide)]; rfl
  have hd : divOk x 536870912 = true := divOk_of 64 (by decide) (by decide) (by decide) (by decide)
  simp -implicitDefEqProofs only [f6, start, List.length_cons, List.length_nil, List.replicate, Nat.sub_self, Nat.reduceAdd, Nat.reduceSub, List.cons_append, List.nil_append, xs_nil, xs_cons, then_nx, then_rt, then_bk, x_asg, oAsg_1, oAsg_t2, oAsg_s2, x_ret, oRet_ok, x_ite, oIte_t, oIte_f, x_pass, x_brk, kO_int, kO_bool, kO_none, kO_str, o_var, o_con, o_bin, o_neg, o_cmp, o_chain, o_not, o_and, o_or, o_idx, o_cut, o_call, o_bi, o_mt, o_isi, o_comp, o_dnew, os_nil, os_cons, oSeq_ok, oPre_ok, o_lst, o_tup, oLst_0, oLst_1, oLst_2, oLst_3, oTup_2, oTup_3, e_var, e_mv, oVar_some, e_con, e_bin, bin_add, bin_sub, bin_xor, e_neg, oNeg_ok, e_cmp, cmp_lt, cmp_le, cmp_gt, cmp_ge, cmp_eqI, cmp_neI, dec_N, cmp_isN_int, cmp_isN_none, cmp_notN_int, cmp_notN_none, e_chain, chain_lelt, e_not, oNot_ok, oB_ok, e_and, e_or, a_nil, a_cons, r_nil, r_cons, oAnd_f, oAnd_t, oAnd_ok, oOr_f, oOr_t, oOr_ok, e_idx, e_cut, part_t, part_f, s_nil, s_cons, oCons_ok, e_lst, e_tup, oL_0, oL_1, oL_2, oL_3, oL_4, oT_2, oT_3, okB_bind, e_call, oCall_ok, e_calld, oCalld_ok, o_calld, e_revl, o_revl, e_bi, e_mt, e_isi, oIsi_1, e_lset, i_ls, i_rng, oFor_t, oFor_f, x_for, step_1, step_2, fin_rt, isNul, eEnv, List.map_cons, List.map_nil, Option.map_some, Option.map_none, er, ers, getS, setS, Bool.and_true, Bool.true_and, Bool.and_false, Bool.false_and, Bool.or_false, Bool.false_or, Bool.or_true, Bool.true_or, Bool.not_true, Bool.not_false, p1, p2, bin_fdiv hd, bin_mul hm, bin_mod (show (0 : Int) < 18446744073709551616 by decide)]
  rfl
def foldStep (x c : Int) : Int := Builtin.bitXor ((x + c % 2305843009213693952) * 3202034522624059733 % 18446744073709551616) ((x + c % 2305843009213693952) * 3202034522624059733 % 18446744073709551616 / 4294967296)
def foldI (cs : List Int) (x : Int) : Int := cs.foldl foldStep x
theorem foldStep64 (x c : Int) : I64 (foldStep x c) := xor64 (mod64 _) (div64 (mod64 _) _ (by decide))
theorem foldI64 (cs : List Int) {x : Int} (hx : I64 x) : I64 (foldI cs x) := by
  unfold foldI
  induction cs generalizing x with
  | nil => exact hx
  | cons c cs ih => exact ih (foldStep64 x c)
theorem flats_ints (ns : List Int) : flats (ns.map PyData.int) = true := by
  induction ns with
  | nil => rfl
  | cons n ns ih => simp [flats, flat, ih]
theorem fold_ok (h : tab 5 = some f5) (n : Nat) {x : Int} (hx : I64 x) (cs : List Int) : callF tab gt (n + 1) 5 [.list (cs.map PyData.int), .int x] = .ok (.sh (.int (foldI cs x))) := by
  rw [callF_go h _ _ rfl]
  have p1 : oBin .pow (.ok (.sh (.int 2))) (.ok (.sh (.int 61))) = .ok (.sh (.int 2305843009213693952)) := by rw [bin_pow (by decide)]; rfl
  have p2 : oBin .pow (.ok (.sh (.int 2))) (.ok (.sh (.int 64))) = .ok (.sh (.int 18446744073709551616)) := by rw [bin_pow (by decide)]; rfl
  have p3 : oBin .pow (.ok (.sh (.int 2))) (.ok (.sh (.int 32))) = .ok (.sh (.int 4294967296)) := by rw [bin_pow (by decide)]; rfl
  have hL : oLsI (.ok (.sh (.list (cs.map PyData.int)))) = .ok (cs.map PyData.int, false) := oLsI_ok rfl
  simp -implicitDefEqProofs only [f5, start, List.length_cons, List.length_nil, List.replicate, Nat.sub_self, Nat.reduceAdd, Nat.reduceSub, List.cons_append, List.nil_append, xs_nil, xs_cons, then_nx, then_rt, then_bk, x_asg, oAsg_1, oAsg_t2, oAsg_s2, x_ret, oRet_ok, x_ite, oIte_t, oIte_f, x_pass, x_brk, kO_int, kO_bool, kO_none, kO_str, o_var, o_con, o_bin, o_neg, o_cmp, o_chain, o_not, o_and, o_or, o_idx, o_cut, o_call, o_bi, o_mt, o_isi, o_comp, o_dnew, os_nil, os_cons, oSeq_ok, oPre_ok, o_lst, o_tup, oLst_0, oLst_1, oLst_2, oLst_3, oTup_2, oTup_3, e_var, e_mv, oVar_some, e_con, e_bin, bin_add, bin_sub, bin_xor, e_neg, oNeg_ok, e_cmp, cmp_lt, cmp_le, cmp_gt, cmp_ge, cmp_eqI, cmp_neI, dec_N, cmp_isN_int, cmp_isN_none, cmp_notN_int, cmp_notN_none, e_chain, chain_lelt, e_not, oNot_ok, oB_ok, e_and, e_or, a_nil, a_cons, r_nil, r_cons, oAnd_f, oAnd_t, oAnd_ok, oOr_f, oOr_t, oOr_ok, e_idx, e_cut, part_t, part_f, s_nil, s_cons, oCons_ok, e_lst, e_tup, oL_0, oL_1, oL_2, oL_3, oL_4, oT_2, oT_3, okB_bind, e_call, oCall_ok, e_calld, oCalld_ok, o_calld, e_revl, o_revl, e_bi, e_mt, e_isi, oIsi_1, e_lset, i_ls, i_rng, oFor_t, oFor_f, x_for, step_1, step_2, fin_rt, isNul, eEnv, List.map_cons, List.map_nil, Option.map_some, Option.map_none, er, ers, getS, setS, Bool.and_true, Bool.true_and, Bool.and_false, Bool.false_and, Bool.or_false, Bool.false_or, Bool.or_true, Bool.true_or, Bool.not_true, Bool.not_false, hL, frz, srcsI, srcs]
  let env : Int × Option Int → En := fun s => [some (.sh (.list (cs.map PyData.int))), some (.sh (.int s.1)), s.2.map fun c => .sh (.int c)]
  have key := forL_fold (f := stepF (callO tab gt n) gt [2] (.cons (.asg [1] (.bin .mod (.bin .mul (.bin .add (.var 1) (.bin .mod (.var 2) (.bin .pow (.con (.int 2)) (.con (.int 61))))) (.con (.int 3202034522624059733))) (.bin .pow (.con (.int 2)) (.con (.int 64))))) (.cons (.asg [1] (.bin .xor (.var 1) (.bin .fdiv (.var 1) (.bin .pow (.con (.int 2)) (.con (.int 32)))))) .nil)))
    env PyData.int (fun s c => (foldStep s.1 c, some c)) (fun s => I64 s.1) cs (x, none) hx (fun s c hc hs => by
      refine ⟨?_, foldStep64 _ _⟩
      have hm : mulOk (s.1 + c % 2305843009213693952) 3202034522624059733 = true := by
        refine mulOk_of 65 64 ?_ (by decide) (by decide) (by decide) (by decide)
        have h1 := hs.1; have h2 := hs.2
        have h3 := Int.emod_nonneg c (show (2305843009213693952 : Int) ≠ 0 by decide)
        have h4 := Int.emod_lt_of_pos c (show (0 : Int) < 2305843009213693952 by decide)
        omega
      have hd : divOk ((s.1 + c % 2305843009213693952) * 3202034522624059733 % 18446744073709551616) 4294967296 = true := divOk_of 64 (by decide) (by decide) (by decide) (by decide)
      simp -implicitDefEqProofs only [env, xs_nil, xs_cons, then_nx, then_rt, then_bk, x_asg, oAsg_1, oAsg_t2, oAsg_s2, x_ret, oRet_ok, x_ite, oIte_t, oIte_f, x_pass, x_brk, kO_int, kO_bool, kO_none, kO_str, o_var, o_con, o_bin, o_neg, o_cmp, o_chain, o_not, o_and, o_or, o_idx, o_cut, o_call, o_bi, o_mt, o_isi, o_comp, o_dnew, os_nil, os_cons, oSeq_ok, oPre_ok, o_lst, o_tup, oLst_0, oLst_1, oLst_2, oLst_3, oTup_2, oTup_3, e_var, e_mv, oVar_some, e_con, e_bin, bin_add, bin_sub, bin_xor, e_neg, oNeg_ok, e_cmp, cmp_lt, cmp_le, cmp_gt, cmp_ge, cmp_eqI, cmp_neI, dec_N, cmp_isN_int, cmp_isN_none, cmp_notN_int, cmp_notN_none, e_chain, chain_lelt, e_not, oNot_ok, oB_ok, e_and, e_or, a_nil, a_cons, r_nil, r_cons, oAnd_f, oAnd_t, oAnd_ok, oOr_f, oOr_t, oOr_ok, e_idx, e_cut, part_t, part_f, s_nil, s_cons, oCons_ok, e_lst, e_tup, oL_0, oL_1, oL_2, oL_3, oL_4, oT_2, oT_3, okB_bind, e_call, oCall_ok, e_calld, oCalld_ok, o_calld, e_revl, o_revl, e_bi, e_mt, e_isi, oIsi_1, e_lset, i_ls, i_rng, oFor_t, oFor_f, x_for, step_1, step_2, fin_rt, isNul, eEnv, List.map_cons, List.map_nil, Option.map_some, Option.map_none, er, ers, getS, setS, Bool.and_true, Bool.true_and, Bool.and_false, Bool.false_and, Bool.or_false, Bool.false_or, Bool.or_true, Bool.true_or, Bool.not_true, Bool.not_false, p1, p2, p3, bin_mul hm, bin_fdiv hd, bin_mod (show (0 : Int) < 18446744073709551616 by decide), bin_mod (show (0 : Int) < 2305843009213693952 by decide)]
      rfl)
  have e0 : [some (O.sh (PyData.list (cs.map PyData.int))), some (O.sh (PyData.int x)), none] = env (x, none) := rfl
  rw [e0, key.1]
  have e2 : ∀ (cs : List Int) (s : Int × Option Int), (cs.foldl (fun s c => (foldStep s.1 c, some c)) s).1 = foldI cs s.1 := by
    intro cs
    induction cs with
    | nil => intro s; rfl
    | cons c cs ih => intro s; rw [List.foldl_cons, ih]; rfl
  have e1 := e2 cs (x, none)
  simp -implicitDefEqProofs only [then_nx, xs_nil, xs_cons, then_nx, then_rt, then_bk, x_asg, oAsg_1, oAsg_t2, oAsg_s2, x_ret, oRet_ok, x_ite, oIte_t, oIte_f, x_pass, x_brk, kO_int, kO_bool, kO_none, kO_str, o_var, o_con, o_bin, o_neg, o_cmp, o_chain, o_not, o_and, o_or, o_idx, o_cut, o_call, o_bi, o_mt, o_isi, o_comp, o_dnew, os_nil, os_cons, oSeq_ok, oPre_ok, o_lst, o_tup, oLst_0, oLst_1, oLst_2, oLst_3, oTup_2, oTup_3, e_var, e_mv, oVar_some, e_con, e_bin, bin_add, bin_sub, bin_xor, e_neg, oNeg_ok, e_cmp, cmp_lt, cmp_le, cmp_gt, cmp_ge, cmp_eqI, cmp_neI, dec_N, cmp_isN_int, cmp_isN_none, cmp_notN_int, cmp_notN_none, e_chain, chain_lelt, e_not, oNot_ok, oB_ok, e_and, e_or, a_nil, a_cons, r_nil, r_cons, oAnd_f, oAnd_t, oAnd_ok, oOr_f, oOr_t, oOr_ok, e_idx, e_cut, part_t, part_f, s_nil, s_cons, oCons_ok, e_lst, e_tup, oL_0, oL_1, oL_2, oL_3, oL_4, oT_2, oT_3, okB_bind, e_call, oCall_ok, e_calld, oCalld_ok, o_calld, e_revl, o_revl, e_bi, e_mt, e_isi, oIsi_1, e_lset, i_ls, i_rng, oFor_t, oFor_f, x_for, step_1, step_2, fin_rt, isNul, eEnv, List.map_cons, List.map_nil, Option.map_some, Option.map_none, er, ers, getS, setS, Bool.and_true, Bool.true_and, Bool.and_false, Bool.false_and, Bool.or_false, Bool.false_or, Bool.or_true, Bool.true_or, Bool.not_true, Bool.not_false, env, o_mv_sh (Γ := [_, some (.sh _), _]) (i := 1) rfl]
  rw [e1]
end
end Rp

set_option linter.all false
set_option autoImplicit false
/-! RpRing: tops, ways along them, rings. Plain Lean. -/
namespace Rg

abbrev Tops := List (Option Nat)
def nx (ts : Tops) (k : Nat) : Option Nat := (ts[k]?).getD none
def Ok (ts : Tops) : Prop := ∀ k, some k ∈ ts → k < ts.length
theorem Ok.nx {ts : Tops} (h : Ok ts) {k j : Nat} (e : nx ts k = some j) : j < ts.length := by
  unfold Rg.nx at e
  cases q : ts[k]? with
  | none => rw [q] at e; cases e
  | some o => rw [q] at e; simp at e; subst e; exact h j (List.mem_of_getElem? q)
/-- after so many steps -/
def it (ts : Tops) : Nat → Option Nat → Option Nat
  | 0, o => o
  | j + 1, o => (it ts j o).bind (nx ts)
theorem it_none (ts : Tops) : ∀ j, it ts j none = none
  | 0 => rfl
  | j + 1 => by simp [it, it_none ts j]
theorem it_add (ts : Tops) (i : Nat) (o : Option Nat) : ∀ j, it ts (i + j) o = it ts j (it ts i o)
  | 0 => rfl
  | j + 1 => by
    show (it ts (i + j) o).bind _ = (it ts j (it ts i o)).bind _
    rw [it_add ts i o j]
theorem it_one (ts : Tops) (k : Nat) : it ts 1 (some k) = nx ts k := rfl
/-- a way: from p, each one the top of the one ahead, all unlike; h what the last one's top is -/
structure Way (ts : Tops) (p : Nat) (r : List Nat) (h : Option Nat) : Prop where
  pos : r ≠ []
  at_ : ∀ i x, r[i]? = some x → it ts i (some p) = some x
  nd : r.Nodup
  lt : ∀ x ∈ r, x < ts.length
  end_ : h = it ts r.length (some p)
theorem Way.start {ts : Tops} {p : Nat} (hp : p < ts.length) : Way ts p [p] (nx ts p) where
  pos := by simp
  at_ := fun i x e => by
    cases i with
    | zero => simp at e; subst e; rfl
    | succ i => simp at e
  nd := by simp
  lt := fun x hx => by simp at hx; subst hx; exact hp
  end_ := rfl
theorem Way.more {ts : Tops} (ok : Ok ts) {p : Nat} {r : List Nat} {k : Nat} (w : Way ts p r (some k)) (hk : k ∉ r) : Way ts p (r ++ [k]) (nx ts k) where
  pos := by simp
  at_ := fun i x e => by
    by_cases hi : i < r.length
    · rw [List.getElem?_append_left hi] at e
      exact w.at_ i x e
    · have : i = r.length := by
        have := (List.getElem?_eq_some_iff.mp e).1
        simp at this; omega
      subst this
      rw [List.getElem?_append_right (Nat.le_refl _)] at e
      simp at e
      subst e
      exact w.end_.symm
  nd := List.nodup_append.mpr ⟨w.nd, by simp, fun a ha b hb e => by simp at hb; subst hb; subst e; exact hk ha⟩
  lt := fun x hx => by
    rcases List.mem_append.mp hx with z | z
    · exact w.lt x z
    · simp at z
      subst z
      obtain ⟨j, hj⟩ : ∃ j, r.length = j + 1 := ⟨r.length - 1, by have := List.length_pos_iff.mpr w.pos; omega⟩
      have e := w.end_
      rw [hj] at e
      simp only [it] at e
      cases q : it ts j (some p) with
      | none => rw [q] at e; cases e
      | some y => rw [q] at e; exact ok.nx e.symm
  end_ := by
    have e := w.end_
    rw [List.length_append]
    show nx ts k = (it ts r.length (some p)).bind _
    rw [← e]; rfl
/-- the way's last item -/
def Done (r : List Nat) (h : Option Nat) : Prop := h = none ∨ ∃ k, h = some k ∧ k ∈ r
theorem nodup_len : ∀ (l m : List Nat), l.Nodup → (∀ x ∈ l, x ∈ m) → l.length ≤ m.length
  | [], _, _, _ => Nat.zero_le _
  | x :: l, m, nd, h => by
    obtain ⟨h1, h2⟩ := List.nodup_cons.mp nd
    have hm := h x (by simp)
    have := nodup_len l (m.erase x) h2 fun y hy => (List.mem_erase_of_ne (show y ≠ x from fun z => h1 (by rw [← z]; exact hy))).mpr (h y (by simp [hy]))
    rw [List.length_erase_of_mem hm] at this
    have := List.length_pos_of_mem hm
    simp; omega
theorem nodup_le {n : Nat} {r : List Nat} (nd : r.Nodup) (lt : ∀ x ∈ r, x < n) : r.length ≤ n := by
  have := nodup_len r (List.range n) nd fun x hx => List.mem_range.mpr (lt x hx)
  simpa using this
def way (ts : Tops) : Nat → List Nat → Option Nat → List Nat × Option Nat
  | 0, r, h => (r, h)
  | n + 1, r, none => (r, none)
  | n + 1, r, some k => if k ∈ r then (r, some k) else way ts n (r ++ [k]) (nx ts k)
theorem way_ok {ts : Tops} (ok : Ok ts) {p : Nat} : ∀ (n : Nat) (r : List Nat) (h : Option Nat), Way ts p r h → ts.length + 1 ≤ r.length + n → Way ts p (way ts n r h).1 (way ts n r h).2 ∧ Done (way ts n r h).1 (way ts n r h).2
  | 0, r, h, w, hn => by
    have := nodup_le w.nd w.lt
    omega
  | n + 1, r, none, w, hn => ⟨w, .inl rfl⟩
  | n + 1, r, some k, w, hn => by
    unfold way
    split
    · rename_i hk
      exact ⟨w, .inr ⟨k, rfl, hk⟩⟩
    · rename_i hk
      exact way_ok ok n _ _ (w.more ok hk) (by simp; omega)
def walk (ts : Tops) (p : Nat) : List Nat × Option Nat := way ts ts.length [p] (nx ts p)
theorem walk_ok {ts : Tops} (ok : Ok ts) {p : Nat} (hp : p < ts.length) : Way ts p (walk ts p).1 (walk ts p).2 ∧ Done (walk ts p).1 (walk ts p).2 := way_ok ok _ _ _ (.start hp) (by simp; omega)
def ring (ts : Tops) (p : Nat) : List Nat := (walk ts p).1
def cyc (ts : Tops) (p : Nat) : Bool := decide ((walk ts p).2 = some p)
section
variable {ts : Tops}
theorem ring_pos (ok : Ok ts) {p : Nat} (hp : p < ts.length) : (ring ts p).length ≠ 0 := fun z => (walk_ok ok hp).1.pos (List.length_eq_zero_iff.mp z)
theorem Way.mem {p : Nat} {r : List Nat} {h : Option Nat} (w : Way ts p r h) {x : Nat} : x ∈ r ↔ ∃ i, i < r.length ∧ it ts i (some p) = some x := by
  constructor
  · intro hx
    obtain ⟨i, hi⟩ := List.mem_iff_getElem?.mp hx
    exact ⟨i, (List.getElem?_eq_some_iff.mp hi).1, w.at_ i x hi⟩
  · rintro ⟨i, hi, e⟩
    have := w.at_ i _ (List.getElem?_eq_getElem hi)
    rw [e] at this
    cases this
    exact List.getElem_mem hi
theorem it_period {p L : Nat} (h : it ts L (some p) = some p) : ∀ m, it ts (L * m) (some p) = some p
  | 0 => rfl
  | m + 1 => by
    rw [Nat.mul_succ, Nat.add_comm, it_add, h]
    exact it_period h m
/-- on a ring: the way comes back -/
theorem cyc_iff (ok : Ok ts) {p : Nat} (hp : p < ts.length) : cyc ts p = true ↔ ∃ j, 1 ≤ j ∧ it ts j (some p) = some p := by
  obtain ⟨w, d⟩ := walk_ok ok hp
  have hpos : 1 ≤ (walk ts p).1.length := List.length_pos_iff.mpr w.pos
  unfold cyc
  rw [decide_eq_true_eq]
  constructor
  · intro e
    exact ⟨_, hpos, by rw [← w.end_]; exact e⟩
  · rintro ⟨j, hj, e⟩
    rcases d with d | ⟨k, d, hk⟩
    · exfalso
      have h1 := it_period e ((walk ts p).1.length)
      have h2 : (walk ts p).1.length ≤ j * (walk ts p).1.length := Nat.le_mul_of_pos_left _ hj
      obtain ⟨c, hc⟩ := Nat.le.dest h2
      rw [← hc, it_add, ← w.end_, d, it_none] at h1
      cases h1
    · by_cases hkp : k = p
      · rw [d, hkp]
      · exfalso
        -- the rest of the way is never left
        have hclosed : ∀ i, 1 ≤ i → ∃ x, it ts i (some p) = some x ∧ x ∈ (walk ts p).1 ∧ x ≠ p := by
          intro i
          induction i with
          | zero => intro h; omega
          | succ i ih =>
            intro _
            have hp0 : (walk ts p).1[0]? = some p := by
              have h0 : 0 < (walk ts p).1.length := hpos
              have := w.at_ 0 _ (List.getElem?_eq_getElem h0)
              rw [List.getElem?_eq_getElem h0]
              simp only [it] at this
              exact this.symm
            have step : ∀ y, y ∈ (walk ts p).1 → ∃ x, nx ts y = some x ∧ x ∈ (walk ts p).1 ∧ x ≠ p := by
              intro y hy
              obtain ⟨a, ha, ea⟩ := w.mem.mp hy
              have en : nx ts y = it ts (a + 1) (some p) := by simp [it, ea]
              by_cases hl : a + 1 < (walk ts p).1.length
              · have e2 := w.at_ (a + 1) _ (List.getElem?_eq_getElem hl)
                refine ⟨_, en.trans e2, List.getElem_mem hl, fun z => ?_⟩
                have := (List.getElem_inj (i := a + 1) (j := 0) (h₀ := hl) (h₁ := hpos) w.nd).mp (by
                  rw [z]
                  have := List.getElem?_eq_getElem (l := (walk ts p).1) (i := 0) hpos
                  rw [hp0] at this
                  exact Option.some.inj this)
                omega
              · have : a + 1 = (walk ts p).1.length := by omega
                rw [this, ← w.end_, d] at en
                exact ⟨k, en, hk, hkp⟩
            cases i with
            | zero =>
              obtain ⟨x, h1, h2, h3⟩ := step p (List.mem_of_getElem? hp0)
              exact ⟨x, h1, h2, h3⟩
            | succ i =>
              obtain ⟨y, h1, h2, h3⟩ := ih (by omega)
              obtain ⟨x, g1, g2, g3⟩ := step y h2
              exact ⟨x, by show (it ts (i + 1) (some p)).bind _ = _; rw [h1]; exact g1, g2, g3⟩
        obtain ⟨x, h1, h2, h3⟩ := hclosed j hj
        rw [e] at h1
        cases h1
        exact h3 rfl
/-- the ring of a place on one: just what is reached from it -/
theorem ring_mem (ok : Ok ts) {p : Nat} (hp : p < ts.length) (hc : cyc ts p = true) {x : Nat} : x ∈ ring ts p ↔ ∃ i, it ts i (some p) = some x := by
  obtain ⟨w, d⟩ := walk_ok ok hp
  have e : it ts (ring ts p).length (some p) = some p := by
    have := w.end_
    unfold cyc at hc
    rw [decide_eq_true_eq] at hc
    rw [hc] at this
    exact this.symm
  constructor
  · intro hx
    obtain ⟨i, _, h⟩ := w.mem.mp hx
    exact ⟨i, h⟩
  · rintro ⟨i, h⟩
    have hL := ring_pos ok hp
    refine w.mem.mpr ⟨i % (ring ts p).length, Nat.mod_lt _ (Nat.pos_of_ne_zero hL), ?_⟩
    have : i = (ring ts p).length * (i / (ring ts p).length) + i % (ring ts p).length := (Nat.div_add_mod _ _).symm
    rw [this, it_add, it_period e] at h
    exact h
theorem it_lt (ok : Ok ts) {p x : Nat} (hp : p < ts.length) : ∀ {i : Nat}, it ts i (some p) = some x → x < ts.length
  | 0, h => by cases h; exact hp
  | i + 1, h => by
    simp only [it] at h
    cases q : it ts i (some p) with
    | none => rw [q] at h; cases h
    | some y => rw [q] at h; exact ok.nx h
theorem mem_cyc (ok : Ok ts) {p q : Nat} (hp : p < ts.length) (hc : cyc ts p = true) (hq : q ∈ ring ts p) : q < ts.length ∧ cyc ts q = true ∧ p ∈ ring ts q := by
  obtain ⟨i, hi⟩ := (ring_mem ok hp hc).mp hq
  have hql := it_lt ok hp hi
  obtain ⟨j, hj, e⟩ := (cyc_iff ok hp).mp hc
  have back : ∃ m, it ts m (some q) = some p := by
    have h2 : i ≤ j * (i + 1) := Nat.le_trans (Nat.le_succ i) (Nat.le_mul_of_pos_left _ hj)
    obtain ⟨c, hcc⟩ := Nat.le.dest h2
    refine ⟨c, ?_⟩
    have := it_period e (i + 1)
    rw [← hcc, it_add, hi] at this
    exact this
  obtain ⟨m, hm⟩ := back
  have hcq : cyc ts q = true := by
    refine (cyc_iff ok hql).mpr ⟨m + j + i, by omega, ?_⟩
    rw [it_add, it_add, hm, e, hi]
  exact ⟨hql, hcq, (ring_mem ok hql hcq).mpr ⟨m, hm⟩⟩
theorem ring_trans (ok : Ok ts) {p q x : Nat} (hp : p < ts.length) (hc : cyc ts p = true) (hq : q ∈ ring ts p) (hx : x ∈ ring ts q) : x ∈ ring ts p := by
  obtain ⟨h1, h2, h3⟩ := mem_cyc ok hp hc hq
  obtain ⟨i, hi⟩ := (ring_mem ok hp hc).mp hq
  obtain ⟨j, hj⟩ := (ring_mem ok h1 h2).mp hx
  exact (ring_mem ok hp hc).mpr ⟨i + j, by rw [it_add, hi]; exact hj⟩
/-- heads of rings -/
def hd (ts : Tops) (p : Nat) : Bool := cyc ts p && (ring ts p).all fun x => decide (p ≤ x)
def heads (ts : Tops) : List Nat := (List.range ts.length).filter (hd ts)
def rings (ts : Tops) : List (List Nat) := (heads ts).map (ring ts)
theorem heads_mem {p : Nat} : p ∈ heads ts ↔ p < ts.length ∧ cyc ts p = true ∧ ∀ x ∈ ring ts p, p ≤ x := by
  simp only [heads, List.mem_filter, List.mem_range, hd, Bool.and_eq_true, List.all_eq_true, decide_eq_true_eq]
theorem exists_min : ∀ (l : List Nat), l ≠ [] → ∃ m ∈ l, ∀ x ∈ l, m ≤ x
  | [a], _ => ⟨a, by simp, fun x hx => by simp at hx; omega⟩
  | a :: b :: l, _ => by
    obtain ⟨m, h1, h2⟩ := exists_min (b :: l) (by simp)
    by_cases h : a ≤ m
    · exact ⟨a, by simp, fun x hx => by
        rcases List.mem_cons.mp hx with rfl | hx
        · exact Nat.le_refl _
        · have := h2 x hx; omega⟩
    · exact ⟨m, by simp at h1 ⊢; exact .inr h1, fun x hx => by
        rcases List.mem_cons.mp hx with rfl | hx
        · omega
        · exact h2 x hx⟩
/-- what stands in rings -/
theorem flat_mem (ok : Ok ts) {q : Nat} : q ∈ (heads ts).flatMap (ring ts) ↔ q < ts.length ∧ cyc ts q = true := by
  constructor
  · intro h
    obtain ⟨p, h1, h2⟩ := List.mem_flatMap.mp h
    obtain ⟨g1, g2, g3⟩ := heads_mem.mp h1
    obtain ⟨a, b, c⟩ := mem_cyc ok g1 g2 h2
    exact ⟨a, b⟩
  · rintro ⟨h1, h2⟩
    obtain ⟨m, hm, hmin⟩ := exists_min (ring ts q) (fun z => ring_pos ok h1 (by rw [z]; rfl))
    obtain ⟨a, b, c⟩ := mem_cyc ok h1 h2 hm
    exact List.mem_flatMap.mpr ⟨m, heads_mem.mpr ⟨a, b, fun x hx => hmin x (ring_trans ok h1 h2 hm hx)⟩, c⟩
theorem flat_nodup (ok : Ok ts) : ((heads ts).flatMap (ring ts)).Nodup := by
  have hnd : (heads ts).Nodup := List.Pairwise.filter _ List.nodup_range
  have key : ∀ (l : List Nat), l.Nodup → (∀ p ∈ l, p ∈ heads ts) → (l.flatMap (ring ts)).Nodup := by
    intro l
    induction l with
    | nil => intro _ _; simp
    | cons p l ih =>
      intro h1 h2
      obtain ⟨hn, h1⟩ := List.nodup_cons.mp h1
      rw [List.flatMap_cons]
      obtain ⟨g1, g2, g3⟩ := heads_mem.mp (h2 p (by simp))
      refine List.nodup_append.mpr ⟨(walk_ok ok g1).1.nd, ih h1 fun q hq => h2 q (by simp [hq]), fun a ha b hb e => ?_⟩
      subst e
      obtain ⟨q, hq, hb⟩ := List.mem_flatMap.mp hb
      obtain ⟨f1, f2, f3⟩ := heads_mem.mp (h2 q (by simp [hq]))
      obtain ⟨_, c1, c2⟩ := mem_cyc ok f1 f2 hb
      obtain ⟨_, d1, d2⟩ := mem_cyc ok g1 g2 ha
      have hqp : q ∈ ring ts p := ring_trans ok g1 g2 ha c2
      have hpq : p ∈ ring ts q := ring_trans ok f1 f2 hb d2
      have := g3 q hqp
      have := f3 p hpq
      have : p = q := by omega
      subst this
      exact hn hq
  exact key _ hnd fun p hp => hp
end
end Rg

set_option Elab.async false
set_option linter.all false
set_option maxRecDepth 100000
set_option maxHeartbeats 4000000
/-! RpRings: rings_of, evaluated. -/
namespace Rp
open PySem Rp.T Rg

def dT : Option Nat → D
  | none => .none
  | some k => .int k
theorem dT_some (k : Nat) : dT (some k) = .int k := rfl
theorem dT_none : dT none = .none := rfl
def dTs (ts : Tops) : D := .list (ts.map dT)
def dN (l : List Nat) : D := .list (l.map fun (k : Nat) => PyData.int k)
def oN (l : List Nat) : O := .lst (l.map fun (k : Nat) => O.sh (.int k))
theorem er_oN (l : List Nat) : er (oN l) = dN l := by
  simp -implicitDefEqProofs only [oN, dN, er, ers_map, List.map_map]
  rfl
theorem clean_oN (l : List Nat) : clean (oN l) = true := by
  simp -implicitDefEqProofs only [oN, clean]
  induction l with
  | nil => rfl
  | cons k l ih => simp [cleans, clean, flat, ih]
theorem oN_shl (l : List Nat) : shl (l.map fun (k : Nat) => PyData.int k) = oN l := by simp -implicitDefEqProofs only [shl, oN, List.map_map]; rfl
theorem oN_app (l : List Nat) (k : Nat) : O.lst ((l.map fun (k : Nat) => O.sh (.int k)) ++ [.sh (.int (k : Int))]) = oN (l ++ [k]) := by simp [oN]
section
variable {tab : Tab} {gt : Nat → Option D} {Γ : En}
theorem pix_nat {n i : Nat} (h : i < n) : pix n (i : Int) = some i := by
  unfold pix L2.ixN
  rw [if_pos (by omega), if_pos (by omega)]
  simp
theorem dix_T {ts : Tops} {j : Nat} (h : j < ts.length) : dix (dTs ts) (.int (j : Int)) = some (dT (nx ts j)) := by
  simp -implicitDefEqProofs only [dTs, dix, List.length_map, pix_nat h, Option.bind_some, List.getElem?_map, List.getElem?_eq_getElem h, Option.map_some, nx, Option.getD_some]
theorem dix_N {l : List Nat} {j : Nat} (h : j < l.length) : dix (dN l) (.int (j : Int)) = some (.int (l[j] : Nat)) := by
  simp -implicitDefEqProofs only [dN, dix, List.length_map, pix_nat h, Option.bind_some, List.getElem?_map, List.getElem?_eq_getElem h, Option.map_some]
theorem kO_T (e : Ex) (h : Option Nat) : kO e Γ (.ok (.sh (dT h))) = .ok (.sh (dT h), Γ) := by cases h <;> rfl
theorem sh_T (h : Option Nat) : shaped (dT h) = true := by cases h <;> simp -implicitDefEqProofs only [dT, sh_none, sh_int]
theorem lay_ints (l : List Nat) : PyData.canLayAll0 (l.map fun (k : Nat) => PyData.int k) = true := by
  induction l with
  | nil => simp [PyData.canLayAll0]
  | cons k l ih => simp [PyData.canLayAll0, PyData.canLay0, ih]
theorem depth_ints (l : List Nat) : PyData.depthAll (l.map fun (k : Nat) => PyData.int k) = 0 := by
  induction l with
  | nil => simp [PyData.depthAll]
  | cons k l ih => simp [PyData.depthAll, PyData.depth, ih]
theorem sh_N (l : List Nat) : shaped (dN l) = true := by
  simp -implicitDefEqProofs only [shaped, SeqAt.shaped, dN, PyData.canLay0, PyData.depth, lay_ints, depth_ints]
  decide
theorem eqv_int (i j : Int) : PyData.eqv (.int i) (.int j) = decide (i = j) := by
  simp -implicitDefEqProofs only [PyData.eqv]
  by_cases h : i = j <;> simp [h]
theorem any_N (l : List Nat) (k : Nat) : ((l.map fun (k : Nat) => PyData.int k).any fun z => PyData.eqv z (.int (k : Int))) = decide (k ∈ l) := by
  induction l with
  | nil => rfl
  | cons a l ih =>
    rw [List.map_cons, List.any_cons, ih, eqv_int]
    by_cases h : a = k
    · subst h; simp
    · have : ¬ ((a : Int) = k) := by omega
      simp [this, Ne.symm h]
theorem cmp_notin_N (k : Nat) {x : O} {l : List Nat} (hx : er x = dN l) : oCmp .notin (.ok (.sh (.int (k : Int)))) (.ok x) = .ok (.sh (.bool (!decide (k ∈ l)))) := by
  refine cmp_ok ?_
  rw [hx]
  have := sh_N l
  simp -implicitDefEqProofs only [dN] at this ⊢
  simp -implicitDefEqProofs only [er, cop, sh_int, this, Bool.and_self, if_true, any_N]
theorem cmp_in_N (k : Nat) {x : O} {l : List Nat} (hx : er x = dN l) : oCmp .inn (.ok (.sh (.int (k : Int)))) (.ok x) = .ok (.sh (.bool (decide (k ∈ l)))) := by
  refine cmp_ok ?_
  rw [hx]
  have := sh_N l
  simp -implicitDefEqProofs only [dN] at this ⊢
  simp -implicitDefEqProofs only [er, cop, sh_int, this, Bool.and_self, if_true, any_N]
theorem cmp_notN_T (h : Option Nat) : oCmp .notN (.ok (.sh (dT h))) (.ok (.sh .none)) = .ok (.sh (.bool h.isSome)) := by cases h <;> rfl
theorem cmp_eqT (h : Option Nat) (j : Nat) : oCmp .eq (.ok (.sh (dT h))) (.ok (.sh (.int (j : Int)))) = .ok (.sh (.bool (decide (h = some j)))) := by
  cases h with
  | none =>
    refine cmp_ok ?_
    simp -implicitDefEqProofs only [er, dT, cop, sh_none, sh_int, Bool.and_self, if_true]
    simp [PyData.eqv]
  | some k =>
    simp -implicitDefEqProofs only [dT, cmp_eqI]
    by_cases h : k = j
    · subst h; simp
    · have : ¬ ((k : Int) = j) := by omega
      simp [this, h]
theorem cmp_neT (h : Option Nat) (j : Nat) : oCmp .ne (.ok (.sh (dT h))) (.ok (.sh (.int (j : Int)))) = .ok (.sh (.bool (!decide (h = some j)))) := by
  cases h with
  | none =>
    refine cmp_ok ?_
    simp -implicitDefEqProofs only [er, dT, cop, sh_none, sh_int, Bool.and_self, if_true]
    simp [PyData.eqv]
  | some k =>
    simp -implicitDefEqProofs only [dT, cmp_neI]
    by_cases h : k = j
    · subst h; simp
    · have : ¬ ((k : Int) = j) := by omega
      simp [this, h]
theorem dints_N (l : List Nat) : dints (l.map fun (k : Nat) => PyData.int k) = some (l.map fun (k : Nat) => (k : Int)) := by
  induction l with
  | nil => rfl
  | cons k l ih => simp [dints, ih]
theorem min_N {x : O} {l : List Nat} (hx : er x = dN l) (h : l ≠ []) : ∃ m ∈ l, (∀ y ∈ l, m ≤ y) ∧ oBi .min (.ok [x]) = .ok (.sh (.int (m : Nat))) := by
  cases l with
  | nil => exact absurd rfl h
  | cons a l =>
    obtain ⟨h1, h2, h3⟩ := minI_le (a : Int) (l.map fun (k : Nat) => (k : Int))
    have hm : ∃ m ∈ a :: l, (m : Int) = minI (a : Int) (l.map fun (k : Nat) => (k : Int)) := by
      rcases h3 with h3 | h3
      · exact ⟨a, by simp, h3.symm⟩
      · obtain ⟨m, q1, q2⟩ := List.mem_map.mp h3
        exact ⟨m, by simp [q1], q2⟩
    obtain ⟨m, q1, q2⟩ := hm
    refine ⟨m, q1, fun y hy => ?_, ?_⟩
    · rcases List.mem_cons.mp hy with rfl | hy
      · omega
      · have := h2 (y : Int) (List.mem_map.mpr ⟨y, hy, rfl⟩)
        omega
    · refine bf_ok ?_
      simp -implicitDefEqProofs only [ers, hx, dN, List.map_cons, bfn]
      have hd := dints_N (a :: l)
      rw [List.map_cons, List.map_cons] at hd
      rw [hd]
      simp only
      rw [← q2]
theorem range_at {n j b : Nat} (h : (List.range n)[j]? = some b) : b = j ∧ j < n := by
  have := (List.getElem?_eq_some_iff.mp h)
  obtain ⟨h1, h2⟩ := this
  simp at h1 h2
  exact ⟨h2.symm, h1⟩
theorem way_loop {ts : Tops} (ok : Ok ts) (hl : ts.length ≤ 1000) {b : Nat} (hjn : b < ts.length) (Φ : Nat → List O → Res O) (o1 : Option O) : ∃ r h, (r, h) = walk ts b ∧ whlN (fun Γ => (ev Φ gt (eEnv Γ) (.and (.cons (.cmp .notN (.var 4) (.con .none)) (.cons (.cmp .notin (.var 4) (.var 3)) .nil)))).bind fun o => isB (er o))
      (execs Φ gt (.cons (.mut .append 3 .nil (.cons (.var 4) .nil)) (.cons (.asg [4] (.idx (.var 0) (.var 4))) .nil))) fuelW [some (.sh (dTs ts)), o1, some (.sh (.int (b : Int))), some (.lst [.sh (.int (b : Int))]), some (.sh (dT (nx ts b)))] =
      .nx [some (.sh (dTs ts)), o1, some (.sh (.int (b : Int))), some (oN r), some (.sh (dT h))] := by
  obtain ⟨Γw, ew, r, hh, hrw, hrd, rfl⟩ := whl_rel (c := fun Γ => (ev (Φ) gt (eEnv Γ) (.and (.cons (.cmp .notN (.var 4) (.con .none)) (.cons (.cmp .notin (.var 4) (.var 3)) .nil)))).bind fun o => isB (er o))
    (f := execs (Φ) gt (.cons (.mut .append 3 .nil (.cons (.var 4) .nil)) (.cons (.asg [4] (.idx (.var 0) (.var 4))) .nil)))
    (fun m Γ => ∃ r h, Way ts b r h ∧ way ts m r h = walk ts b ∧ ts.length + 1 ≤ r.length + m ∧ Γ = [some (.sh (dTs ts)), o1, some (.sh (.int (b : Int))), some (oN r), some (.sh (dT h))])
    (fun Γ => ∃ r h, (r, h) = walk ts b ∧ Done r h ∧ Γ = [some (.sh (dTs ts)), o1, some (.sh (.int (b : Int))), some (oN r), some (.sh (dT h))]) (by
      rintro m Γ ⟨r, hh, hw, hwm, hm, rfl⟩
      have hlr := nodup_le hw.nd hw.lt
      obtain ⟨m', rfl⟩ : ∃ m', m = m' + 1 := ⟨m - 1, by omega⟩
      cases hh with
      | none =>
        left
        refine ⟨?_, r, none, ?_, .inl rfl, rfl⟩
        · simp -implicitDefEqProofs only [xs_nil, xs_cons, then_nx, then_rt, then_bk, x_asg, oAsg_1, oAsg_t2, oAsg_s2, x_ret, oRet_ok, x_ite, oIte_t, oIte_f, x_pass, x_brk, kO_int, kO_bool, kO_none, kO_str, o_var, o_con, o_bin, o_neg, o_cmp, o_chain, o_not, o_and, o_or, o_idx, o_cut, o_call, o_bi, o_mt, o_isi, o_comp, o_dnew, os_nil, os_cons, oSeq_ok, oPre_ok, o_lst, o_tup, oLst_0, oLst_1, oLst_2, oLst_3, oTup_2, oTup_3, e_var, e_mv, oVar_some, e_con, e_bin, bin_add, bin_sub, bin_xor, e_neg, oNeg_ok, e_cmp, cmp_lt, cmp_le, cmp_gt, cmp_ge, cmp_eqI, cmp_neI, dec_N, cmp_isN_int, cmp_isN_none, cmp_notN_int, cmp_notN_none, e_chain, chain_lelt, e_not, oNot_ok, oB_ok, e_and, e_or, a_nil, a_cons, r_nil, r_cons, oAnd_f, oAnd_t, oAnd_ok, oOr_f, oOr_t, oOr_ok, e_idx, e_cut, part_t, part_f, s_nil, s_cons, oCons_ok, e_lst, e_tup, oL_0, oL_1, oL_2, oL_3, oL_4, oT_2, oT_3, okB_bind, e_call, oCall_ok, e_calld, oCalld_ok, o_calld, e_revl, o_revl, e_bi, e_mt, e_isi, oIsi_1, e_lset, i_ls, i_rng, oFor_t, oFor_f, x_for, step_1, step_2, fin_rt, isNul, eEnv, List.map_cons, List.map_nil, Option.map_some, Option.map_none, er, ers, getS, setS, Bool.and_true, Bool.true_and, Bool.and_false, Bool.false_and, Bool.or_false, Bool.false_or, Bool.or_true, Bool.true_or, Bool.not_true, Bool.not_false, cmp_notN_T, Option.isSome_none, Bool.false_and]
        · unfold way at hwm; exact hwm
      | some k =>
        by_cases hk : k ∈ r
        · left
          refine ⟨?_, r, some k, ?_, .inr ⟨k, rfl, hk⟩, rfl⟩
          · simp -implicitDefEqProofs only [xs_nil, xs_cons, then_nx, then_rt, then_bk, x_asg, oAsg_1, oAsg_t2, oAsg_s2, x_ret, oRet_ok, x_ite, oIte_t, oIte_f, x_pass, x_brk, kO_int, kO_bool, kO_none, kO_str, o_var, o_con, o_bin, o_neg, o_cmp, o_chain, o_not, o_and, o_or, o_idx, o_cut, o_call, o_bi, o_mt, o_isi, o_comp, o_dnew, os_nil, os_cons, oSeq_ok, oPre_ok, o_lst, o_tup, oLst_0, oLst_1, oLst_2, oLst_3, oTup_2, oTup_3, e_var, e_mv, oVar_some, e_con, e_bin, bin_add, bin_sub, bin_xor, e_neg, oNeg_ok, e_cmp, cmp_lt, cmp_le, cmp_gt, cmp_ge, cmp_eqI, cmp_neI, dec_N, cmp_isN_int, cmp_isN_none, cmp_notN_int, cmp_notN_none, e_chain, chain_lelt, e_not, oNot_ok, oB_ok, e_and, e_or, a_nil, a_cons, r_nil, r_cons, oAnd_f, oAnd_t, oAnd_ok, oOr_f, oOr_t, oOr_ok, e_idx, e_cut, part_t, part_f, s_nil, s_cons, oCons_ok, e_lst, e_tup, oL_0, oL_1, oL_2, oL_3, oL_4, oT_2, oT_3, okB_bind, e_call, oCall_ok, e_calld, oCalld_ok, o_calld, e_revl, o_revl, e_bi, e_mt, e_isi, oIsi_1, e_lset, i_ls, i_rng, oFor_t, oFor_f, x_for, step_1, step_2, fin_rt, isNul, eEnv, List.map_cons, List.map_nil, Option.map_some, Option.map_none, er, ers, getS, setS, Bool.and_true, Bool.true_and, Bool.and_false, Bool.false_and, Bool.or_false, Bool.false_or, Bool.or_true, Bool.true_or, Bool.not_true, Bool.not_false, cmp_notN_T, Option.isSome_some, dT_some, cmp_notN_int, er_oN, cmp_notin_N k (x := .sh (dN r)) (l := r) rfl, hk, decide_true, Bool.not_true, Bool.and_false, Bool.false_and]
          · unfold way at hwm; rw [if_pos hk] at hwm; exact hwm
        · right
          have hkl : k < ts.length := (hw.more ok hk).lt k (by simp)
          refine ⟨?_, [some (.sh (dTs ts)), o1, some (.sh (.int (b : Int))), some (oN (r ++ [k])), some (.sh (dT (nx ts k)))], m', ?_, Nat.lt_succ_self _, r ++ [k], nx ts k, hw.more ok hk, ?_, by simp; omega, rfl⟩
          · simp -implicitDefEqProofs only [xs_nil, xs_cons, then_nx, then_rt, then_bk, x_asg, oAsg_1, oAsg_t2, oAsg_s2, x_ret, oRet_ok, x_ite, oIte_t, oIte_f, x_pass, x_brk, kO_int, kO_bool, kO_none, kO_str, o_var, o_con, o_bin, o_neg, o_cmp, o_chain, o_not, o_and, o_or, o_idx, o_cut, o_call, o_bi, o_mt, o_isi, o_comp, o_dnew, os_nil, os_cons, oSeq_ok, oPre_ok, o_lst, o_tup, oLst_0, oLst_1, oLst_2, oLst_3, oTup_2, oTup_3, e_var, e_mv, oVar_some, e_con, e_bin, bin_add, bin_sub, bin_xor, e_neg, oNeg_ok, e_cmp, cmp_lt, cmp_le, cmp_gt, cmp_ge, cmp_eqI, cmp_neI, dec_N, cmp_isN_int, cmp_isN_none, cmp_notN_int, cmp_notN_none, e_chain, chain_lelt, e_not, oNot_ok, oB_ok, e_and, e_or, a_nil, a_cons, r_nil, r_cons, oAnd_f, oAnd_t, oAnd_ok, oOr_f, oOr_t, oOr_ok, e_idx, e_cut, part_t, part_f, s_nil, s_cons, oCons_ok, e_lst, e_tup, oL_0, oL_1, oL_2, oL_3, oL_4, oT_2, oT_3, okB_bind, e_call, oCall_ok, e_calld, oCalld_ok, o_calld, e_revl, o_revl, e_bi, e_mt, e_isi, oIsi_1, e_lset, i_ls, i_rng, oFor_t, oFor_f, x_for, step_1, step_2, fin_rt, isNul, eEnv, List.map_cons, List.map_nil, Option.map_some, Option.map_none, er, ers, getS, setS, Bool.and_true, Bool.true_and, Bool.and_false, Bool.false_and, Bool.or_false, Bool.false_or, Bool.or_true, Bool.true_or, Bool.not_true, Bool.not_false, dT_some, cmp_notN_int, er_oN, cmp_notin_N k (x := .sh (dN r)) (l := r) rfl, hk, decide_false, Bool.not_false, Bool.and_true]
          · have hz : (r.map fun (k : Nat) => O.sh (.int (k : Int))).length < sizeLine := by rw [List.length_map]; rw [sizeLine_eq]; omega
            rw [xs_cons, x_mut0 (by decide) 3 _ (os := r.map fun (k : Nat) => O.sh (.int (k : Int))) rfl]
            simp -implicitDefEqProofs only [xs_nil, xs_cons, then_nx, then_rt, then_bk, x_asg, oAsg_1, oAsg_t2, oAsg_s2, x_ret, oRet_ok, x_ite, oIte_t, oIte_f, x_pass, x_brk, kO_int, kO_bool, kO_none, kO_str, o_var, o_con, o_bin, o_neg, o_cmp, o_chain, o_not, o_and, o_or, o_idx, o_cut, o_call, o_bi, o_mt, o_isi, o_comp, o_dnew, os_nil, os_cons, oSeq_ok, oPre_ok, o_lst, o_tup, oLst_0, oLst_1, oLst_2, oLst_3, oTup_2, oTup_3, e_var, e_mv, oVar_some, e_con, e_bin, bin_add, bin_sub, bin_xor, e_neg, oNeg_ok, e_cmp, cmp_lt, cmp_le, cmp_gt, cmp_ge, cmp_eqI, cmp_neI, dec_N, cmp_isN_int, cmp_isN_none, cmp_notN_int, cmp_notN_none, e_chain, chain_lelt, e_not, oNot_ok, oB_ok, e_and, e_or, a_nil, a_cons, r_nil, r_cons, oAnd_f, oAnd_t, oAnd_ok, oOr_f, oOr_t, oOr_ok, e_idx, e_cut, part_t, part_f, s_nil, s_cons, oCons_ok, e_lst, e_tup, oL_0, oL_1, oL_2, oL_3, oL_4, oT_2, oT_3, okB_bind, e_call, oCall_ok, e_calld, oCalld_ok, o_calld, e_revl, o_revl, e_bi, e_mt, e_isi, oIsi_1, e_lset, i_ls, i_rng, oFor_t, oFor_f, x_for, step_1, step_2, fin_rt, isNul, eEnv, List.map_cons, List.map_nil, Option.map_some, Option.map_none, er, ers, getS, setS, Bool.and_true, Bool.true_and, Bool.and_false, Bool.false_and, Bool.or_false, Bool.false_or, Bool.or_true, Bool.true_or, Bool.not_true, Bool.not_false, dT_some]
            rw [oMut_app0 (os := r.map fun (k : Nat) => O.sh (.int (k : Int))) rfl hz, oN_app]
            simp -implicitDefEqProofs only [xs_nil, xs_cons, then_nx, then_rt, then_bk, x_asg, oAsg_1, oAsg_t2, oAsg_s2, x_ret, oRet_ok, x_ite, oIte_t, oIte_f, x_pass, x_brk, kO_int, kO_bool, kO_none, kO_str, o_var, o_con, o_bin, o_neg, o_cmp, o_chain, o_not, o_and, o_or, o_idx, o_cut, o_call, o_bi, o_mt, o_isi, o_comp, o_dnew, os_nil, os_cons, oSeq_ok, oPre_ok, o_lst, o_tup, oLst_0, oLst_1, oLst_2, oLst_3, oTup_2, oTup_3, e_var, e_mv, oVar_some, e_con, e_bin, bin_add, bin_sub, bin_xor, e_neg, oNeg_ok, e_cmp, cmp_lt, cmp_le, cmp_gt, cmp_ge, cmp_eqI, cmp_neI, dec_N, cmp_isN_int, cmp_isN_none, cmp_notN_int, cmp_notN_none, e_chain, chain_lelt, e_not, oNot_ok, oB_ok, e_and, e_or, a_nil, a_cons, r_nil, r_cons, oAnd_f, oAnd_t, oAnd_ok, oOr_f, oOr_t, oOr_ok, e_idx, e_cut, part_t, part_f, s_nil, s_cons, oCons_ok, e_lst, e_tup, oL_0, oL_1, oL_2, oL_3, oL_4, oT_2, oT_3, okB_bind, e_call, oCall_ok, e_calld, oCalld_ok, o_calld, e_revl, o_revl, e_bi, e_mt, e_isi, oIsi_1, e_lset, i_ls, i_rng, oFor_t, oFor_f, x_for, step_1, step_2, fin_rt, isNul, eEnv, List.map_cons, List.map_nil, Option.map_some, Option.map_none, er, ers, getS, setS, Bool.and_true, Bool.true_and, Bool.and_false, Bool.false_and, Bool.or_false, Bool.false_or, Bool.or_true, Bool.true_or, Bool.not_true, Bool.not_false, kO_T, idx_ok (x := .sh (dTs ts)) (k := .sh (.int (k : Int))) (dix_T hkl)]
          · unfold way at hwm; rw [if_neg hk] at hwm; exact hwm)
    fuelW ts.length [some (.sh (dTs ts)), o1, some (.sh (.int (b : Int))), some (.lst [.sh (.int (b : Int))]), some (.sh (dT (nx ts b)))] ⟨[b], nx ts b, .start hjn, rfl, by simp; omega, rfl⟩ (by rw [fuelW_eq]; omega)
  exact ⟨r, hh, hrw, ew⟩
/-- rings_of -/
theorem rings_ok (h : tab 43 = some f43) (n : Nat) {ts : Tops} (ok : Ok ts) (hl : ts.length ≤ 1000) : callF tab gt (n + 1) 43 [dTs ts] = .ok (.lst ((rings ts).map oN)) := by
  rw [callF_go h _ _ rfl]
  have hlen : oBi .len (.ok [O.sh (dTs ts)]) = .ok (.sh (.int (ts.length : Nat))) := by
    have := bf_len (x := .sh (dTs ts)) (ds := ts.map dT) rfl
    rw [this]; simp
  have hrng : oRng (.ok [.sh (.int (ts.length : Nat))]) = .ok ((List.range ts.length).map fun (k : Nat) => .int k, true) := by
    rw [rng1 (by omega) (by omega)]
    simp
  simp -implicitDefEqProofs only [f43, start, List.length_cons, List.length_nil, List.replicate, Nat.sub_self, Nat.reduceAdd, Nat.reduceSub, List.cons_append, List.nil_append, xs_nil, xs_cons, then_nx, then_rt, then_bk, x_asg, oAsg_1, oAsg_t2, oAsg_s2, x_ret, oRet_ok, x_ite, oIte_t, oIte_f, x_pass, x_brk, kO_int, kO_bool, kO_none, kO_str, o_var, o_con, o_bin, o_neg, o_cmp, o_chain, o_not, o_and, o_or, o_idx, o_cut, o_call, o_bi, o_mt, o_isi, o_comp, o_dnew, os_nil, os_cons, oSeq_ok, oPre_ok, o_lst, o_tup, oLst_0, oLst_1, oLst_2, oLst_3, oTup_2, oTup_3, e_var, e_mv, oVar_some, e_con, e_bin, bin_add, bin_sub, bin_xor, e_neg, oNeg_ok, e_cmp, cmp_lt, cmp_le, cmp_gt, cmp_ge, cmp_eqI, cmp_neI, dec_N, cmp_isN_int, cmp_isN_none, cmp_notN_int, cmp_notN_none, e_chain, chain_lelt, e_not, oNot_ok, oB_ok, e_and, e_or, a_nil, a_cons, r_nil, r_cons, oAnd_f, oAnd_t, oAnd_ok, oOr_f, oOr_t, oOr_ok, e_idx, e_cut, part_t, part_f, s_nil, s_cons, oCons_ok, e_lst, e_tup, oL_0, oL_1, oL_2, oL_3, oL_4, oT_2, oT_3, okB_bind, e_call, oCall_ok, e_calld, oCalld_ok, o_calld, e_revl, o_revl, e_bi, e_mt, e_isi, oIsi_1, e_lset, i_ls, i_rng, oFor_t, oFor_f, x_for, step_1, step_2, fin_rt, isNul, eEnv, List.map_cons, List.map_nil, Option.map_some, Option.map_none, er, ers, getS, setS, Bool.and_true, Bool.true_and, Bool.and_false, Bool.false_and, Bool.or_false, Bool.false_or, Bool.or_true, Bool.true_or, Bool.not_true, Bool.not_false, hlen, hrng]
  generalize hb : stepF (callO tab gt n) gt [2] _ = body
  obtain ⟨Γ', e, hR⟩ := forL_rel (f := body) (fun (k : Nat) => PyData.int k) (fun i Γ => ∃ a b c, Γ = [some (.sh (dTs ts)), some (.lst ((((List.range i).filter (hd ts)).map (ring ts)).map oN)), a, b, c]) (List.range ts.length) 0 [some (.sh (dTs ts)), some (.lst []), none, none, none] ⟨none, none, none, rfl⟩ (by
    rintro j Γ b hj ⟨s2, s3, s4, rfl⟩
    obtain ⟨rfl, hjn⟩ := range_at hj
    simp -implicitDefEqProofs only [Nat.zero_add]
    subst hb
    simp -implicitDefEqProofs only [xs_nil, xs_cons, then_nx, then_rt, then_bk, x_asg, oAsg_1, oAsg_t2, oAsg_s2, x_ret, oRet_ok, x_ite, oIte_t, oIte_f, x_pass, x_brk, kO_int, kO_bool, kO_none, kO_str, o_var, o_con, o_bin, o_neg, o_cmp, o_chain, o_not, o_and, o_or, o_idx, o_cut, o_call, o_bi, o_mt, o_isi, o_comp, o_dnew, os_nil, os_cons, oSeq_ok, oPre_ok, o_lst, o_tup, oLst_0, oLst_1, oLst_2, oLst_3, oTup_2, oTup_3, e_var, e_mv, oVar_some, e_con, e_bin, bin_add, bin_sub, bin_xor, e_neg, oNeg_ok, e_cmp, cmp_lt, cmp_le, cmp_gt, cmp_ge, cmp_eqI, cmp_neI, dec_N, cmp_isN_int, cmp_isN_none, cmp_notN_int, cmp_notN_none, e_chain, chain_lelt, e_not, oNot_ok, oB_ok, e_and, e_or, a_nil, a_cons, r_nil, r_cons, oAnd_f, oAnd_t, oAnd_ok, oOr_f, oOr_t, oOr_ok, e_idx, e_cut, part_t, part_f, s_nil, s_cons, oCons_ok, e_lst, e_tup, oL_0, oL_1, oL_2, oL_3, oL_4, oT_2, oT_3, okB_bind, e_call, oCall_ok, e_calld, oCalld_ok, o_calld, e_revl, o_revl, e_bi, e_mt, e_isi, oIsi_1, e_lset, i_ls, i_rng, oFor_t, oFor_f, x_for, step_1, step_2, fin_rt, isNul, eEnv, List.map_cons, List.map_nil, Option.map_some, Option.map_none, er, ers, getS, setS, Bool.and_true, Bool.true_and, Bool.and_false, Bool.false_and, Bool.or_false, Bool.false_or, Bool.or_true, Bool.true_or, Bool.not_true, Bool.not_false, kO_T, idx_ok (x := .sh (dTs ts)) (k := .sh (.int (b : Int))) (dix_T hjn)]
    have w := walk_ok ok hjn
    -- the way
    obtain ⟨r, hh, hrw, ew⟩ := way_loop (gt := gt) ok hl hjn (callO tab gt n) (some (.lst ((((List.range b).filter (hd ts)).map (ring ts)).map oN)))
    rw [x_whl, ew]
    have hr : r = ring ts b := by unfold ring; rw [← hrw]
    have hne : r ≠ [] := by rw [hr]; exact fun z => ring_pos ok hjn (by rw [z]; rfl)
    obtain ⟨m, hm1, hm2, hm3⟩ := min_N (x := .sh (dN r)) (l := r) rfl hne
    have hbr : b ∈ r := by
      have w1 := w.1
      rw [← hrw] at w1
      have h0 : 0 < r.length := List.length_pos_iff.mpr hne
      have e0 := w1.at_ 0 _ (List.getElem?_eq_getElem h0)
      simp -implicitDefEqProofs only [it, Option.some.injEq] at e0
      rw [e0]; exact List.getElem_mem h0
    have hcy : decide (hh = some b) = cyc ts b := by unfold cyc; rw [← hrw]
    have hmin : decide (m = b) = (ring ts b).all fun x => decide (b ≤ x) := by
      rw [← hr]
      by_cases hmb : m = b
      · subst hmb
        rw [decide_eq_true rfl]
        symm
        exact List.all_eq_true.mpr fun x hx => decide_eq_true (hm2 x hx)
      · rw [decide_eq_false hmb]
        symm
        have hlt := hm2 b hbr
        exact List.all_eq_false.mpr ⟨m, hm1, by simp; omega⟩
    have hcmp : oCmp .eq (.ok (.sh (.int (m : Int)))) (.ok (.sh (.int (b : Int)))) = .ok (.sh (.bool (decide (m = b)))) := by
      rw [cmp_eqI]
      by_cases hmb : m = b
      · subst hmb; simp
      · have : ¬ ((m : Int) = b) := by omega
        simp [hmb, this]
    have hrange : (List.range (b + 1)).filter (hd ts) = (List.range b).filter (hd ts) ++ if hd ts b then [b] else [] := by
      rw [List.range_succ, List.filter_append]
      rw [List.filter_cons, List.filter_nil]
    simp -implicitDefEqProofs only [xs_nil, xs_cons, then_nx, then_rt, then_bk, x_asg, oAsg_1, oAsg_t2, oAsg_s2, x_ret, oRet_ok, x_ite, oIte_t, oIte_f, x_pass, x_brk, kO_int, kO_bool, kO_none, kO_str, o_var, o_con, o_bin, o_neg, o_cmp, o_chain, o_not, o_and, o_or, o_idx, o_cut, o_call, o_bi, o_mt, o_isi, o_comp, o_dnew, os_nil, os_cons, oSeq_ok, oPre_ok, o_lst, o_tup, oLst_0, oLst_1, oLst_2, oLst_3, oTup_2, oTup_3, e_var, e_mv, oVar_some, e_con, e_bin, bin_add, bin_sub, bin_xor, e_neg, oNeg_ok, e_cmp, cmp_lt, cmp_le, cmp_gt, cmp_ge, cmp_eqI, cmp_neI, dec_N, cmp_isN_int, cmp_isN_none, cmp_notN_int, cmp_notN_none, e_chain, chain_lelt, e_not, oNot_ok, oB_ok, e_and, e_or, a_nil, a_cons, r_nil, r_cons, oAnd_f, oAnd_t, oAnd_ok, oOr_f, oOr_t, oOr_ok, e_idx, e_cut, part_t, part_f, s_nil, s_cons, oCons_ok, e_lst, e_tup, oL_0, oL_1, oL_2, oL_3, oL_4, oT_2, oT_3, okB_bind, e_call, oCall_ok, e_calld, oCalld_ok, o_calld, e_revl, o_revl, e_bi, e_mt, e_isi, oIsi_1, e_lset, i_ls, i_rng, oFor_t, oFor_f, x_for, step_1, step_2, fin_rt, isNul, eEnv, List.map_cons, List.map_nil, Option.map_some, Option.map_none, er, ers, getS, setS, Bool.and_true, Bool.true_and, Bool.and_false, Bool.false_and, Bool.or_false, Bool.false_or, Bool.or_true, Bool.true_or, Bool.not_true, Bool.not_false, er_oN, cmp_eqT, hm3, hcmp, hcy, hmin]
    rw [show (cyc ts b && (ring ts b).all fun x => decide (b ≤ x)) = hd ts b from rfl, hrange]
    cases hhd : hd ts b with
    | false =>
      simp -implicitDefEqProofs only [xs_nil, xs_cons, then_nx, then_rt, then_bk, x_asg, oAsg_1, oAsg_t2, oAsg_s2, x_ret, oRet_ok, x_ite, oIte_t, oIte_f, x_pass, x_brk, kO_int, kO_bool, kO_none, kO_str, o_var, o_con, o_bin, o_neg, o_cmp, o_chain, o_not, o_and, o_or, o_idx, o_cut, o_call, o_bi, o_mt, o_isi, o_comp, o_dnew, os_nil, os_cons, oSeq_ok, oPre_ok, o_lst, o_tup, oLst_0, oLst_1, oLst_2, oLst_3, oTup_2, oTup_3, e_var, e_mv, oVar_some, e_con, e_bin, bin_add, bin_sub, bin_xor, e_neg, oNeg_ok, e_cmp, cmp_lt, cmp_le, cmp_gt, cmp_ge, cmp_eqI, cmp_neI, dec_N, cmp_isN_int, cmp_isN_none, cmp_notN_int, cmp_notN_none, e_chain, chain_lelt, e_not, oNot_ok, oB_ok, e_and, e_or, a_nil, a_cons, r_nil, r_cons, oAnd_f, oAnd_t, oAnd_ok, oOr_f, oOr_t, oOr_ok, e_idx, e_cut, part_t, part_f, s_nil, s_cons, oCons_ok, e_lst, e_tup, oL_0, oL_1, oL_2, oL_3, oL_4, oT_2, oT_3, okB_bind, e_call, oCall_ok, e_calld, oCalld_ok, o_calld, e_revl, o_revl, e_bi, e_mt, e_isi, oIsi_1, e_lset, i_ls, i_rng, oFor_t, oFor_f, x_for, step_1, step_2, fin_rt, isNul, eEnv, List.map_cons, List.map_nil, Option.map_some, Option.map_none, er, ers, getS, setS, Bool.and_true, Bool.true_and, Bool.and_false, Bool.false_and, Bool.or_false, Bool.false_or, Bool.or_true, Bool.true_or, Bool.not_true, Bool.not_false]
      refine ⟨_, rfl, some (.sh (.int (b : Int))), some (oN r), some (.sh (dT hh)), ?_⟩
      simp -implicitDefEqProofs only [Bool.false_eq_true, if_false, List.append_nil]
    | true =>
      have hz : ((((List.range b).filter (hd ts)).map (ring ts)).map oN).length < sizeLine := by
        rw [List.length_map, List.length_map]
        have := List.length_filter_le (hd ts) (List.range b)
        rw [List.length_range] at this
        rw [sizeLine_eq]; omega
      simp -implicitDefEqProofs only [oIte_t]
      rw [xs_cons, x_mut0 (by decide) 1 _ (os := ((((List.range b).filter (hd ts)).map (ring ts)).map oN)) rfl]
      simp -implicitDefEqProofs only [xs_nil, xs_cons, then_nx, then_rt, then_bk, x_asg, oAsg_1, oAsg_t2, oAsg_s2, x_ret, oRet_ok, x_ite, oIte_t, oIte_f, x_pass, x_brk, kO_int, kO_bool, kO_none, kO_str, o_var, o_con, o_bin, o_neg, o_cmp, o_chain, o_not, o_and, o_or, o_idx, o_cut, o_call, o_bi, o_mt, o_isi, o_comp, o_dnew, os_nil, os_cons, oSeq_ok, oPre_ok, o_lst, o_tup, oLst_0, oLst_1, oLst_2, oLst_3, oTup_2, oTup_3, e_var, e_mv, oVar_some, e_con, e_bin, bin_add, bin_sub, bin_xor, e_neg, oNeg_ok, e_cmp, cmp_lt, cmp_le, cmp_gt, cmp_ge, cmp_eqI, cmp_neI, dec_N, cmp_isN_int, cmp_isN_none, cmp_notN_int, cmp_notN_none, e_chain, chain_lelt, e_not, oNot_ok, oB_ok, e_and, e_or, a_nil, a_cons, r_nil, r_cons, oAnd_f, oAnd_t, oAnd_ok, oOr_f, oOr_t, oOr_ok, e_idx, e_cut, part_t, part_f, s_nil, s_cons, oCons_ok, e_lst, e_tup, oL_0, oL_1, oL_2, oL_3, oL_4, oT_2, oT_3, okB_bind, e_call, oCall_ok, e_calld, oCalld_ok, o_calld, e_revl, o_revl, e_bi, e_mt, e_isi, oIsi_1, e_lset, i_ls, i_rng, oFor_t, oFor_f, x_for, step_1, step_2, fin_rt, isNul, eEnv, List.map_cons, List.map_nil, Option.map_some, Option.map_none, er, ers, getS, setS, Bool.and_true, Bool.true_and, Bool.and_false, Bool.false_and, Bool.or_false, Bool.false_or, Bool.or_true, Bool.true_or, Bool.not_true, Bool.not_false]
      rw [o_mv_lst (i := 3) (os := r.map fun (k : Nat) => O.sh (.int (k : Int))) rfl]
      simp -implicitDefEqProofs only [xs_nil, xs_cons, then_nx, then_rt, then_bk, x_asg, oAsg_1, oAsg_t2, oAsg_s2, x_ret, oRet_ok, x_ite, oIte_t, oIte_f, x_pass, x_brk, kO_int, kO_bool, kO_none, kO_str, o_var, o_con, o_bin, o_neg, o_cmp, o_chain, o_not, o_and, o_or, o_idx, o_cut, o_call, o_bi, o_mt, o_isi, o_comp, o_dnew, os_nil, os_cons, oSeq_ok, oPre_ok, o_lst, o_tup, oLst_0, oLst_1, oLst_2, oLst_3, oTup_2, oTup_3, e_var, e_mv, oVar_some, e_con, e_bin, bin_add, bin_sub, bin_xor, e_neg, oNeg_ok, e_cmp, cmp_lt, cmp_le, cmp_gt, cmp_ge, cmp_eqI, cmp_neI, dec_N, cmp_isN_int, cmp_isN_none, cmp_notN_int, cmp_notN_none, e_chain, chain_lelt, e_not, oNot_ok, oB_ok, e_and, e_or, a_nil, a_cons, r_nil, r_cons, oAnd_f, oAnd_t, oAnd_ok, oOr_f, oOr_t, oOr_ok, e_idx, e_cut, part_t, part_f, s_nil, s_cons, oCons_ok, e_lst, e_tup, oL_0, oL_1, oL_2, oL_3, oL_4, oT_2, oT_3, okB_bind, e_call, oCall_ok, e_calld, oCalld_ok, o_calld, e_revl, o_revl, e_bi, e_mt, e_isi, oIsi_1, e_lset, i_ls, i_rng, oFor_t, oFor_f, x_for, step_1, step_2, fin_rt, isNul, eEnv, List.map_cons, List.map_nil, Option.map_some, Option.map_none, er, ers, getS, setS, Bool.and_true, Bool.true_and, Bool.and_false, Bool.false_and, Bool.or_false, Bool.false_or, Bool.or_true, Bool.true_or, Bool.not_true, Bool.not_false]
      rw [oMut_app0 (os := ((((List.range b).filter (hd ts)).map (ring ts)).map oN)) rfl hz]
      simp -implicitDefEqProofs only [xs_nil, xs_cons, then_nx, then_rt, then_bk, x_asg, oAsg_1, oAsg_t2, oAsg_s2, x_ret, oRet_ok, x_ite, oIte_t, oIte_f, x_pass, x_brk, kO_int, kO_bool, kO_none, kO_str, o_var, o_con, o_bin, o_neg, o_cmp, o_chain, o_not, o_and, o_or, o_idx, o_cut, o_call, o_bi, o_mt, o_isi, o_comp, o_dnew, os_nil, os_cons, oSeq_ok, oPre_ok, o_lst, o_tup, oLst_0, oLst_1, oLst_2, oLst_3, oTup_2, oTup_3, e_var, e_mv, oVar_some, e_con, e_bin, bin_add, bin_sub, bin_xor, e_neg, oNeg_ok, e_cmp, cmp_lt, cmp_le, cmp_gt, cmp_ge, cmp_eqI, cmp_neI, dec_N, cmp_isN_int, cmp_isN_none, cmp_notN_int, cmp_notN_none, e_chain, chain_lelt, e_not, oNot_ok, oB_ok, e_and, e_or, a_nil, a_cons, r_nil, r_cons, oAnd_f, oAnd_t, oAnd_ok, oOr_f, oOr_t, oOr_ok, e_idx, e_cut, part_t, part_f, s_nil, s_cons, oCons_ok, e_lst, e_tup, oL_0, oL_1, oL_2, oL_3, oL_4, oT_2, oT_3, okB_bind, e_call, oCall_ok, e_calld, oCalld_ok, o_calld, e_revl, o_revl, e_bi, e_mt, e_isi, oIsi_1, e_lset, i_ls, i_rng, oFor_t, oFor_f, x_for, step_1, step_2, fin_rt, isNul, eEnv, List.map_cons, List.map_nil, Option.map_some, Option.map_none, er, ers, getS, setS, Bool.and_true, Bool.true_and, Bool.and_false, Bool.false_and, Bool.or_false, Bool.false_or, Bool.or_true, Bool.true_or, Bool.not_true, Bool.not_false]
      refine ⟨_, rfl, some (.sh (.int (b : Int))), none, some (.sh (dT hh)), ?_⟩
      simp -implicitDefEqProofs only [if_true, List.map_append, List.map_cons, List.map_nil, hr]
      rfl)
  obtain ⟨a, b, c, rfl⟩ := hR
  rw [e]
  simp -implicitDefEqProofs only [then_nx, xs_cons, x_ret, Nat.zero_add, List.length_range]
  rw [o_mv_lst (i := 1) rfl]
  simp -implicitDefEqProofs only [xs_nil, xs_cons, then_nx, then_rt, then_bk, x_asg, oAsg_1, oAsg_t2, oAsg_s2, x_ret, oRet_ok, x_ite, oIte_t, oIte_f, x_pass, x_brk, kO_int, kO_bool, kO_none, kO_str, o_var, o_con, o_bin, o_neg, o_cmp, o_chain, o_not, o_and, o_or, o_idx, o_cut, o_call, o_bi, o_mt, o_isi, o_comp, o_dnew, os_nil, os_cons, oSeq_ok, oPre_ok, o_lst, o_tup, oLst_0, oLst_1, oLst_2, oLst_3, oTup_2, oTup_3, e_var, e_mv, oVar_some, e_con, e_bin, bin_add, bin_sub, bin_xor, e_neg, oNeg_ok, e_cmp, cmp_lt, cmp_le, cmp_gt, cmp_ge, cmp_eqI, cmp_neI, dec_N, cmp_isN_int, cmp_isN_none, cmp_notN_int, cmp_notN_none, e_chain, chain_lelt, e_not, oNot_ok, oB_ok, e_and, e_or, a_nil, a_cons, r_nil, r_cons, oAnd_f, oAnd_t, oAnd_ok, oOr_f, oOr_t, oOr_ok, e_idx, e_cut, part_t, part_f, s_nil, s_cons, oCons_ok, e_lst, e_tup, oL_0, oL_1, oL_2, oL_3, oL_4, oT_2, oT_3, okB_bind, e_call, oCall_ok, e_calld, oCalld_ok, o_calld, e_revl, o_revl, e_bi, e_mt, e_isi, oIsi_1, e_lset, i_ls, i_rng, oFor_t, oFor_f, x_for, step_1, step_2, fin_rt, isNul, eEnv, List.map_cons, List.map_nil, Option.map_some, Option.map_none, er, ers, getS, setS, Bool.and_true, Bool.true_and, Bool.and_false, Bool.false_and, Bool.or_false, Bool.false_or, Bool.or_true, Bool.true_or, Bool.not_true, Bool.not_false]
  rfl
end
end Rp

set_option Elab.async false
set_option linter.all false
set_option maxRecDepth 100000
set_option maxHeartbeats 4000000
/-! RpK12: the law's own functions about rings. -/
namespace Rp
open PySem Rp.T Rg

theorem eqv_self {d : D} (h : PySem.W.alike d d = true) : PyData.eqv d d = true := PySem.W.eqv_refl_alike d h
theorem alike_ints (l : List Nat) : PySem.W.alikeAll (l.map fun (k : Nat) => PyData.int k) (l.map fun (k : Nat) => PyData.int k) = true := by
  induction l with
  | nil => simp [PySem.W.alikeAll]
  | cons k l ih => simp [PySem.W.alikeAll, PySem.W.alike, ih]
theorem eqv_N (l : List Nat) : PyData.eqv (dN l) (dN l) = true := eqv_self (by simp -implicitDefEqProofs only [dN, PySem.W.alike]; exact alike_ints l)
theorem cmp_eqN {x y : O} {l : List Nat} (hx : er x = dN l) (hy : er y = dN l) : oCmp .eq (.ok x) (.ok y) = .ok (.sh (.bool true)) := by
  refine cmp_ok ?_
  rw [hx, hy]
  simp -implicitDefEqProofs only [cop, sh_N, Bool.and_self, if_true, eqv_N]
theorem sh_nil : shaped (.list []) = true := by simp [shaped, SeqAt.shaped, PyData.canLay0, PyData.canLayAll0, PyData.depth, PyData.depthAll]
theorem eqv_nil (l : List Nat) : PyData.eqv (dN l) (.list []) = decide (l = []) := by
  cases l with
  | nil => simp [dN, PyData.eqv, PyData.eqvAll]
  | cons a l => simp [dN, PyData.eqv, PyData.eqvAll]
theorem cmp_eq_nil {x y : O} {l : List Nat} (hx : er x = dN l) (hy : er y = .list []) : oCmp .eq (.ok x) (.ok y) = .ok (.sh (.bool (decide (l = [])))) := by
  refine cmp_ok ?_
  rw [hx, hy]
  simp -implicitDefEqProofs only [cop, sh_N, sh_nil, Bool.and_self, if_true, eqv_nil]
theorem cmp_ne_nil {x y : O} {l : List Nat} (hx : er x = dN l) (hy : er y = .list []) : oCmp .ne (.ok x) (.ok y) = .ok (.sh (.bool (!decide (l = [])))) := by
  refine cmp_ok ?_
  rw [hx, hy]
  simp -implicitDefEqProofs only [cop, sh_N, sh_nil, Bool.and_self, if_true, eqv_nil]
theorem cmp_neN (i j : Nat) : oCmp .ne (.ok (.sh (.int (i : Int)))) (.ok (.sh (.int (j : Int)))) = .ok (.sh (.bool (!decide (i = j)))) := by
  rw [cmp_neI]
  by_cases h : i = j
  · subst h; simp
  · have : ¬ ((i : Int) = j) := by omega
    simp [h, this]
section
variable {tab : Tab} {gt : Nat → Option D} {Γ : En}
theorem whole_ok (h : tab 8 = some f8) (n : Nat) (k : Int) : callF tab gt (n + 1) 8 [.int k] = .ok (.sh (.bool true)) := by
  rw [callF_go h _ _ rfl]
  simp -implicitDefEqProofs only [f8, start, List.length_cons, List.length_nil, List.replicate, Nat.sub_self, Nat.reduceAdd, Nat.reduceSub, List.cons_append, List.nil_append, xs_nil, xs_cons, then_nx, then_rt, then_bk, x_asg, oAsg_1, oAsg_t2, oAsg_s2, x_ret, oRet_ok, x_ite, oIte_t, oIte_f, x_pass, x_brk, kO_int, kO_bool, kO_none, kO_str, o_var, o_con, o_bin, o_neg, o_cmp, o_chain, o_not, o_and, o_or, o_idx, o_cut, o_call, o_bi, o_mt, o_isi, o_comp, o_dnew, os_nil, os_cons, oSeq_ok, oPre_ok, o_lst, o_tup, oLst_0, oLst_1, oLst_2, oLst_3, oTup_2, oTup_3, e_var, e_mv, oVar_some, e_con, e_bin, bin_add, bin_sub, bin_xor, e_neg, oNeg_ok, e_cmp, cmp_lt, cmp_le, cmp_gt, cmp_ge, cmp_eqI, cmp_neI, dec_N, cmp_isN_int, cmp_isN_none, cmp_notN_int, cmp_notN_none, e_chain, chain_lelt, e_not, oNot_ok, oB_ok, e_and, e_or, a_nil, a_cons, r_nil, r_cons, oAnd_f, oAnd_t, oAnd_ok, oOr_f, oOr_t, oOr_ok, e_idx, e_cut, part_t, part_f, s_nil, s_cons, oCons_ok, e_lst, e_tup, oL_0, oL_1, oL_2, oL_3, oL_4, oT_2, oT_3, okB_bind, e_call, oCall_ok, e_calld, oCalld_ok, o_calld, e_revl, o_revl, e_bi, e_mt, e_isi, oIsi_1, e_lset, i_ls, i_rng, oFor_t, oFor_f, x_for, step_1, step_2, fin_rt, isNul, eEnv, List.map_cons, List.map_nil, Option.map_some, Option.map_none, er, ers, getS, setS, Bool.and_true, Bool.true_and, Bool.and_false, Bool.false_and, Bool.or_false, Bool.false_or, Bool.or_true, Bool.true_or, Bool.not_true, Bool.not_false, isTy]
/-! on a ring -/
def onStep (ts : Tops) (p : Nat) (h : Option Nat) : Option Nat := if h.isSome ∧ h ≠ some p then h.bind (nx ts) else h
def onGo (ts : Tops) (p : Nat) : Nat → Option Nat
  | 0 => nx ts p
  | j + 1 => onStep ts p (onGo ts p j)
theorem onGo_or (ts : Tops) (p : Nat) : ∀ j, (onGo ts p j = some p ∧ ∃ i, 1 ≤ i ∧ i ≤ j + 1 ∧ it ts i (some p) = some p) ∨ (onGo ts p j = it ts (j + 1) (some p) ∧ ∀ i, 1 ≤ i → i ≤ j + 1 → it ts i (some p) ≠ some p)
  | 0 => by
    by_cases h : nx ts p = some p
    · exact .inl ⟨h, 1, Nat.le_refl _, Nat.le_refl _, h⟩
    · refine .inr ⟨rfl, fun i h1 h2 => ?_⟩
      have : i = 1 := by omega
      subst this
      exact h
  | j + 1 => by
    rcases onGo_or ts p j with ⟨h1, i, h2, h3, h4⟩ | ⟨h1, h2⟩
    · exact .inl ⟨by simp [onGo, onStep, h1], i, h2, by omega, h4⟩
    · have hne : onGo ts p j ≠ some p := by rw [h1]; exact h2 (j + 1) (by omega) (Nat.le_refl _)
      have e : onGo ts p (j + 1) = it ts (j + 2) (some p) := by
        show onStep ts p (onGo ts p j) = (it ts (j + 1) (some p)).bind (nx ts)
        rw [← h1]
        unfold onStep
        cases hg : onGo ts p j with
        | none => simp
        | some k => rw [hg] at hne; simp [hne]
      by_cases hp : it ts (j + 2) (some p) = some p
      · exact .inl ⟨by rw [e]; exact hp, j + 2, by omega, by omega, hp⟩
      · refine .inr ⟨e, fun i q1 q2 => ?_⟩
        by_cases hi : i ≤ j + 1
        · exact h2 i q1 hi
        · have : i = j + 2 := by omega
          subst this; exact hp
theorem onGo_cyc {ts : Tops} (ok : Ok ts) {p : Nat} (hp : p < ts.length) : decide (onGo ts p ts.length = some p) = cyc ts p := by
  cases hc : cyc ts p with
  | true =>
    obtain ⟨w, d⟩ := walk_ok ok hp
    have e : it ts (ring ts p).length (some p) = some p := by
      have := w.end_
      unfold cyc at hc
      rw [decide_eq_true_eq] at hc
      rw [hc] at this
      exact this.symm
    have hl := nodup_le w.nd w.lt
    have hpos := ring_pos ok hp
    rcases onGo_or ts p ts.length with ⟨h1, _⟩ | ⟨_, h2⟩
    · rw [h1]; simp
    · exact absurd e (h2 _ (by omega) (by show (ring ts p).length ≤ _; unfold ring; omega))
  | false =>
    rcases onGo_or ts p ts.length with ⟨h1, i, q1, q2, q3⟩ | ⟨h1, h2⟩
    · have := (cyc_iff ok hp).mpr ⟨i, q1, q3⟩
      rw [hc] at this; cases this
    · rw [h1]
      exact decide_eq_false (h2 _ (by omega) (Nat.le_refl _))
theorem len_T (ts : Tops) : oBi .len (.ok [O.sh (dTs ts)]) = .ok (.sh (.int (ts.length : Nat))) := by
  have := bf_len (x := .sh (dTs ts)) (ds := ts.map dT) rfl
  rw [this]; simp
theorem rng_n {m : Nat} (h : m ≤ 1000000) : oRng (.ok [.sh (.int (m : Nat))]) = .ok ((List.range m).map fun (k : Nat) => .int k, true) := by
  rw [rng1 (by omega) (by omega)]
  simp
theorem on_ok (h : tab 45 = some f45) (n : Nat) {ts : Tops} (ok : Ok ts) (hl : ts.length ≤ 1000) {p : Nat} (hp : p < ts.length) : callF tab gt (n + 1) 45 [dTs ts, .int (p : Int)] = .ok (.sh (.bool (cyc ts p))) := by
  rw [callF_go h _ _ rfl]
  simp -implicitDefEqProofs only [f45, start, List.length_cons, List.length_nil, List.replicate, Nat.sub_self, Nat.reduceAdd, Nat.reduceSub, List.cons_append, List.nil_append, xs_nil, xs_cons, then_nx, then_rt, then_bk, x_asg, oAsg_1, oAsg_t2, oAsg_s2, x_ret, oRet_ok, x_ite, oIte_t, oIte_f, x_pass, x_brk, kO_int, kO_bool, kO_none, kO_str, o_var, o_con, o_bin, o_neg, o_cmp, o_chain, o_not, o_and, o_or, o_idx, o_cut, o_call, o_bi, o_mt, o_isi, o_comp, o_dnew, os_nil, os_cons, oSeq_ok, oPre_ok, o_lst, o_tup, oLst_0, oLst_1, oLst_2, oLst_3, oTup_2, oTup_3, e_var, e_mv, oVar_some, e_con, e_bin, bin_add, bin_sub, bin_xor, e_neg, oNeg_ok, e_cmp, cmp_lt, cmp_le, cmp_gt, cmp_ge, cmp_eqI, cmp_neI, dec_N, cmp_isN_int, cmp_isN_none, cmp_notN_int, cmp_notN_none, e_chain, chain_lelt, e_not, oNot_ok, oB_ok, e_and, e_or, a_nil, a_cons, r_nil, r_cons, oAnd_f, oAnd_t, oAnd_ok, oOr_f, oOr_t, oOr_ok, e_idx, e_cut, part_t, part_f, s_nil, s_cons, oCons_ok, e_lst, e_tup, oL_0, oL_1, oL_2, oL_3, oL_4, oT_2, oT_3, okB_bind, e_call, oCall_ok, e_calld, oCalld_ok, o_calld, e_revl, o_revl, e_bi, e_mt, e_isi, oIsi_1, e_lset, i_ls, i_rng, oFor_t, oFor_f, x_for, step_1, step_2, fin_rt, isNul, eEnv, List.map_cons, List.map_nil, Option.map_some, Option.map_none, er, ers, getS, setS, Bool.and_true, Bool.true_and, Bool.and_false, Bool.false_and, Bool.or_false, Bool.false_or, Bool.or_true, Bool.true_or, Bool.not_true, Bool.not_false, idx_ok (x := .sh (dTs ts)) (k := .sh (.int (p : Int))) (dix_T hp), kO_T, len_T, rng_n (show ts.length ≤ 1000000 by omega)]
  generalize hb : stepF (callO tab gt n) gt [3] _ = body
  obtain ⟨Γ', e, hR⟩ := forL_rel (f := body) (fun (k : Nat) => PyData.int k) (fun i Γ => ∃ a, Γ = [some (.sh (dTs ts)), some (.sh (.int (p : Int))), some (.sh (dT (onGo ts p i))), a]) (List.range ts.length) 0 [some (.sh (dTs ts)), some (.sh (.int (p : Int))), some (.sh (dT (nx ts p))), none] ⟨none, rfl⟩ (by
    rintro j Γ b hj ⟨s3, rfl⟩
    obtain ⟨rfl, hjn⟩ := range_at hj
    simp -implicitDefEqProofs only [Nat.zero_add]
    subst hb
    have hlt : ∀ k, onGo ts p b = some k → k < ts.length := by
      intro k hk
      rcases onGo_or ts p b with ⟨h1, _⟩ | ⟨h1, _⟩
      · rw [h1] at hk; cases hk; exact hp
      · rw [h1] at hk; exact it_lt ok hp hk
    cases hg : onGo ts p b with
    | none =>
      simp -implicitDefEqProofs only [xs_nil, xs_cons, then_nx, then_rt, then_bk, x_asg, oAsg_1, oAsg_t2, oAsg_s2, x_ret, oRet_ok, x_ite, oIte_t, oIte_f, x_pass, x_brk, kO_int, kO_bool, kO_none, kO_str, o_var, o_con, o_bin, o_neg, o_cmp, o_chain, o_not, o_and, o_or, o_idx, o_cut, o_call, o_bi, o_mt, o_isi, o_comp, o_dnew, os_nil, os_cons, oSeq_ok, oPre_ok, o_lst, o_tup, oLst_0, oLst_1, oLst_2, oLst_3, oTup_2, oTup_3, e_var, e_mv, oVar_some, e_con, e_bin, bin_add, bin_sub, bin_xor, e_neg, oNeg_ok, e_cmp, cmp_lt, cmp_le, cmp_gt, cmp_ge, cmp_eqI, cmp_neI, dec_N, cmp_isN_int, cmp_isN_none, cmp_notN_int, cmp_notN_none, e_chain, chain_lelt, e_not, oNot_ok, oB_ok, e_and, e_or, a_nil, a_cons, r_nil, r_cons, oAnd_f, oAnd_t, oAnd_ok, oOr_f, oOr_t, oOr_ok, e_idx, e_cut, part_t, part_f, s_nil, s_cons, oCons_ok, e_lst, e_tup, oL_0, oL_1, oL_2, oL_3, oL_4, oT_2, oT_3, okB_bind, e_call, oCall_ok, e_calld, oCalld_ok, o_calld, e_revl, o_revl, e_bi, e_mt, e_isi, oIsi_1, e_lset, i_ls, i_rng, oFor_t, oFor_f, x_for, step_1, step_2, fin_rt, isNul, eEnv, List.map_cons, List.map_nil, Option.map_some, Option.map_none, er, ers, getS, setS, Bool.and_true, Bool.true_and, Bool.and_false, Bool.false_and, Bool.or_false, Bool.false_or, Bool.or_true, Bool.true_or, Bool.not_true, Bool.not_false, cmp_notN_T, Option.isSome_none]
      refine ⟨_, rfl, some (.sh (.int (b : Int))), ?_⟩
      simp -implicitDefEqProofs only [onGo, onStep, hg, Option.isSome_none, Bool.false_eq_true, false_and, if_false]
    | some k =>
      simp -implicitDefEqProofs only [xs_nil, xs_cons, then_nx, then_rt, then_bk, x_asg, oAsg_1, oAsg_t2, oAsg_s2, x_ret, oRet_ok, x_ite, oIte_t, oIte_f, x_pass, x_brk, kO_int, kO_bool, kO_none, kO_str, o_var, o_con, o_bin, o_neg, o_cmp, o_chain, o_not, o_and, o_or, o_idx, o_cut, o_call, o_bi, o_mt, o_isi, o_comp, o_dnew, os_nil, os_cons, oSeq_ok, oPre_ok, o_lst, o_tup, oLst_0, oLst_1, oLst_2, oLst_3, oTup_2, oTup_3, e_var, e_mv, oVar_some, e_con, e_bin, bin_add, bin_sub, bin_xor, e_neg, oNeg_ok, e_cmp, cmp_lt, cmp_le, cmp_gt, cmp_ge, cmp_eqI, cmp_neI, dec_N, cmp_isN_int, cmp_isN_none, cmp_notN_int, cmp_notN_none, e_chain, chain_lelt, e_not, oNot_ok, oB_ok, e_and, e_or, a_nil, a_cons, r_nil, r_cons, oAnd_f, oAnd_t, oAnd_ok, oOr_f, oOr_t, oOr_ok, e_idx, e_cut, part_t, part_f, s_nil, s_cons, oCons_ok, e_lst, e_tup, oL_0, oL_1, oL_2, oL_3, oL_4, oT_2, oT_3, okB_bind, e_call, oCall_ok, e_calld, oCalld_ok, o_calld, e_revl, o_revl, e_bi, e_mt, e_isi, oIsi_1, e_lset, i_ls, i_rng, oFor_t, oFor_f, x_for, step_1, step_2, fin_rt, isNul, eEnv, List.map_cons, List.map_nil, Option.map_some, Option.map_none, er, ers, getS, setS, Bool.and_true, Bool.true_and, Bool.and_false, Bool.false_and, Bool.or_false, Bool.false_or, Bool.or_true, Bool.true_or, Bool.not_true, Bool.not_false, dT_some, cmp_notN_int, cmp_neN]
      by_cases hk : k = p
      · simp -implicitDefEqProofs only [hk, decide_true, Bool.not_true, xs_nil, xs_cons, then_nx, then_rt, then_bk, x_asg, oAsg_1, oAsg_t2, oAsg_s2, x_ret, oRet_ok, x_ite, oIte_t, oIte_f, x_pass, x_brk, kO_int, kO_bool, kO_none, kO_str, o_var, o_con, o_bin, o_neg, o_cmp, o_chain, o_not, o_and, o_or, o_idx, o_cut, o_call, o_bi, o_mt, o_isi, o_comp, o_dnew, os_nil, os_cons, oSeq_ok, oPre_ok, o_lst, o_tup, oLst_0, oLst_1, oLst_2, oLst_3, oTup_2, oTup_3, e_var, e_mv, oVar_some, e_con, e_bin, bin_add, bin_sub, bin_xor, e_neg, oNeg_ok, e_cmp, cmp_lt, cmp_le, cmp_gt, cmp_ge, cmp_eqI, cmp_neI, dec_N, cmp_isN_int, cmp_isN_none, cmp_notN_int, cmp_notN_none, e_chain, chain_lelt, e_not, oNot_ok, oB_ok, e_and, e_or, a_nil, a_cons, r_nil, r_cons, oAnd_f, oAnd_t, oAnd_ok, oOr_f, oOr_t, oOr_ok, e_idx, e_cut, part_t, part_f, s_nil, s_cons, oCons_ok, e_lst, e_tup, oL_0, oL_1, oL_2, oL_3, oL_4, oT_2, oT_3, okB_bind, e_call, oCall_ok, e_calld, oCalld_ok, o_calld, e_revl, o_revl, e_bi, e_mt, e_isi, oIsi_1, e_lset, i_ls, i_rng, oFor_t, oFor_f, x_for, step_1, step_2, fin_rt, isNul, eEnv, List.map_cons, List.map_nil, Option.map_some, Option.map_none, er, ers, getS, setS, Bool.and_true, Bool.true_and, Bool.and_false, Bool.false_and, Bool.or_false, Bool.false_or, Bool.or_true, Bool.true_or, Bool.not_true, Bool.not_false]
        refine ⟨_, rfl, some (.sh (.int (b : Int))), ?_⟩
        simp [onGo, onStep, hg, hk, dT]
      · simp -implicitDefEqProofs only [hk, decide_false, Bool.not_false, xs_nil, xs_cons, then_nx, then_rt, then_bk, x_asg, oAsg_1, oAsg_t2, oAsg_s2, x_ret, oRet_ok, x_ite, oIte_t, oIte_f, x_pass, x_brk, kO_int, kO_bool, kO_none, kO_str, o_var, o_con, o_bin, o_neg, o_cmp, o_chain, o_not, o_and, o_or, o_idx, o_cut, o_call, o_bi, o_mt, o_isi, o_comp, o_dnew, os_nil, os_cons, oSeq_ok, oPre_ok, o_lst, o_tup, oLst_0, oLst_1, oLst_2, oLst_3, oTup_2, oTup_3, e_var, e_mv, oVar_some, e_con, e_bin, bin_add, bin_sub, bin_xor, e_neg, oNeg_ok, e_cmp, cmp_lt, cmp_le, cmp_gt, cmp_ge, cmp_eqI, cmp_neI, dec_N, cmp_isN_int, cmp_isN_none, cmp_notN_int, cmp_notN_none, e_chain, chain_lelt, e_not, oNot_ok, oB_ok, e_and, e_or, a_nil, a_cons, r_nil, r_cons, oAnd_f, oAnd_t, oAnd_ok, oOr_f, oOr_t, oOr_ok, e_idx, e_cut, part_t, part_f, s_nil, s_cons, oCons_ok, e_lst, e_tup, oL_0, oL_1, oL_2, oL_3, oL_4, oT_2, oT_3, okB_bind, e_call, oCall_ok, e_calld, oCalld_ok, o_calld, e_revl, o_revl, e_bi, e_mt, e_isi, oIsi_1, e_lset, i_ls, i_rng, oFor_t, oFor_f, x_for, step_1, step_2, fin_rt, isNul, eEnv, List.map_cons, List.map_nil, Option.map_some, Option.map_none, er, ers, getS, setS, Bool.and_true, Bool.true_and, Bool.and_false, Bool.false_and, Bool.or_false, Bool.false_or, Bool.or_true, Bool.true_or, Bool.not_true, Bool.not_false, idx_ok (x := .sh (dTs ts)) (k := .sh (.int (k : Int))) (dix_T (hlt k hg)), kO_T]
        refine ⟨_, rfl, some (.sh (.int (b : Int))), ?_⟩
        simp [onGo, onStep, hg, hk])
  obtain ⟨a, rfl⟩ := hR
  rw [e]
  simp -implicitDefEqProofs only [Nat.zero_add, List.length_range, xs_nil, xs_cons, then_nx, then_rt, then_bk, x_asg, oAsg_1, oAsg_t2, oAsg_s2, x_ret, oRet_ok, x_ite, oIte_t, oIte_f, x_pass, x_brk, kO_int, kO_bool, kO_none, kO_str, o_var, o_con, o_bin, o_neg, o_cmp, o_chain, o_not, o_and, o_or, o_idx, o_cut, o_call, o_bi, o_mt, o_isi, o_comp, o_dnew, os_nil, os_cons, oSeq_ok, oPre_ok, o_lst, o_tup, oLst_0, oLst_1, oLst_2, oLst_3, oTup_2, oTup_3, e_var, e_mv, oVar_some, e_con, e_bin, bin_add, bin_sub, bin_xor, e_neg, oNeg_ok, e_cmp, cmp_lt, cmp_le, cmp_gt, cmp_ge, cmp_eqI, cmp_neI, dec_N, cmp_isN_int, cmp_isN_none, cmp_notN_int, cmp_notN_none, e_chain, chain_lelt, e_not, oNot_ok, oB_ok, e_and, e_or, a_nil, a_cons, r_nil, r_cons, oAnd_f, oAnd_t, oAnd_ok, oOr_f, oOr_t, oOr_ok, e_idx, e_cut, part_t, part_f, s_nil, s_cons, oCons_ok, e_lst, e_tup, oL_0, oL_1, oL_2, oL_3, oL_4, oT_2, oT_3, okB_bind, e_call, oCall_ok, e_calld, oCalld_ok, o_calld, e_revl, o_revl, e_bi, e_mt, e_isi, oIsi_1, e_lset, i_ls, i_rng, oFor_t, oFor_f, x_for, step_1, step_2, fin_rt, isNul, eEnv, List.map_cons, List.map_nil, Option.map_some, Option.map_none, er, ers, getS, setS, Bool.and_true, Bool.true_and, Bool.and_false, Bool.false_and, Bool.or_false, Bool.false_or, Bool.or_true, Bool.true_or, Bool.not_true, Bool.not_false, cmp_eqT, onGo_cyc ok hp]
/-! a ring that is told -/
theorem ring_next {ts : Tops} (ok : Ok ts) {p : Nat} (hp : p < ts.length) (hc : cyc ts p = true) : (ring ts p).map (nx ts) = ((ring ts p).drop 1 ++ (ring ts p).take 1).map some := by
  obtain ⟨w, d⟩ := walk_ok ok hp
  have w : Way ts p (ring ts p) (walk ts p).2 := w
  have hpos := ring_pos ok hp
  have e : it ts (ring ts p).length (some p) = some p := by
    have := w.end_
    unfold cyc at hc
    rw [decide_eq_true_eq] at hc
    rw [hc] at this
    exact this.symm
  apply List.ext_getElem?
  intro i
  rw [List.getElem?_map, List.getElem?_map]
  by_cases hi : i < (ring ts p).length
  · have h1 := w.at_ i _ (List.getElem?_eq_getElem hi)
    rw [List.getElem?_eq_getElem hi, Option.map_some]
    have hn : nx ts (ring ts p)[i] = it ts (i + 1) (some p) := by simp [it, h1]
    rw [hn]
    by_cases hi2 : i + 1 < (ring ts p).length
    · have h2 := w.at_ (i + 1) _ (List.getElem?_eq_getElem hi2)
      rw [h2, List.getElem?_append_left (by simp; omega), List.getElem?_drop, Nat.add_comm 1 i, List.getElem?_eq_getElem hi2]
      rfl
    · have hil : i + 1 = (ring ts p).length := by omega
      rw [hil, e, List.getElem?_append_right (by simp; omega), List.length_drop]
      have h0 : 0 < (ring ts p).length := by omega
      have hz := w.at_ 0 _ (List.getElem?_eq_getElem h0)
      simp -implicitDefEqProofs only [it, Option.some.injEq] at hz
      rw [show i - ((ring ts p).length - 1) = 0 by omega, List.getElem?_take, if_pos (by decide), List.getElem?_eq_getElem h0, ← hz]
      rfl
  · rw [List.getElem?_eq_none (by omega), List.getElem?_eq_none (by simp; omega)]
    rfl
theorem ring_head {ts : Tops} (ok : Ok ts) {p : Nat} (hp : p < ts.length) : ∃ h : 0 < (ring ts p).length, (ring ts p)[0] = p := by
  obtain ⟨w, d⟩ := walk_ok ok hp
  have w : Way ts p (ring ts p) (walk ts p).2 := w
  have h0 : 0 < (ring ts p).length := Nat.pos_of_ne_zero (ring_pos ok hp)
  have hz := w.at_ 0 _ (List.getElem?_eq_getElem h0)
  simp -implicitDefEqProofs only [it, Option.some.injEq] at hz
  exact ⟨h0, hz.symm⟩
theorem len_N {x : O} {l : List Nat} (hx : er x = dN l) : oBi .len (.ok [x]) = .ok (.sh (.int (l.length : Nat))) := by
  rw [bf_len (ds := l.map fun (k : Nat) => PyData.int k) hx]; simp
theorem nodup_int {l : List Nat} (h : l.Nodup) : (l.map fun (k : Nat) => (k : Int)).Nodup := by
  refine List.Pairwise.map _ (fun a b hab => ?_) h
  intro z
  exact hab (by omega)
theorem lset_N {x : O} {l : List Nat} (hx : er x = dN l) (hl : l.length ≤ 4000) (h : l.Nodup) : oLs (.ok x) = .ok (.sh (.int (l.length : Nat))) := by
  simp -implicitDefEqProofs only [oLs, Res.bind_ok, hx, dN, lsetD, dints_N, List.length_map]
  rw [if_pos ⟨hl, nodup_int h⟩]
  rfl
theorem is_ring_ok (h : tab 46 = some f46) (h8 : tab 8 = some f8) (n : Nat) {ts : Tops} (ok : Ok ts) (hl : ts.length ≤ 1000) {p : Nat} (hp : p ∈ heads ts) : callF tab gt (n + 2) 46 [dN (ring ts p), dTs ts] = .ok (.sh (.bool true)) := by
  obtain ⟨hpl, hc, hmin⟩ := heads_mem.mp hp
  obtain ⟨w, d⟩ := walk_ok ok hpl
  have w : Way ts p (ring ts p) (walk ts p).2 := w
  obtain ⟨h0, hhead⟩ := ring_head ok hpl
  have hne : ring ts p ≠ [] := w.pos
  have hlr := nodup_le w.nd w.lt
  generalize hr : ring ts p = r at *
  obtain ⟨m, hm1, hm2, hm3⟩ := min_N (x := .sh (dN r)) (l := r) rfl hne
  have hmp : m = p := by
    have h1 := hmin m hm1
    have h2 := hm2 p (by rw [← hhead]; exact List.getElem_mem h0)
    omega
  subst hmp
  rw [callF_go h _ _ rfl]
  have hls : oLsI (.ok (.sh (dN r))) = .ok (r.map fun (k : Nat) => PyData.int k, false) := by
    rw [oLsI_ok (ds := r.map fun (k : Nat) => PyData.int k) rfl]; rfl
  have c1 : ev (callO tab gt (n + 1)) gt [some (dN r), some (dTs ts), none] (.comp (.var 2) [2] (.ls (.var 0)) (.cons (.and (.cons (.call 8 (.cons (.var 2) .nil)) (.cons (.chain .le .lt (.con (.int 0)) (.var 2) (.bi .len (.cons (.var 1) .nil))) .nil))) .nil) [2]) = .ok (oN r) := by
    rw [e_comp]
    simp -implicitDefEqProofs only [xs_nil, xs_cons, then_nx, then_rt, then_bk, x_asg, oAsg_1, oAsg_t2, oAsg_s2, x_ret, oRet_ok, x_ite, oIte_t, oIte_f, x_pass, x_brk, kO_int, kO_bool, kO_none, kO_str, o_var, o_con, o_bin, o_neg, o_cmp, o_chain, o_not, o_and, o_or, o_idx, o_cut, o_call, o_bi, o_mt, o_isi, o_comp, o_dnew, os_nil, os_cons, oSeq_ok, oPre_ok, o_lst, o_tup, oLst_0, oLst_1, oLst_2, oLst_3, oTup_2, oTup_3, e_var, e_mv, oVar_some, e_con, e_bin, bin_add, bin_sub, bin_xor, e_neg, oNeg_ok, e_cmp, cmp_lt, cmp_le, cmp_gt, cmp_ge, cmp_eqI, cmp_neI, dec_N, cmp_isN_int, cmp_isN_none, cmp_notN_int, cmp_notN_none, e_chain, chain_lelt, e_not, oNot_ok, oB_ok, e_and, e_or, a_nil, a_cons, r_nil, r_cons, oAnd_f, oAnd_t, oAnd_ok, oOr_f, oOr_t, oOr_ok, e_idx, e_cut, part_t, part_f, s_nil, s_cons, oCons_ok, e_lst, e_tup, oL_0, oL_1, oL_2, oL_3, oL_4, oT_2, oT_3, okB_bind, e_call, oCall_ok, e_calld, oCalld_ok, o_calld, e_revl, o_revl, e_bi, e_mt, e_isi, oIsi_1, e_lset, i_ls, i_rng, oFor_t, oFor_f, x_for, step_1, step_2, fin_rt, isNul, eEnv, List.map_cons, List.map_nil, Option.map_some, Option.map_none, er, ers, getS, setS, Bool.and_true, Bool.true_and, Bool.and_false, Bool.false_and, Bool.or_false, Bool.false_or, Bool.or_true, Bool.true_or, Bool.not_true, Bool.not_false, hls]
    refine (oComp_ok (os := r.map fun (k : Nat) => O.sh (.int k)) (compL_map _ _ _ fun b hb => ?_) (by rw [List.length_map, sizeLine_eq]; omega)).trans rfl
    have hbl := w.lt b hb
    have hcond : ev (callO tab gt (n + 1)) gt (setS (wipeS [some (dN r), some (dTs ts), none] [2]) 2 (some (.int (b : Int)))) (.and (.cons (.call 8 (.cons (.var 2) .nil)) (.cons (.chain .le .lt (.con (.int 0)) (.var 2) (.bi .len (.cons (.var 1) .nil))) .nil))) = .ok (.sh (.bool true)) := by
      simp -implicitDefEqProofs only [wipeS, xs_nil, xs_cons, then_nx, then_rt, then_bk, x_asg, oAsg_1, oAsg_t2, oAsg_s2, x_ret, oRet_ok, x_ite, oIte_t, oIte_f, x_pass, x_brk, kO_int, kO_bool, kO_none, kO_str, o_var, o_con, o_bin, o_neg, o_cmp, o_chain, o_not, o_and, o_or, o_idx, o_cut, o_call, o_bi, o_mt, o_isi, o_comp, o_dnew, os_nil, os_cons, oSeq_ok, oPre_ok, o_lst, o_tup, oLst_0, oLst_1, oLst_2, oLst_3, oTup_2, oTup_3, e_var, e_mv, oVar_some, e_con, e_bin, bin_add, bin_sub, bin_xor, e_neg, oNeg_ok, e_cmp, cmp_lt, cmp_le, cmp_gt, cmp_ge, cmp_eqI, cmp_neI, dec_N, cmp_isN_int, cmp_isN_none, cmp_notN_int, cmp_notN_none, e_chain, chain_lelt, e_not, oNot_ok, oB_ok, e_and, e_or, a_nil, a_cons, r_nil, r_cons, oAnd_f, oAnd_t, oAnd_ok, oOr_f, oOr_t, oOr_ok, e_idx, e_cut, part_t, part_f, s_nil, s_cons, oCons_ok, e_lst, e_tup, oL_0, oL_1, oL_2, oL_3, oL_4, oT_2, oT_3, okB_bind, e_call, oCall_ok, e_calld, oCalld_ok, o_calld, e_revl, o_revl, e_bi, e_mt, e_isi, oIsi_1, e_lset, i_ls, i_rng, oFor_t, oFor_f, x_for, step_1, step_2, fin_rt, isNul, eEnv, List.map_cons, List.map_nil, Option.map_some, Option.map_none, er, ers, getS, setS, Bool.and_true, Bool.true_and, Bool.and_false, Bool.false_and, Bool.or_false, Bool.false_or, Bool.or_true, Bool.true_or, Bool.not_true, Bool.not_false, whole_ok h8, len_T]
      simp
      omega
    rw [cT_1c _ _ _ _ _ hcond]
    simp -implicitDefEqProofs only [wipeS, xs_nil, xs_cons, then_nx, then_rt, then_bk, x_asg, oAsg_1, oAsg_t2, oAsg_s2, x_ret, oRet_ok, x_ite, oIte_t, oIte_f, x_pass, x_brk, kO_int, kO_bool, kO_none, kO_str, o_var, o_con, o_bin, o_neg, o_cmp, o_chain, o_not, o_and, o_or, o_idx, o_cut, o_call, o_bi, o_mt, o_isi, o_comp, o_dnew, os_nil, os_cons, oSeq_ok, oPre_ok, o_lst, o_tup, oLst_0, oLst_1, oLst_2, oLst_3, oTup_2, oTup_3, e_var, e_mv, oVar_some, e_con, e_bin, bin_add, bin_sub, bin_xor, e_neg, oNeg_ok, e_cmp, cmp_lt, cmp_le, cmp_gt, cmp_ge, cmp_eqI, cmp_neI, dec_N, cmp_isN_int, cmp_isN_none, cmp_notN_int, cmp_notN_none, e_chain, chain_lelt, e_not, oNot_ok, oB_ok, e_and, e_or, a_nil, a_cons, r_nil, r_cons, oAnd_f, oAnd_t, oAnd_ok, oOr_f, oOr_t, oOr_ok, e_idx, e_cut, part_t, part_f, s_nil, s_cons, oCons_ok, e_lst, e_tup, oL_0, oL_1, oL_2, oL_3, oL_4, oT_2, oT_3, okB_bind, e_call, oCall_ok, e_calld, oCalld_ok, o_calld, e_revl, o_revl, e_bi, e_mt, e_isi, oIsi_1, e_lset, i_ls, i_rng, oFor_t, oFor_f, x_for, step_1, step_2, fin_rt, isNul, eEnv, List.map_cons, List.map_nil, Option.map_some, Option.map_none, er, ers, getS, setS, Bool.and_true, Bool.true_and, Bool.and_false, Bool.false_and, Bool.or_false, Bool.false_or, Bool.or_true, Bool.true_or, Bool.not_true, Bool.not_false, if_true, Res.bind_ok]
  have c2 : ev (callO tab gt (n + 1)) gt [some (dN r), some (dTs ts), none] (.comp (.idx (.var 1) (.var 2)) [2] (.ls (.var 0)) .nil [2]) = .ok (.lst (r.map fun (k : Nat) => O.sh (dT (nx ts k)))) := by
    rw [e_comp]
    simp -implicitDefEqProofs only [xs_nil, xs_cons, then_nx, then_rt, then_bk, x_asg, oAsg_1, oAsg_t2, oAsg_s2, x_ret, oRet_ok, x_ite, oIte_t, oIte_f, x_pass, x_brk, kO_int, kO_bool, kO_none, kO_str, o_var, o_con, o_bin, o_neg, o_cmp, o_chain, o_not, o_and, o_or, o_idx, o_cut, o_call, o_bi, o_mt, o_isi, o_comp, o_dnew, os_nil, os_cons, oSeq_ok, oPre_ok, o_lst, o_tup, oLst_0, oLst_1, oLst_2, oLst_3, oTup_2, oTup_3, e_var, e_mv, oVar_some, e_con, e_bin, bin_add, bin_sub, bin_xor, e_neg, oNeg_ok, e_cmp, cmp_lt, cmp_le, cmp_gt, cmp_ge, cmp_eqI, cmp_neI, dec_N, cmp_isN_int, cmp_isN_none, cmp_notN_int, cmp_notN_none, e_chain, chain_lelt, e_not, oNot_ok, oB_ok, e_and, e_or, a_nil, a_cons, r_nil, r_cons, oAnd_f, oAnd_t, oAnd_ok, oOr_f, oOr_t, oOr_ok, e_idx, e_cut, part_t, part_f, s_nil, s_cons, oCons_ok, e_lst, e_tup, oL_0, oL_1, oL_2, oL_3, oL_4, oT_2, oT_3, okB_bind, e_call, oCall_ok, e_calld, oCalld_ok, o_calld, e_revl, o_revl, e_bi, e_mt, e_isi, oIsi_1, e_lset, i_ls, i_rng, oFor_t, oFor_f, x_for, step_1, step_2, fin_rt, isNul, eEnv, List.map_cons, List.map_nil, Option.map_some, Option.map_none, er, ers, getS, setS, Bool.and_true, Bool.true_and, Bool.and_false, Bool.false_and, Bool.or_false, Bool.false_or, Bool.or_true, Bool.true_or, Bool.not_true, Bool.not_false, hls]
    refine oComp_ok (compL_map _ _ _ fun b hb => ?_) (by rw [List.length_map, sizeLine_eq]; omega)
    rw [cT_1]
    simp -implicitDefEqProofs only [wipeS, xs_nil, xs_cons, then_nx, then_rt, then_bk, x_asg, oAsg_1, oAsg_t2, oAsg_s2, x_ret, oRet_ok, x_ite, oIte_t, oIte_f, x_pass, x_brk, kO_int, kO_bool, kO_none, kO_str, o_var, o_con, o_bin, o_neg, o_cmp, o_chain, o_not, o_and, o_or, o_idx, o_cut, o_call, o_bi, o_mt, o_isi, o_comp, o_dnew, os_nil, os_cons, oSeq_ok, oPre_ok, o_lst, o_tup, oLst_0, oLst_1, oLst_2, oLst_3, oTup_2, oTup_3, e_var, e_mv, oVar_some, e_con, e_bin, bin_add, bin_sub, bin_xor, e_neg, oNeg_ok, e_cmp, cmp_lt, cmp_le, cmp_gt, cmp_ge, cmp_eqI, cmp_neI, dec_N, cmp_isN_int, cmp_isN_none, cmp_notN_int, cmp_notN_none, e_chain, chain_lelt, e_not, oNot_ok, oB_ok, e_and, e_or, a_nil, a_cons, r_nil, r_cons, oAnd_f, oAnd_t, oAnd_ok, oOr_f, oOr_t, oOr_ok, e_idx, e_cut, part_t, part_f, s_nil, s_cons, oCons_ok, e_lst, e_tup, oL_0, oL_1, oL_2, oL_3, oL_4, oT_2, oT_3, okB_bind, e_call, oCall_ok, e_calld, oCalld_ok, o_calld, e_revl, o_revl, e_bi, e_mt, e_isi, oIsi_1, e_lset, i_ls, i_rng, oFor_t, oFor_f, x_for, step_1, step_2, fin_rt, isNul, eEnv, List.map_cons, List.map_nil, Option.map_some, Option.map_none, er, ers, getS, setS, Bool.and_true, Bool.true_and, Bool.and_false, Bool.false_and, Bool.or_false, Bool.false_or, Bool.or_true, Bool.true_or, Bool.not_true, Bool.not_false, idx_ok (x := .sh (dTs ts)) (k := .sh (.int (b : Int))) (dix_T (w.lt b hb)), Res.bind_ok]
  have c3 : oBin .add (oCut (.ok (.sh (dN r))) (.ok (some 1)) (.ok none)) (oCut (.ok (.sh (dN r))) (.ok none) (.ok (some 1))) = .ok (oN (r.drop 1 ++ r.take 1)) := by
    rw [oCut_ok (ds := r.map fun (k : Nat) => PyData.int k) rfl, oCut_ok (ds := r.map fun (k : Nat) => PyData.int k) rfl]
    have e1 : cutD (r.map fun (k : Nat) => PyData.int k) (some 1) none = (r.drop 1).map fun (k : Nat) => PyData.int k := by
      unfold cutD
      rw [show HT.sIx _ 0 (some 1) = min 1 (r.map fun (k : Nat) => PyData.int k).length from HT.sIx_nat _ 0 1, HT.sIx_none, List.length_map, ← List.map_drop, ← List.map_take]
      congr 1
      rw [show min 1 r.length = 1 by omega]
      exact List.take_of_length_le (by simp)
    have e2 : cutD (r.map fun (k : Nat) => PyData.int k) none (some 1) = (r.take 1).map fun (k : Nat) => PyData.int k := by
      unfold cutD
      rw [show HT.sIx _ (r.map fun (k : Nat) => PyData.int k).length (some 1) = min 1 (r.map fun (k : Nat) => PyData.int k).length from HT.sIx_nat _ _ 1, HT.sIx_none, List.drop_zero, List.length_map, ← List.map_take]
      congr 1
      rw [show min 1 r.length - 0 = 1 by omega]
    rw [e1, e2, bin_cat (a := (r.drop 1).map fun (k : Nat) => PyData.int k) (b := (r.take 1).map fun (k : Nat) => PyData.int k) (by simp -implicitDefEqProofs only [shl, er, ers_shs]) (by simp -implicitDefEqProofs only [shl, er, ers_shs]) (by simp [sizeLine_eq]; omega), ← List.map_append, oN_shl]
  have c4 : er (O.lst (r.map fun (k : Nat) => O.sh (dT (nx ts k)))) = dN (r.drop 1 ++ r.take 1) := by
    have hx := ring_next ok hpl hc
    rw [hr] at hx
    simp -implicitDefEqProofs only [er, ers_map, List.map_map]
    have : (er ∘ fun (k : Nat) => O.sh (dT (nx ts k))) = dT ∘ nx ts := rfl
    rw [this, ← List.map_map, hx, List.map_map]
    rfl
  have g0 : oIdx (.ok (.sh (dN r))) (.ok (.sh (.int 0))) = .ok (.sh (.int (m : Nat))) := by
    refine idx_ok ?_
    have := dix_N (l := r) (j := 0) h0
    rw [hhead] at this
    exact this
  have g1 : isTy (dN r) 3 = true := rfl
  simp -implicitDefEqProofs only [f46, start, List.length_cons, List.length_nil, List.replicate, Nat.sub_self, Nat.reduceAdd, Nat.reduceSub, List.cons_append, List.nil_append, xs_nil, xs_cons, then_nx, then_rt, then_bk, x_asg, oAsg_1, oAsg_t2, oAsg_s2, x_ret, oRet_ok, x_ite, oIte_t, oIte_f, x_pass, x_brk, kO_int, kO_bool, kO_none, kO_str, o_var, o_con, o_bin, o_neg, o_cmp, o_chain, o_not, o_and, o_or, o_idx, o_cut, o_call, o_bi, o_mt, o_isi, o_comp, o_dnew, os_nil, os_cons, oSeq_ok, oPre_ok, o_lst, o_tup, oLst_0, oLst_1, oLst_2, oLst_3, oTup_2, oTup_3, e_var, e_mv, oVar_some, e_con, e_bin, bin_add, bin_sub, bin_xor, e_neg, oNeg_ok, e_cmp, cmp_lt, cmp_le, cmp_gt, cmp_ge, cmp_eqI, cmp_neI, dec_N, cmp_isN_int, cmp_isN_none, cmp_notN_int, cmp_notN_none, e_chain, chain_lelt, e_not, oNot_ok, oB_ok, e_and, e_or, a_nil, a_cons, r_nil, r_cons, oAnd_f, oAnd_t, oAnd_ok, oOr_f, oOr_t, oOr_ok, e_idx, e_cut, part_t, part_f, s_nil, s_cons, oCons_ok, e_lst, e_tup, oL_0, oL_1, oL_2, oL_3, oL_4, oT_2, oT_3, okB_bind, e_call, oCall_ok, e_calld, oCalld_ok, o_calld, e_revl, o_revl, e_bi, e_mt, e_isi, oIsi_1, e_lset, i_ls, i_rng, oFor_t, oFor_f, x_for, step_1, step_2, fin_rt, isNul, eEnv, List.map_cons, List.map_nil, Option.map_some, Option.map_none, er, ers, getS, setS, Bool.and_true, Bool.true_and, Bool.and_false, Bool.false_and, Bool.or_false, Bool.false_or, Bool.or_true, Bool.true_or, Bool.not_true, Bool.not_false, g1, cmp_eq_nil (x := .sh (dN r)) (y := .lst []) rfl rfl, hne, decide_false, c1, c2, c3, er_oN, len_N (x := .sh (dN r)) (l := r) rfl, len_N (x := oN r) (l := r) (er_oN r), cmp_neN, decide_true, lset_N (x := .sh (dN r)) rfl (show r.length ≤ 4000 by omega) w.nd, hm3, g0,
    cmp_eqN c4 (er_oN _)]
end
end Rp

set_option linter.all false
set_option autoImplicit false
/-! RpPop: piles of arrows, rings popped in any order. Plain Lean. -/
namespace Rg

abbrev Piles := List (List Nat)
def pile (ps : Piles) (i : Nat) : List Nat := (ps[i]?).getD []
def tops (ps : Piles) : Tops := ps.map List.head?
def popR (ps : Piles) (r : List Nat) : Piles := (List.range ps.length).map fun i => if i ∈ r then (pile ps i).tail else pile ps i
def after (ps : Piles) (rs : List (List Nat)) : Piles := rs.foldl popR ps
def POk (ps : Piles) : Prop := ∀ p ∈ ps, ∀ x ∈ p, x < ps.length
def size (ps : Piles) : Nat := ((List.range ps.length).map fun i => (pile ps i).length).sum

theorem pile_mem {ps : Piles} {i : Nat} (h : i < ps.length) : pile ps i ∈ ps := by
  unfold pile
  rw [List.getElem?_eq_getElem h]
  exact List.getElem_mem h
theorem pile_out {ps : Piles} {i : Nat} (h : ps.length ≤ i) : pile ps i = [] := by
  unfold pile
  rw [List.getElem?_eq_none h]
  rfl
theorem pile_ext {ps qs : Piles} (hl : ps.length = qs.length) (h : ∀ i, i < ps.length → pile ps i = pile qs i) : ps = qs := by
  refine List.ext_getElem hl fun i h1 h2 => ?_
  have := h i h1
  unfold pile at this
  rw [List.getElem?_eq_getElem h1, List.getElem?_eq_getElem h2] at this
  exact this
theorem pop_len (ps : Piles) (r : List Nat) : (popR ps r).length = ps.length := by simp [popR]
theorem pop_pile {ps : Piles} {r : List Nat} {i : Nat} : pile (popR ps r) i = if i ∈ r then (pile ps i).tail else pile ps i := by
  by_cases h : i < ps.length
  · have hr : i < (popR ps r).length := by rw [pop_len]; exact h
    show ((popR ps r)[i]?).getD [] = _
    rw [List.getElem?_eq_getElem hr]
    simp [popR]
  · rw [pile_out (by rw [pop_len]; omega), pile_out (by omega)]
    split <;> rfl
theorem after_len (rs : List (List Nat)) : ∀ ps, (after ps rs).length = ps.length := by
  induction rs with
  | nil => intro ps; rfl
  | cons r rs ih => intro ps; show (after (popR ps r) rs).length = _; rw [ih, pop_len]
theorem after_snoc (ps : Piles) (rs : List (List Nat)) (r : List Nat) : after ps (rs ++ [r]) = popR (after ps rs) r := by simp [after]
theorem after_app (ps : Piles) (rs qs : List (List Nat)) : after ps (rs ++ qs) = after (after ps rs) qs := by simp [after]
theorem tops_len (ps : Piles) : (tops ps).length = ps.length := by simp [tops]
theorem nx_tops {ps : Piles} {i : Nat} : nx (tops ps) i = (pile ps i).head? := by
  unfold nx tops pile
  rw [List.getElem?_map]
  cases ps[i]? <;> rfl
theorem POk.tops {ps : Piles} (h : POk ps) : Ok (tops ps) := fun k hk => by
  unfold Rg.tops at hk
  obtain ⟨p, h1, h2⟩ := List.mem_map.mp hk
  rw [tops_len]
  exact h p h1 k (List.mem_of_mem_head? (by rw [h2]; rfl))
theorem POk.pop {ps : Piles} (h : POk ps) (r : List Nat) : POk (popR ps r) := fun p hp x hx => by
  rw [pop_len]
  unfold popR at hp
  obtain ⟨i, h1, rfl⟩ := List.mem_map.mp hp
  have hi := List.mem_range.mp h1
  refine h _ (pile_mem hi) x ?_
  split at hx
  · exact List.mem_of_mem_tail hx
  · exact hx
theorem POk.after {ps : Piles} (h : POk ps) (rs : List (List Nat)) : POk (after ps rs) := by
  induction rs generalizing ps with
  | nil => exact h
  | cons r rs ih => exact ih (h.pop r)
theorem pop_comm (ps : Piles) (r s : List Nat) : popR (popR ps r) s = popR (popR ps s) r := by
  refine pile_ext (by simp [pop_len]) fun i _ => ?_
  rw [pop_pile, pop_pile, pop_pile, pop_pile]
  by_cases h1 : i ∈ r <;> by_cases h2 : i ∈ s <;> simp [h1, h2]

/-! a ring stays where other tops go -/
theorem way_sub (ts : Tops) : ∀ (n : Nat) (r : List Nat) (h : Option Nat), ∀ x ∈ r, x ∈ (way ts n r h).1
  | 0, r, h, x, hx => hx
  | n + 1, r, none, x, hx => hx
  | n + 1, r, some k, x, hx => by
    unfold way
    split
    · exact hx
    · exact way_sub ts n _ _ x (by simp [hx])
theorem way_congr {ts ts' : Tops} : ∀ (n : Nat) (r : List Nat) (h : Option Nat), (∀ x ∈ (way ts n r h).1, nx ts' x = nx ts x) → way ts' n r h = way ts n r h
  | 0, r, h, _ => rfl
  | n + 1, r, none, _ => rfl
  | n + 1, r, some k, hx => by
    unfold way at hx ⊢
    split
    · rfl
    · rename_i hk
      rw [if_neg hk] at hx
      rw [hx k (way_sub ts n _ _ k (by simp))]
      exact way_congr n _ _ hx
theorem walk_congr {ts ts' : Tops} (hl : ts'.length = ts.length) {p : Nat} (h : ∀ x ∈ ring ts p, nx ts' x = nx ts x) : walk ts' p = walk ts p := by
  unfold walk
  have hp : p ∈ ring ts p := way_sub ts _ _ _ p (by simp)
  rw [hl, h p hp]
  exact way_congr _ _ _ h
theorem rings_keep {ts ts' : Tops} (hl : ts'.length = ts.length) {r : List Nat} (hr : r ∈ rings ts) (h : ∀ x ∈ r, nx ts' x = nx ts x) : r ∈ rings ts' := by
  obtain ⟨p, hp, rfl⟩ := List.mem_map.mp hr
  have e := walk_congr hl h
  have er : ring ts' p = ring ts p := by unfold ring; rw [e]
  have ec : cyc ts' p = cyc ts p := by unfold cyc; rw [e]
  refine List.mem_map.mpr ⟨p, ?_, er⟩
  obtain ⟨h1, h2, h3⟩ := heads_mem.mp hp
  exact heads_mem.mpr ⟨by rw [hl]; exact h1, by rw [ec]; exact h2, by rw [er]; exact h3⟩
theorem rings_disj {ts : Tops} (ok : Ok ts) {r s : List Nat} (hr : r ∈ rings ts) (hs : s ∈ rings ts) {x : Nat} (h1 : x ∈ r) (h2 : x ∈ s) : r = s := by
  obtain ⟨p, hp, rfl⟩ := List.mem_map.mp hr
  obtain ⟨q, hq, rfl⟩ := List.mem_map.mp hs
  obtain ⟨a1, a2, a3⟩ := heads_mem.mp hp
  obtain ⟨b1, b2, b3⟩ := heads_mem.mp hq
  obtain ⟨_, c2, c3⟩ := mem_cyc ok a1 a2 h1
  obtain ⟨_, d2, d3⟩ := mem_cyc ok b1 b2 h2
  have e1 := a3 _ (ring_trans ok a1 a2 h1 d3)
  have e2 := b3 _ (ring_trans ok b1 b2 h2 c3)
  have : p = q := by omega
  rw [this]
theorem ring_facts {ts : Tops} (ok : Ok ts) {r : List Nat} (hr : r ∈ rings ts) : r ≠ [] ∧ r.Nodup ∧ (∀ x ∈ r, x < ts.length) ∧ r.map (nx ts) = (r.drop 1 ++ r.take 1).map some := by
  obtain ⟨p, hp, rfl⟩ := List.mem_map.mp hr
  obtain ⟨h1, h2, h3⟩ := heads_mem.mp hp
  have w := (walk_ok ok h1).1
  exact ⟨w.pos, w.nd, w.lt, Rp.ring_next ok h1 h2⟩
theorem ring_some {ts : Tops} (ok : Ok ts) {r : List Nat} (hr : r ∈ rings ts) {x : Nat} (hx : x ∈ r) : ∃ y ∈ r, nx ts x = some y := by
  obtain ⟨h1, h2, h3, h4⟩ := ring_facts ok hr
  have : nx ts x ∈ r.map (nx ts) := List.mem_map.mpr ⟨x, hx, rfl⟩
  rw [h4] at this
  obtain ⟨y, hy, e⟩ := List.mem_map.mp this
  refine ⟨y, ?_, e.symm⟩
  rcases List.mem_append.mp hy with z | z
  · exact List.mem_of_mem_drop z
  · exact List.mem_of_mem_take z
/-- a ring popped leaves the others -/
theorem rings_pop {ps : Piles} (ok : POk ps) {r s : List Nat} (hr : r ∈ rings (tops ps)) (hs : s ∈ rings (tops ps)) (ne : r ≠ s) : s ∈ rings (tops (popR ps r)) := by
  refine rings_keep (by rw [tops_len, tops_len, pop_len]) hs fun x hx => ?_
  have : x ∉ r := fun z => ne (rings_disj ok.tops hr hs z hx)
  rw [nx_tops, nx_tops, pop_pile, if_neg this]

/-! sizes -/
theorem sum_le {α : Type} {f g : α → Nat} : ∀ (l : List α), (∀ x ∈ l, f x ≤ g x) → (l.map f).sum ≤ (l.map g).sum
  | [], _ => Nat.le_refl _
  | x :: l, h => by
    have h1 := h x (by simp)
    have h2 := sum_le l fun y hy => h y (by simp [hy])
    simp only [List.map_cons, List.sum_cons]
    omega
theorem sum_lt {α : Type} {f g : α → Nat} : ∀ (l : List α), (∀ x ∈ l, f x ≤ g x) → (∃ x ∈ l, f x < g x) → (l.map f).sum < (l.map g).sum
  | [], _, ⟨x, hx, _⟩ => by simp at hx
  | y :: l, h, ⟨x, hx, hlt⟩ => by
    have h1 := h y (by simp)
    have h2 := sum_le l fun z hz => h z (by simp [hz])
    simp only [List.map_cons, List.sum_cons]
    rcases List.mem_cons.mp hx with rfl | hx
    · omega
    · have := sum_lt l (fun z hz => h z (by simp [hz])) ⟨x, hx, hlt⟩
      omega
theorem size_pop {ps : Piles} (ok : POk ps) {r : List Nat} (hr : r ∈ rings (tops ps)) : size (popR ps r) < size ps := by
  unfold size
  rw [pop_len]
  refine sum_lt _ (fun i _ => ?_) ?_
  · rw [pop_pile]
    split
    · simp
    · exact Nat.le_refl _
  · obtain ⟨h1, h2, h3, h4⟩ := ring_facts ok.tops hr
    obtain ⟨x, l, e⟩ := List.exists_cons_of_ne_nil h1
    have hx : x ∈ r := by rw [e]; simp
    have hlt := h3 x hx
    rw [tops_len] at hlt
    refine ⟨x, List.mem_range.mpr hlt, ?_⟩
    obtain ⟨y, hy, ey⟩ := ring_some ok.tops hr hx
    rw [nx_tops] at ey
    rw [pop_pile, if_pos hx]
    cases q : pile ps x with
    | nil => rw [q] at ey; cases ey
    | cons a b => simp

/-! legal pops -/
def Legal : Piles → List (List Nat) → Prop
  | _, [] => True
  | ps, r :: rs => r ∈ rings (tops ps) ∧ Legal (popR ps r) rs
theorem Legal.snoc {r : List Nat} : ∀ {rs : List (List Nat)} {ps : Piles}, Legal ps rs → r ∈ rings (tops (after ps rs)) → Legal ps (rs ++ [r])
  | [], ps, _, h => ⟨h, trivial⟩
  | s :: rs, ps, h1, h => ⟨h1.1, Legal.snoc (rs := rs) h1.2 h⟩
theorem Legal.app {qs : List (List Nat)} : ∀ {rs : List (List Nat)} {ps : Piles}, Legal ps rs → Legal (after ps rs) qs → Legal ps (rs ++ qs)
  | [], ps, _, h => h
  | s :: rs, ps, h1, h => ⟨h1.1, Legal.app (rs := rs) h1.2 h⟩
theorem Legal.nodup : ∀ {rs : List (List Nat)} {ps : Piles}, POk ps → Legal ps rs → ∀ r ∈ rs, r.Nodup ∧ (∀ x ∈ r, x < ps.length) ∧ r ≠ []
  | s :: rs, ps, ok, h, r, hr => by
    rcases List.mem_cons.mp hr with rfl | hr
    · obtain ⟨h1, h2, h3, _⟩ := ring_facts ok.tops h.1
      exact ⟨h2, fun x hx => by rw [← tops_len]; exact h3 x hx, h1⟩
    · have := Legal.nodup (ok.pop s) h.2 r hr
      rwa [pop_len] at this
def Full (ps : Piles) (rs : List (List Nat)) : Prop := Legal ps rs ∧ rings (tops (after ps rs)) = []
theorem full_ex : ∀ (n : Nat) {ps : Piles}, POk ps → size ps ≤ n → ∃ rs, Full ps rs
  | n, ps, ok, hn => by
    cases e : rings (tops ps) with
    | nil => exact ⟨[], trivial, e⟩
    | cons r l =>
      have hr : r ∈ rings (tops ps) := by rw [e]; simp
      have := size_pop ok hr
      cases n with
      | zero => omega
      | succ n =>
        obtain ⟨rs, h1, h2⟩ := full_ex n (ok.pop r) (show size (popR ps r) ≤ n by omega)
        exact ⟨r :: rs, ⟨hr, h1⟩, h2⟩
/-! marks -/
def bump (d : Nat → Nat) (r : List Nat) : Nat → Nat := fun p => if p ∈ r then d p + 1 else d p
def mark (d : Nat → Nat) (r : List Nat) : List (Nat × Nat) := r.map fun p => (p, d p)
def marks : (Nat → Nat) → List (List Nat) → List (List (Nat × Nat))
  | _, [] => []
  | d, r :: rs => mark d r :: marks (bump d r) rs
def bumps (d : Nat → Nat) (rs : List (List Nat)) : Nat → Nat := rs.foldl bump d
theorem marks_app : ∀ (rs qs : List (List Nat)) (d : Nat → Nat), marks d (rs ++ qs) = marks d rs ++ marks (bumps d rs) qs
  | [], _, _ => rfl
  | r :: rs, qs, d => by simp only [List.cons_append, marks]; rw [marks_app rs qs]; rfl
theorem marks_snoc (rs : List (List Nat)) (r : List Nat) (d : Nat → Nat) : marks d (rs ++ [r]) = marks d rs ++ [mark (bumps d rs) r] := by rw [marks_app]; rfl
theorem marks_len : ∀ (rs : List (List Nat)) (d : Nat → Nat), (marks d rs).length = rs.length
  | [], _ => rfl
  | r :: rs, d => by simp [marks, marks_len rs]
theorem bump_comm (d : Nat → Nat) (r s : List Nat) : bump (bump d r) s = bump (bump d s) r := by
  funext p
  unfold bump
  by_cases h1 : p ∈ r <;> by_cases h2 : p ∈ s <;> simp [h1, h2]
theorem mark_disj {d : Nat → Nat} {r s : List Nat} (h : ∀ x ∈ s, x ∉ r) : mark (bump d r) s = mark d s := by
  unfold mark
  refine List.map_congr_left fun p hp => ?_
  simp [bump, h p hp]
/-- whatever is popped ahead: the same rings, marked, and the same rest -/
theorem confl : ∀ (n : Nat) {ps : Piles} (d : Nat → Nat), POk ps → size ps ≤ n → ∀ {s t : List (List Nat)}, Full ps s → Full ps t → (marks d s).Perm (marks d t) ∧ after ps s = after ps t
  | n, ps, d, ok, hn, [], [], hs, ht => ⟨.refl _, rfl⟩
  | n, ps, d, ok, hn, [], t :: ts, hs, ht => by
    have h : rings (tops ps) = [] := hs.2
    have := ht.1.1
    rw [h] at this
    cases this
  | n, ps, d, ok, hn, s :: ss, [], hs, ht => by
    have h : rings (tops ps) = [] := ht.2
    have := hs.1.1
    rw [h] at this
    cases this
  | n, ps, d, ok, hn, s :: ss, t :: ts, hs, ht => by
    have q1 := size_pop ok hs.1.1
    have q2 := size_pop ok ht.1.1
    cases n with
    | zero => omega
    | succ n =>
      have fs : Full (popR ps s) ss := ⟨hs.1.2, hs.2⟩
      have ft : Full (popR ps t) ts := ⟨ht.1.2, ht.2⟩
      by_cases e : s = t
      · subst e
        obtain ⟨h1, h2⟩ := confl n (bump d s) (ok.pop s) (by omega) fs ft
        exact ⟨h1.cons _, h2⟩
      · have r1 := rings_pop ok hs.1.1 ht.1.1 e
        have r2 := rings_pop ok ht.1.1 hs.1.1 (Ne.symm e)
        have q3 := size_pop (ok.pop s) r1
        obtain ⟨us, fu, eu⟩ := full_ex _ ((ok.pop s).pop t) (Nat.le_refl _)
        have f1 : Full (popR ps s) (t :: us) := ⟨⟨r1, fu⟩, eu⟩
        have f2 : Full (popR ps t) (s :: us) := ⟨⟨r2, by rw [pop_comm]; exact fu⟩, by
          show rings (tops (after (popR (popR ps t) s) us)) = []
          rw [pop_comm]; exact eu⟩
        obtain ⟨a1, a2⟩ := confl n (bump d s) (ok.pop s) (by omega) fs f1
        obtain ⟨b1, b2⟩ := confl n (bump d t) (ok.pop t) (by omega) ft f2
        have dj : ∀ x ∈ t, x ∉ s := fun x hx z => e (rings_disj ok.tops hs.1.1 ht.1.1 z hx)
        have dj2 : ∀ x ∈ s, x ∉ t := fun x hx z => dj x z hx
        constructor
        · show (mark d s :: marks (bump d s) ss).Perm (mark d t :: marks (bump d t) ts)
          refine (a1.cons _).trans (.trans ?_ (b1.cons _).symm)
          show (mark d s :: mark (bump d s) t :: marks (bump (bump d s) t) us).Perm (mark d t :: mark (bump d t) s :: marks (bump (bump d t) s) us)
          rw [mark_disj dj, mark_disj dj2, bump_comm]
          exact .swap _ _ _
        · show after (popR ps s) ss = after (popR ps t) ts
          rw [a2, b2]
          show after (popR (popR ps s) t) us = after (popR (popR ps t) s) us
          rw [pop_comm]
/-! how deep -/
theorem after_pile : ∀ (rs : List (List Nat)) {ps : Piles}, POk ps → Legal ps rs → ∀ i, pile (after ps rs) i = (pile ps i).drop (rs.countP fun r => decide (i ∈ r)) ∧ rs.countP (fun r => decide (i ∈ r)) ≤ (pile ps i).length
  | [], ps, _, _, i => ⟨rfl, Nat.zero_le _⟩
  | r :: rs, ps, ok, h, i => by
    obtain ⟨h1, h2⟩ := after_pile rs (ok.pop r) h.2 i
    show pile (after (popR ps r) rs) i = _ ∧ _
    rw [h1]
    rw [pop_pile] at h2 ⊢
    by_cases hi : i ∈ r
    · rw [if_pos hi] at h2 ⊢
      obtain ⟨y, _, ey⟩ := ring_some ok.tops h.1 hi
      rw [nx_tops] at ey
      have hpos : 0 < (pile ps i).length := by
        cases q : pile ps i with
        | nil => rw [q] at ey; cases ey
        | cons a b => simp
      rw [List.countP_cons_of_pos (by simpa using hi)]
      constructor
      · rw [← List.drop_one, List.drop_drop, Nat.add_comm]
      · rw [List.length_tail] at h2; omega
    · rw [if_neg hi] at h2 ⊢
      rw [List.countP_cons_of_neg (by simpa using hi)]
      exact ⟨rfl, h2⟩
end Rg

set_option Elab.async false
set_option linter.all false
set_option maxRecDepth 100000
set_option maxHeartbeats 4000000
/-! RpK12b: sorted places; tops drawn; the law. -/
namespace Rp
open PySem Rp.T Rg

/-! sorted lists of numbers -/
theorem sort_uniq : ∀ (l m : List Nat), l.Pairwise (· ≤ ·) → m.Pairwise (· < ·) → l.Perm m → l = m
  | [], m, _, _, h => (List.Perm.eq_nil h.symm).symm
  | a :: l, [], _, _, h => absurd h.length_eq (by simp)
  | a :: l, b :: m, h1, h2, h => by
    obtain ⟨h1a, h1t⟩ := List.pairwise_cons.mp h1
    obtain ⟨h2a, h2t⟩ := List.pairwise_cons.mp h2
    have e : a = b := by
      have ha : a ∈ b :: m := h.mem_iff.mp (by simp)
      have hb : b ∈ a :: l := h.mem_iff.mpr (by simp)
      have x1 : b ≤ a := by
        rcases List.mem_cons.mp ha with z | z
        · omega
        · have := h2a a z; omega
      have x2 : a ≤ b := by
        rcases List.mem_cons.mp hb with z | z
        · omega
        · exact h1a b z
      omega
    subst e
    rw [sort_uniq l m h1t h2t h.cons_inv]
theorem dataLe_int (a b : Int) : PySem.W.dataLe false id (PyData.int a) (PyData.int b) = decide (a ≤ b) := by
  rw [PySem.W.dataLe_eq]
  simp -implicitDefEqProofs only [cond_false, id]
  rw [PySem.W.dataLt_int]
  by_cases h : b < a
  · have : ¬ a ≤ b := by omega
    simp [h, this]
  · have : a ≤ b := by omega
    simp [h, this]
theorem sortD_N (l : List Nat) : sortD (l.map fun (k : Nat) => PyData.int k) = (l.mergeSort fun a b => decide (a ≤ b)).map fun (k : Nat) => PyData.int k := by
  unfold sortD
  symm
  refine PySem.W.sort_maps _ fun a _ b _ => ?_
  rw [dataLe_int]
  by_cases h : a ≤ b
  · have : (a : Int) ≤ b := by omega
    simp [h, this]
  · have : ¬ (a : Int) ≤ b := by omega
    simp [h, this]
theorem sort_nat {l m : List Nat} (hm : m.Pairwise (· < ·)) (h : l.Perm m) : (l.mergeSort fun a b => decide (a ≤ b)) = m := by
  refine sort_uniq _ _ ?_ hm ((List.mergeSort_perm l _).trans h)
  have := List.pairwise_mergeSort (le := fun (a b : Nat) => decide (a ≤ b)) (fun a b c h1 h2 => by simp at *; omega) (fun a b => by simp; omega) l
  exact this.imp fun h => by simpa using h
theorem sortOk_N (l : List Nat) : sortOk (l.map fun (k : Nat) => PyData.int k) = true := by
  simp -implicitDefEqProofs only [sortOk, Bool.and_eq_true, Bool.or_eq_true, List.all_eq_true, decide_eq_true_eq]
  refine ⟨⟨fun d hd e he => ?_, .inr fun d hd => ?_⟩, fun d hd => ?_⟩
  · obtain ⟨a, _, rfl⟩ := List.mem_map.mp hd
    obtain ⟨b, _, rfl⟩ := List.mem_map.mp he
    simp [PySem.W.alike]
  · obtain ⟨a, _, rfl⟩ := List.mem_map.mp hd; rfl
  · obtain ⟨a, _, rfl⟩ := List.mem_map.mp hd
    simp [PyData.canLay0, PyData.depth]
theorem sorted_N {x : O} {l m : List Nat} (hx : er x = dN l) (hm : m.Pairwise (· < ·)) (h : l.Perm m) : oBi .sorted (.ok [x]) = .ok (oN m) := by
  refine bf_ok ?_
  simp -implicitDefEqProofs only [ers, hx, dN, bfn]
  rw [if_pos (sortOk_N l), sortD_N, sort_nat hm h, oN_shl]
theorem nodup_perm : ∀ {l m : List Nat}, l.Nodup → m.Nodup → (∀ x, x ∈ l ↔ x ∈ m) → l.Perm m := by
  intro l m h1 h2 h
  exact (List.perm_ext_iff_of_nodup h1 h2).mpr h
section
variable {tab : Tab} {gt : Nat → Option D} {Γ : En}
theorem kO_oN (e : Ex) (l : List Nat) : kO e Γ (.ok (oN l)) = .ok (oN l, Γ) := kO_ok e (clean_oN l)
theorem dix_last {l : List Nat} {k : Nat} (h : l.getLast? = some k) : dix (dN l) (.int (-1)) = some (.int (k : Nat)) := by
  have hne : l ≠ [] := fun z => by rw [z] at h; cases h
  have hp : 0 < l.length := List.length_pos_iff.mpr hne
  have e : pix l.length (-1) = some (l.length - 1) := by
    unfold pix L2.ixN
    rw [if_neg (by omega), if_pos (by omega)]
    congr 1
    omega
  rw [List.getLast?_eq_getElem?] at h
  simp -implicitDefEqProofs only [dN, dix, List.length_map, e, Option.bind_some, List.getElem?_map, h, Option.map_some]
theorem heads_lt (ts : Tops) : (heads ts).Pairwise (· < ·) := List.Pairwise.filter _ List.pairwise_lt_range
theorem heads_len (ts : Tops) : (heads ts).length ≤ ts.length := by
  have := List.length_filter_le (hd ts) (List.range ts.length)
  rwa [List.length_range] at this
theorem flat_len {ts : Tops} (ok : Ok ts) : ((heads ts).flatMap (ring ts)).length ≤ ts.length := nodup_le (flat_nodup ok) fun x hx => ((flat_mem ok).mp hx).1
theorem take_flat {ts : Tops} (ok : Ok ts) (i : Nat) : (((heads ts).take i).flatMap (ring ts)).length ≤ ts.length := by
  refine Nat.le_trans ?_ (flat_len ok)
  have : (heads ts).flatMap (ring ts) = ((heads ts).take i).flatMap (ring ts) ++ ((heads ts).drop i).flatMap (ring ts) := by rw [← List.flatMap_append, List.take_append_drop]
  rw [this, List.length_append]
  omega
theorem right_ok (h : tab 47 = some f47) (h46 : tab 46 = some f46) (h45 : tab 45 = some f45) (h8 : tab 8 = some f8) (n : Nat) {ts : Tops} (ok : Ok ts) (hl : ts.length ≤ 1000) : callF tab gt (n + 3) 47 [.list ((rings ts).map dN), dTs ts] = .ok (.sh (.bool true)) := by
  rw [callF_go h _ _ rfl]
  have hls : oLsI (.ok (.sh (.list ((rings ts).map dN)))) = .ok ((heads ts).map (fun p => dN (ring ts p)), false) := by
    rw [oLsI_ok rfl]
    simp -implicitDefEqProofs only [rings, List.map_map]
    rfl
  have g1 : isTy (.list ((rings ts).map dN)) 3 = true := rfl
  simp -implicitDefEqProofs only [f47, start, List.length_cons, List.length_nil, List.replicate, Nat.sub_self, Nat.reduceAdd, Nat.reduceSub, List.cons_append, List.nil_append, xs_nil, xs_cons, then_nx, then_rt, then_bk, x_asg, oAsg_1, oAsg_t2, oAsg_s2, x_ret, oRet_ok, x_ite, oIte_t, oIte_f, x_pass, x_brk, kO_int, kO_bool, kO_none, kO_str, o_var, o_con, o_bin, o_neg, o_cmp, o_chain, o_not, o_and, o_or, o_idx, o_cut, o_call, o_bi, o_mt, o_isi, o_comp, o_dnew, os_nil, os_cons, oSeq_ok, oPre_ok, o_lst, o_tup, oLst_0, oLst_1, oLst_2, oLst_3, oTup_2, oTup_3, e_var, e_mv, oVar_some, e_con, e_bin, bin_add, bin_sub, bin_xor, e_neg, oNeg_ok, e_cmp, cmp_lt, cmp_le, cmp_gt, cmp_ge, cmp_eqI, cmp_neI, dec_N, cmp_isN_int, cmp_isN_none, cmp_notN_int, cmp_notN_none, e_chain, chain_lelt, e_not, oNot_ok, oB_ok, e_and, e_or, a_nil, a_cons, r_nil, r_cons, oAnd_f, oAnd_t, oAnd_ok, oOr_f, oOr_t, oOr_ok, e_idx, e_cut, part_t, part_f, s_nil, s_cons, oCons_ok, e_lst, e_tup, oL_0, oL_1, oL_2, oL_3, oL_4, oT_2, oT_3, okB_bind, e_call, oCall_ok, e_calld, oCalld_ok, o_calld, e_revl, o_revl, e_bi, e_mt, e_isi, oIsi_1, e_lset, i_ls, i_rng, oFor_t, oFor_f, x_for, step_1, step_2, fin_rt, isNul, eEnv, List.map_cons, List.map_nil, Option.map_some, Option.map_none, er, ers, getS, setS, Bool.and_true, Bool.true_and, Bool.and_false, Bool.false_and, Bool.or_false, Bool.false_or, Bool.or_true, Bool.true_or, Bool.not_true, Bool.not_false, g1, hls, frz, srcsI, srcs]
  generalize hb : stepF (callO tab gt (n + 2)) gt [3] _ = body
  obtain ⟨Γ', e, hR⟩ := forL_rel (f := body) (fun p => dN (ring ts p)) (fun i Γ => ∃ a, Γ = [some (.sh (.list ((rings ts).map dN))), some (.sh (dTs ts)), some (oN ((heads ts).take i)), a, none, none]) (heads ts) 0 [some (.sh (.list ((rings ts).map dN))), some (.sh (dTs ts)), some (.lst []), none, none, none] ⟨none, rfl⟩ (by
    rintro j Γ p hj ⟨s3, rfl⟩
    simp -implicitDefEqProofs only [Nat.zero_add]
    have hjl := (List.getElem?_eq_some_iff.mp hj).1
    have hp : p ∈ heads ts := List.mem_of_getElem? hj
    obtain ⟨hpl, hc, hmin⟩ := heads_mem.mp hp
    obtain ⟨h0, hhead⟩ := ring_head ok hpl
    have g0 : oIdx (.ok (.sh (dN (ring ts p)))) (.ok (.sh (.int 0))) = .ok (.sh (.int (p : Nat))) := by
      refine idx_ok ?_
      have := dix_N (l := ring ts p) (j := 0) h0
      rw [hhead] at this
      exact this
    have hz : (((heads ts).take j).map fun (k : Nat) => O.sh (.int (k : Int))).length < sizeLine := by
      have := heads_len ts
      rw [List.length_map, List.length_take, sizeLine_eq]; omega
    have hcmp : oAnd (oCmp .ne (.ok (.sh (dN ((heads ts).take j)))) (.ok (.lst []))) (oAnd (oCmp .le (.ok (.sh (.int (p : Int)))) (oIdx (.ok (.sh (dN ((heads ts).take j)))) (.ok (.sh (.int (-1)))))) (.ok true)) = .ok false := by
      rw [cmp_ne_nil (x := .sh (dN ((heads ts).take j))) (y := .lst []) (l := (heads ts).take j) rfl rfl]
      by_cases hn : (heads ts).take j = []
      · rw [hn]; rfl
      · have hj0 : j ≠ 0 := fun z => by subst z; simp at hn
        have hk : (heads ts)[j - 1]? = some (heads ts)[j - 1] := List.getElem?_eq_getElem (by omega)
        have hlast : ((heads ts).take j).getLast? = some (heads ts)[j - 1] := by
          rw [List.getLast?_eq_getElem?, List.length_take, Nat.min_eq_left (by omega), List.getElem?_take, if_pos (by omega)]
          exact hk
        have hlt : (heads ts)[j - 1] < p := by
          have := List.pairwise_iff_getElem.mp (heads_lt ts) (j - 1) j (by omega) hjl (by omega)
          have e := (List.getElem?_eq_some_iff.mp hj).2
          rwa [e] at this
        rw [idx_ok (x := .sh (dN ((heads ts).take j))) (k := .sh (.int (-1))) (dix_last hlast), cmp_le]
        have : ¬ ((p : Int) ≤ ((heads ts)[j - 1] : Nat)) := by omega
        simp -implicitDefEqProofs only [hn, decide_false, Bool.not_false, oAnd_t, this, oAnd_f]
    subst hb
    simp -implicitDefEqProofs only [xs_nil, xs_cons, then_nx, then_rt, then_bk, x_asg, oAsg_1, oAsg_t2, oAsg_s2, x_ret, oRet_ok, x_ite, oIte_t, oIte_f, x_pass, x_brk, kO_int, kO_bool, kO_none, kO_str, o_var, o_con, o_bin, o_neg, o_cmp, o_chain, o_not, o_and, o_or, o_idx, o_cut, o_call, o_bi, o_mt, o_isi, o_comp, o_dnew, os_nil, os_cons, oSeq_ok, oPre_ok, o_lst, o_tup, oLst_0, oLst_1, oLst_2, oLst_3, oTup_2, oTup_3, e_var, e_mv, oVar_some, e_con, e_bin, bin_add, bin_sub, bin_xor, e_neg, oNeg_ok, e_cmp, cmp_lt, cmp_le, cmp_gt, cmp_ge, cmp_eqI, cmp_neI, dec_N, cmp_isN_int, cmp_isN_none, cmp_notN_int, cmp_notN_none, e_chain, chain_lelt, e_not, oNot_ok, oB_ok, e_and, e_or, a_nil, a_cons, r_nil, r_cons, oAnd_f, oAnd_t, oAnd_ok, oOr_f, oOr_t, oOr_ok, e_idx, e_cut, part_t, part_f, s_nil, s_cons, oCons_ok, e_lst, e_tup, oL_0, oL_1, oL_2, oL_3, oL_4, oT_2, oT_3, okB_bind, e_call, oCall_ok, e_calld, oCalld_ok, o_calld, e_revl, o_revl, e_bi, e_mt, e_isi, oIsi_1, e_lset, i_ls, i_rng, oFor_t, oFor_f, x_for, step_1, step_2, fin_rt, isNul, eEnv, List.map_cons, List.map_nil, Option.map_some, Option.map_none, er, ers, getS, setS, Bool.and_true, Bool.true_and, Bool.and_false, Bool.false_and, Bool.or_false, Bool.false_or, Bool.or_true, Bool.true_or, Bool.not_true, Bool.not_false, is_ring_ok h46 h8 n ok hl hp, er_oN, g0, hcmp]
    rw [x_mut0 (by decide) 2 _ (os := ((heads ts).take j).map fun (k : Nat) => O.sh (.int (k : Int))) rfl]
    simp -implicitDefEqProofs only [xs_nil, xs_cons, then_nx, then_rt, then_bk, x_asg, oAsg_1, oAsg_t2, oAsg_s2, x_ret, oRet_ok, x_ite, oIte_t, oIte_f, x_pass, x_brk, kO_int, kO_bool, kO_none, kO_str, o_var, o_con, o_bin, o_neg, o_cmp, o_chain, o_not, o_and, o_or, o_idx, o_cut, o_call, o_bi, o_mt, o_isi, o_comp, o_dnew, os_nil, os_cons, oSeq_ok, oPre_ok, o_lst, o_tup, oLst_0, oLst_1, oLst_2, oLst_3, oTup_2, oTup_3, e_var, e_mv, oVar_some, e_con, e_bin, bin_add, bin_sub, bin_xor, e_neg, oNeg_ok, e_cmp, cmp_lt, cmp_le, cmp_gt, cmp_ge, cmp_eqI, cmp_neI, dec_N, cmp_isN_int, cmp_isN_none, cmp_notN_int, cmp_notN_none, e_chain, chain_lelt, e_not, oNot_ok, oB_ok, e_and, e_or, a_nil, a_cons, r_nil, r_cons, oAnd_f, oAnd_t, oAnd_ok, oOr_f, oOr_t, oOr_ok, e_idx, e_cut, part_t, part_f, s_nil, s_cons, oCons_ok, e_lst, e_tup, oL_0, oL_1, oL_2, oL_3, oL_4, oT_2, oT_3, okB_bind, e_call, oCall_ok, e_calld, oCalld_ok, o_calld, e_revl, o_revl, e_bi, e_mt, e_isi, oIsi_1, e_lset, i_ls, i_rng, oFor_t, oFor_f, x_for, step_1, step_2, fin_rt, isNul, eEnv, List.map_cons, List.map_nil, Option.map_some, Option.map_none, er, ers, getS, setS, Bool.and_true, Bool.true_and, Bool.and_false, Bool.false_and, Bool.or_false, Bool.false_or, Bool.or_true, Bool.true_or, Bool.not_true, Bool.not_false, er_oN, g0]
    rw [oMut_app0 (os := ((heads ts).take j).map fun (k : Nat) => O.sh (.int (k : Int))) rfl hz, oN_app]
    simp -implicitDefEqProofs only [xs_nil, xs_cons, then_nx, then_rt, then_bk, x_asg, oAsg_1, oAsg_t2, oAsg_s2, x_ret, oRet_ok, x_ite, oIte_t, oIte_f, x_pass, x_brk, kO_int, kO_bool, kO_none, kO_str, o_var, o_con, o_bin, o_neg, o_cmp, o_chain, o_not, o_and, o_or, o_idx, o_cut, o_call, o_bi, o_mt, o_isi, o_comp, o_dnew, os_nil, os_cons, oSeq_ok, oPre_ok, o_lst, o_tup, oLst_0, oLst_1, oLst_2, oLst_3, oTup_2, oTup_3, e_var, e_mv, oVar_some, e_con, e_bin, bin_add, bin_sub, bin_xor, e_neg, oNeg_ok, e_cmp, cmp_lt, cmp_le, cmp_gt, cmp_ge, cmp_eqI, cmp_neI, dec_N, cmp_isN_int, cmp_isN_none, cmp_notN_int, cmp_notN_none, e_chain, chain_lelt, e_not, oNot_ok, oB_ok, e_and, e_or, a_nil, a_cons, r_nil, r_cons, oAnd_f, oAnd_t, oAnd_ok, oOr_f, oOr_t, oOr_ok, e_idx, e_cut, part_t, part_f, s_nil, s_cons, oCons_ok, e_lst, e_tup, oL_0, oL_1, oL_2, oL_3, oL_4, oT_2, oT_3, okB_bind, e_call, oCall_ok, e_calld, oCalld_ok, o_calld, e_revl, o_revl, e_bi, e_mt, e_isi, oIsi_1, e_lset, i_ls, i_rng, oFor_t, oFor_f, x_for, step_1, step_2, fin_rt, isNul, eEnv, List.map_cons, List.map_nil, Option.map_some, Option.map_none, er, ers, getS, setS, Bool.and_true, Bool.true_and, Bool.and_false, Bool.false_and, Bool.or_false, Bool.false_or, Bool.or_true, Bool.true_or, Bool.not_true, Bool.not_false]
    refine ⟨_, rfl, some (.sh (dN (ring ts p))), ?_⟩
    rw [getElem_take_succ hj])
  obtain ⟨a, rfl⟩ := hR
  rw [e]
  simp -implicitDefEqProofs only [xs_nil, xs_cons, then_nx, then_rt, then_bk, x_asg, oAsg_1, oAsg_t2, oAsg_s2, x_ret, oRet_ok, x_ite, oIte_t, oIte_f, x_pass, x_brk, kO_int, kO_bool, kO_none, kO_str, o_var, o_con, o_bin, o_neg, o_cmp, o_chain, o_not, o_and, o_or, o_idx, o_cut, o_call, o_bi, o_mt, o_isi, o_comp, o_dnew, os_nil, os_cons, oSeq_ok, oPre_ok, o_lst, o_tup, oLst_0, oLst_1, oLst_2, oLst_3, oTup_2, oTup_3, e_var, e_mv, oVar_some, e_con, e_bin, bin_add, bin_sub, bin_xor, e_neg, oNeg_ok, e_cmp, cmp_lt, cmp_le, cmp_gt, cmp_ge, cmp_eqI, cmp_neI, dec_N, cmp_isN_int, cmp_isN_none, cmp_notN_int, cmp_notN_none, e_chain, chain_lelt, e_not, oNot_ok, oB_ok, e_and, e_or, a_nil, a_cons, r_nil, r_cons, oAnd_f, oAnd_t, oAnd_ok, oOr_f, oOr_t, oOr_ok, e_idx, e_cut, part_t, part_f, s_nil, s_cons, oCons_ok, e_lst, e_tup, oL_0, oL_1, oL_2, oL_3, oL_4, oT_2, oT_3, okB_bind, e_call, oCall_ok, e_calld, oCalld_ok, o_calld, e_revl, o_revl, e_bi, e_mt, e_isi, oIsi_1, e_lset, i_ls, i_rng, oFor_t, oFor_f, x_for, step_1, step_2, fin_rt, isNul, eEnv, List.map_cons, List.map_nil, Option.map_some, Option.map_none, er, ers, getS, setS, Bool.and_true, Bool.true_and, Bool.and_false, Bool.false_and, Bool.or_false, Bool.false_or, Bool.or_true, Bool.true_or, Bool.not_true, Bool.not_false, hls, frz, srcsI, srcs, Nat.zero_add, List.take_length]
  clear e hb
  generalize hb : stepF (callO tab gt (n + 2)) gt [3] _ = body2
  obtain ⟨Γ', e, hR⟩ := forL_rel (f := body2) (fun p => dN (ring ts p)) (fun i Γ => ∃ a, Γ = [some (.sh (.list ((rings ts).map dN))), some (.sh (dTs ts)), some (oN (heads ts)), a, some (oN (((heads ts).take i).flatMap (ring ts))), none]) (heads ts) 0 [some (.sh (.list ((rings ts).map dN))), some (.sh (dTs ts)), some (oN (heads ts)), a, some (.lst []), none] ⟨a, rfl⟩ (by
    rintro j Γ p hj ⟨s3, rfl⟩
    simp -implicitDefEqProofs only [Nat.zero_add]
    have hcat : oBin .add (.ok (.sh (dN (((heads ts).take j).flatMap (ring ts))))) (.ok (.sh (dN (ring ts p)))) = .ok (oN (((heads ts).take (j + 1)).flatMap (ring ts))) := by
      have hjl := (List.getElem?_eq_some_iff.mp hj).1
      have e1 := getElem_take_succ hj
      have hlen := take_flat ok (j + 1)
      rw [e1, List.flatMap_append, List.length_append, List.flatMap_singleton] at hlen
      rw [bin_cat (a := (((heads ts).take j).flatMap (ring ts)).map fun (k : Nat) => PyData.int k) (b := (ring ts p).map fun (k : Nat) => PyData.int k) rfl rfl (by rw [List.length_map, List.length_map, sizeLine_eq]; omega), ← List.map_append, oN_shl, e1, List.flatMap_append, List.flatMap_singleton]
    subst hb
    simp -implicitDefEqProofs only [xs_nil, xs_cons, then_nx, then_rt, then_bk, x_asg, oAsg_1, oAsg_t2, oAsg_s2, x_ret, oRet_ok, x_ite, oIte_t, oIte_f, x_pass, x_brk, kO_int, kO_bool, kO_none, kO_str, o_var, o_con, o_bin, o_neg, o_cmp, o_chain, o_not, o_and, o_or, o_idx, o_cut, o_call, o_bi, o_mt, o_isi, o_comp, o_dnew, os_nil, os_cons, oSeq_ok, oPre_ok, o_lst, o_tup, oLst_0, oLst_1, oLst_2, oLst_3, oTup_2, oTup_3, e_var, e_mv, oVar_some, e_con, e_bin, bin_add, bin_sub, bin_xor, e_neg, oNeg_ok, e_cmp, cmp_lt, cmp_le, cmp_gt, cmp_ge, cmp_eqI, cmp_neI, dec_N, cmp_isN_int, cmp_isN_none, cmp_notN_int, cmp_notN_none, e_chain, chain_lelt, e_not, oNot_ok, oB_ok, e_and, e_or, a_nil, a_cons, r_nil, r_cons, oAnd_f, oAnd_t, oAnd_ok, oOr_f, oOr_t, oOr_ok, e_idx, e_cut, part_t, part_f, s_nil, s_cons, oCons_ok, e_lst, e_tup, oL_0, oL_1, oL_2, oL_3, oL_4, oT_2, oT_3, okB_bind, e_call, oCall_ok, e_calld, oCalld_ok, o_calld, e_revl, o_revl, e_bi, e_mt, e_isi, oIsi_1, e_lset, i_ls, i_rng, oFor_t, oFor_f, x_for, step_1, step_2, fin_rt, isNul, eEnv, List.map_cons, List.map_nil, Option.map_some, Option.map_none, er, ers, getS, setS, Bool.and_true, Bool.true_and, Bool.and_false, Bool.false_and, Bool.or_false, Bool.false_or, Bool.or_true, Bool.true_or, Bool.not_true, Bool.not_false, er_oN, hcat, kO_oN]
    exact ⟨_, rfl, some (.sh (dN (ring ts p))), rfl⟩)
  obtain ⟨a2, rfl⟩ := hR
  rw [e]
  clear e hb
  have hf : (List.range ts.length).filter (cyc ts) = (List.range ts.length).filter (cyc ts) := rfl
  have hperm : ((heads ts).flatMap (ring ts)).Perm ((List.range ts.length).filter (cyc ts)) := by
    refine nodup_perm (flat_nodup ok) (List.Pairwise.filter _ List.nodup_range) fun x => ?_
    rw [flat_mem ok, List.mem_filter, List.mem_range]
  have hsorted := sorted_N (x := .sh (dN ((heads ts).flatMap (ring ts)))) rfl (List.Pairwise.filter (cyc ts) List.pairwise_lt_range) hperm
  have c1 : ev (callO tab gt (n + 2)) gt [some (.list ((rings ts).map dN)), some (dTs ts), some (dN (heads ts)), a2.map er, some (dN ((heads ts).flatMap (ring ts))), none] (.comp (.var 5) [5] (.rng (.cons (.bi .len (.cons (.var 1) .nil)) .nil)) (.cons (.call 45 (.cons (.var 1) (.cons (.var 5) .nil))) .nil) [5]) = .ok (oN ((List.range ts.length).filter (cyc ts))) := by
    rw [e_comp]
    simp -implicitDefEqProofs only [xs_nil, xs_cons, then_nx, then_rt, then_bk, x_asg, oAsg_1, oAsg_t2, oAsg_s2, x_ret, oRet_ok, x_ite, oIte_t, oIte_f, x_pass, x_brk, kO_int, kO_bool, kO_none, kO_str, o_var, o_con, o_bin, o_neg, o_cmp, o_chain, o_not, o_and, o_or, o_idx, o_cut, o_call, o_bi, o_mt, o_isi, o_comp, o_dnew, os_nil, os_cons, oSeq_ok, oPre_ok, o_lst, o_tup, oLst_0, oLst_1, oLst_2, oLst_3, oTup_2, oTup_3, e_var, e_mv, oVar_some, e_con, e_bin, bin_add, bin_sub, bin_xor, e_neg, oNeg_ok, e_cmp, cmp_lt, cmp_le, cmp_gt, cmp_ge, cmp_eqI, cmp_neI, dec_N, cmp_isN_int, cmp_isN_none, cmp_notN_int, cmp_notN_none, e_chain, chain_lelt, e_not, oNot_ok, oB_ok, e_and, e_or, a_nil, a_cons, r_nil, r_cons, oAnd_f, oAnd_t, oAnd_ok, oOr_f, oOr_t, oOr_ok, e_idx, e_cut, part_t, part_f, s_nil, s_cons, oCons_ok, e_lst, e_tup, oL_0, oL_1, oL_2, oL_3, oL_4, oT_2, oT_3, okB_bind, e_call, oCall_ok, e_calld, oCalld_ok, o_calld, e_revl, o_revl, e_bi, e_mt, e_isi, oIsi_1, e_lset, i_ls, i_rng, oFor_t, oFor_f, x_for, step_1, step_2, fin_rt, isNul, eEnv, List.map_cons, List.map_nil, Option.map_some, Option.map_none, er, ers, getS, setS, Bool.and_true, Bool.true_and, Bool.and_false, Bool.false_and, Bool.or_false, Bool.false_or, Bool.or_true, Bool.true_or, Bool.not_true, Bool.not_false, len_T, rng_n (show ts.length ≤ 1000000 by omega)]
    refine (oComp_ok (os := ((List.range ts.length).filter (cyc ts)).map fun (k : Nat) => O.sh (.int k)) (compL_filter _ (cyc ts) (fun (k : Nat) => O.sh (.int k)) _ fun b hb => ?_) ?_).trans rfl
    · have hbl := List.mem_range.mp hb
      have hcond : ev (callO tab gt (n + 2)) gt (setS (wipeS [some (.list ((rings ts).map dN)), some (dTs ts), some (dN (heads ts)), a2.map er, some (dN ((heads ts).flatMap (ring ts))), none] [5]) 5 (some (.int (b : Int)))) (.call 45 (.cons (.var 1) (.cons (.var 5) .nil))) = .ok (.sh (.bool (cyc ts b))) := by
        simp -implicitDefEqProofs only [wipeS, xs_nil, xs_cons, then_nx, then_rt, then_bk, x_asg, oAsg_1, oAsg_t2, oAsg_s2, x_ret, oRet_ok, x_ite, oIte_t, oIte_f, x_pass, x_brk, kO_int, kO_bool, kO_none, kO_str, o_var, o_con, o_bin, o_neg, o_cmp, o_chain, o_not, o_and, o_or, o_idx, o_cut, o_call, o_bi, o_mt, o_isi, o_comp, o_dnew, os_nil, os_cons, oSeq_ok, oPre_ok, o_lst, o_tup, oLst_0, oLst_1, oLst_2, oLst_3, oTup_2, oTup_3, e_var, e_mv, oVar_some, e_con, e_bin, bin_add, bin_sub, bin_xor, e_neg, oNeg_ok, e_cmp, cmp_lt, cmp_le, cmp_gt, cmp_ge, cmp_eqI, cmp_neI, dec_N, cmp_isN_int, cmp_isN_none, cmp_notN_int, cmp_notN_none, e_chain, chain_lelt, e_not, oNot_ok, oB_ok, e_and, e_or, a_nil, a_cons, r_nil, r_cons, oAnd_f, oAnd_t, oAnd_ok, oOr_f, oOr_t, oOr_ok, e_idx, e_cut, part_t, part_f, s_nil, s_cons, oCons_ok, e_lst, e_tup, oL_0, oL_1, oL_2, oL_3, oL_4, oT_2, oT_3, okB_bind, e_call, oCall_ok, e_calld, oCalld_ok, o_calld, e_revl, o_revl, e_bi, e_mt, e_isi, oIsi_1, e_lset, i_ls, i_rng, oFor_t, oFor_f, x_for, step_1, step_2, fin_rt, isNul, eEnv, List.map_cons, List.map_nil, Option.map_some, Option.map_none, er, ers, getS, setS, Bool.and_true, Bool.true_and, Bool.and_false, Bool.false_and, Bool.or_false, Bool.false_or, Bool.or_true, Bool.true_or, Bool.not_true, Bool.not_false, on_ok h45 (n + 1) ok hl hbl]
      rw [cT_1c _ _ _ _ _ hcond]
      simp -implicitDefEqProofs only [wipeS, xs_nil, xs_cons, then_nx, then_rt, then_bk, x_asg, oAsg_1, oAsg_t2, oAsg_s2, x_ret, oRet_ok, x_ite, oIte_t, oIte_f, x_pass, x_brk, kO_int, kO_bool, kO_none, kO_str, o_var, o_con, o_bin, o_neg, o_cmp, o_chain, o_not, o_and, o_or, o_idx, o_cut, o_call, o_bi, o_mt, o_isi, o_comp, o_dnew, os_nil, os_cons, oSeq_ok, oPre_ok, o_lst, o_tup, oLst_0, oLst_1, oLst_2, oLst_3, oTup_2, oTup_3, e_var, e_mv, oVar_some, e_con, e_bin, bin_add, bin_sub, bin_xor, e_neg, oNeg_ok, e_cmp, cmp_lt, cmp_le, cmp_gt, cmp_ge, cmp_eqI, cmp_neI, dec_N, cmp_isN_int, cmp_isN_none, cmp_notN_int, cmp_notN_none, e_chain, chain_lelt, e_not, oNot_ok, oB_ok, e_and, e_or, a_nil, a_cons, r_nil, r_cons, oAnd_f, oAnd_t, oAnd_ok, oOr_f, oOr_t, oOr_ok, e_idx, e_cut, part_t, part_f, s_nil, s_cons, oCons_ok, e_lst, e_tup, oL_0, oL_1, oL_2, oL_3, oL_4, oT_2, oT_3, okB_bind, e_call, oCall_ok, e_calld, oCalld_ok, o_calld, e_revl, o_revl, e_bi, e_mt, e_isi, oIsi_1, e_lset, i_ls, i_rng, oFor_t, oFor_f, x_for, step_1, step_2, fin_rt, isNul, eEnv, List.map_cons, List.map_nil, Option.map_some, Option.map_none, er, ers, getS, setS, Bool.and_true, Bool.true_and, Bool.and_false, Bool.false_and, Bool.or_false, Bool.false_or, Bool.or_true, Bool.true_or, Bool.not_true, Bool.not_false, Res.bind_ok]
      cases cyc ts b <;> rfl
    · have := List.length_filter_le (cyc ts) (List.range ts.length)
      rw [List.length_range] at this
      rw [List.length_map, sizeLine_eq]; omega
  simp -implicitDefEqProofs only [then_nx, Nat.zero_add, List.take_length, xs_cons, x_ret, o_cmp, e_cmp, e_bi, s_cons, s_nil, e_var, eEnv, List.map_cons, List.map_nil, Option.map_some, Option.map_none, er, er_oN, getS, oVar_some, oCons_ok, hsorted, c1, cmp_eqN (er_oN _) (er_oN _), kO_bool, oRet_ok, then_rt, fin_rt]
end
end Rp

set_option Elab.async false
set_option linter.all false
set_option maxRecDepth 100000
set_option maxHeartbeats 4000000
/-! RpK12c: tops drawn; the law. -/
namespace Rp
open PySem Rp.T Rg

/-! each thing of a list cleared -/
theorem pix_app {n i : Nat} (h : i < n) : pix n (i : Int) = some i := pix_nat h
theorem mutAt_clear {Γ : En} {x i : Nat} {os : List O} {es : List O} (h : getS Γ x = some (.lst os)) (hi : os[i]? = some (.lst es)) : mutAt .clear x [(i : Int)] [] Γ = some (setS Γ x (some (.lst (os.set i (.lst []))))) := by
  have hl := (List.getElem?_eq_some_iff.mp hi).1
  simp -implicitDefEqProofs only [mutAt, atO, h, Option.bind_some, locO, pix_nat hl, hi, mutO, putO, repO, Option.map_some]
theorem eachI_clear {x : Nat} : ∀ (k i : Nat) (Γ : En) (os : List O), getS Γ x = some (.lst os) → x < Γ.length → i + k = os.length → (∀ j, i ≤ j → j < os.length → ∃ es, os[j]? = some (.lst es)) → ∃ os', eachI .clear x [] [] ((List.range' i k)) Γ = some (setS Γ x (some (.lst os')))
  | 0, i, Γ, os, h, hx, hk, ho => ⟨os, by
      simp -implicitDefEqProofs only [List.range'_zero, eachI]
      rw [← h, setS_get]⟩
  | k + 1, i, Γ, os, h, hx, hk, ho => by
    obtain ⟨es, hes⟩ := ho i (Nat.le_refl _) (by omega)
    rw [List.range'_succ]
    have hm := mutAt_clear h hes
    simp -implicitDefEqProofs only [eachI, List.nil_append]
    rw [hm, Option.bind_some]
    obtain ⟨os', e⟩ := eachI_clear k (i + 1) (setS Γ x (some (.lst (os.set i (.lst []))))) (os.set i (.lst [])) (by rw [getS_set, if_pos rfl, if_pos hx]) (by rw [setS_len]; exact hx) (by rw [List.length_set]; omega) (fun j h1 h2 => by
      rw [List.length_set] at h2
      obtain ⟨es2, e2⟩ := ho j (by omega) h2
      exact ⟨es2, by rw [List.getElem?_set, if_neg (by omega)]; exact e2⟩)
    exact ⟨os', by rw [e, setS_set]⟩
theorem x_each_clear {Φ : Nat → List O → Res O} {gt : Nat → Option D} {Γ : En} {x y : Nat} {os : List O} (h : getS Γ x = some (.lst os)) (hx : x < Γ.length) (hy : y < Γ.length) (hne : y ≠ x) (ho : ∀ o ∈ os, ∃ es, o = .lst es) :
    ∃ os', exec Φ gt (.each .clear y x .nil .nil) Γ = .nx (setS (setS Γ y none) x (some (.lst os'))) := by
  have h2 : getS (setS Γ y none) x = some (.lst os) := by rw [getS_set, if_neg hne]; exact h
  obtain ⟨os', e⟩ := eachI_clear os.length 0 (setS Γ y none) os h2 (by rw [setS_len]; exact hx) (by omega) (fun j _ hj => by
    obtain ⟨es, e⟩ := ho _ (List.getElem_mem hj)
    exact ⟨es, by rw [List.getElem?_eq_getElem hj, e]⟩)
  refine ⟨os', ?_⟩
  simp -implicitDefEqProofs only [exec, h, Res.of_some, Res.out, evPath, atO, Option.bind_some, locO, evOs, hy, if_true]
  rw [List.range_eq_range', e]
  rfl
section
variable {tab : Tab} {gt : Nat → Option D} {Γ : En}
def oTp (h : Option Nat) : O := .sh (dT h)
theorem er_oTp (ts : Tops) : er (.lst (ts.map oTp)) = dTs ts := by
  simp -implicitDefEqProofs only [er, ers_map, List.map_map, dTs]
  rfl
theorem ers_T (ts : Tops) : PyData.list (ers (ts.map oTp)) = dTs ts := er_oTp ts
theorem er_shl (ds : List D) : er (shl ds) = .list ds := by simp -implicitDefEqProofs only [shl, er, ers_shs]
theorem shl_T (ts : Tops) : shl (ts.map dT) = .lst (ts.map oTp) := by simp -implicitDefEqProofs only [shl, List.map_map]; rfl
theorem clean_oTp (ts : Tops) : clean (.lst (ts.map oTp)) = true := by
  simp -implicitDefEqProofs only [clean]
  induction ts with
  | nil => rfl
  | cons t ts ih => cases t <;> simp [cleans, clean, oTp, dT, flat, ih]
theorem kO_oTp (e : Ex) (ts : Tops) : kO e Γ (.ok (.lst (ts.map oTp))) = .ok (.lst (ts.map oTp), Γ) := kO_ok e (clean_oTp ts)
theorem tops_ok (h : tab 44 = some f44) (h6 : tab 6 = some f6) (n : Nat) {x : Int} (hx : I64 x) (cs : List Int) : ∃ ts : Tops, Ok ts ∧ 1 ≤ ts.length ∧ ts.length ≤ 8 ∧ callF tab gt (n + 2) 44 [.list (cs.map PyData.int), .int x] = .ok (.lst (ts.map oTp)) := by
  rw [callF_go h _ _ rfl]
  have p1 : oBin .pow (.ok (.sh (.int 2))) (.ok (.sh (.int 7))) = .ok (.sh (.int 128)) := by rw [bin_pow (by decide)]; rfl
  have p2 : oBin .pow (.ok (.sh (.int 2))) (.ok (.sh (.int 9))) = .ok (.sh (.int 512)) := by rw [bin_pow (by decide)]; rfl
  have p3 : oBin .pow (.ok (.sh (.int 2))) (.ok (.sh (.int 20))) = .ok (.sh (.int 1048576)) := by rw [bin_pow (by decide)]; rfl
  have d1 : ∀ y : Int, divOk y 128 = true := fun y => divOk_of 64 (by decide) (by decide) (by decide) (by decide)
  have d2 : ∀ y : Int, divOk y 512 = true := fun y => divOk_of 64 (by decide) (by decide) (by decide) (by decide)
  have d3 : ∀ y : Int, divOk y 1048576 = true := fun y => divOk_of 64 (by decide) (by decide) (by decide) (by decide)
  obtain ⟨m, hm⟩ : ∃ m : Nat, 1 + x / 128 % 8 = (m : Int) := ⟨(1 + x / 128 % 8).toNat, by
    have := Int.emod_nonneg (x / 128) (show (8 : Int) ≠ 0 by decide); omega⟩
  have hm1 : 1 ≤ m ∧ m ≤ 8 := by
    have h1 := Int.emod_nonneg (x / 128) (show (8 : Int) ≠ 0 by decide)
    have h2 := Int.emod_lt_of_pos (x / 128) (show (0 : Int) < 8 by decide)
    omega
  have hmp : (0 : Int) < (m : Int) := by omega
  have dm : ∀ y : Int, divOk y (m : Int) = true := fun y => divOk_of 64 hmp (by omega) (by decide) (by decide)
  have hls : oLsI (.ok (.sh (.list (cs.map PyData.int)))) = .ok (cs.map PyData.int, false) := oLsI_ok rfl
  simp -implicitDefEqProofs only [f44, start, List.length_cons, List.length_nil, List.replicate, Nat.sub_self, Nat.reduceAdd, Nat.reduceSub, List.cons_append, List.nil_append, xs_nil, xs_cons, then_nx, then_rt, then_bk, x_asg, oAsg_1, oAsg_t2, oAsg_s2, x_ret, oRet_ok, x_ite, oIte_t, oIte_f, x_pass, x_brk, kO_int, kO_bool, kO_none, kO_str, o_var, o_con, o_bin, o_neg, o_cmp, o_chain, o_not, o_and, o_or, o_idx, o_cut, o_call, o_bi, o_mt, o_isi, o_comp, o_dnew, os_nil, os_cons, oSeq_ok, oPre_ok, o_lst, o_tup, oLst_0, oLst_1, oLst_2, oLst_3, oTup_2, oTup_3, e_var, e_mv, oVar_some, e_con, e_bin, bin_add, bin_sub, bin_xor, e_neg, oNeg_ok, e_cmp, cmp_lt, cmp_le, cmp_gt, cmp_ge, cmp_eqI, cmp_neI, dec_N, cmp_isN_int, cmp_isN_none, cmp_notN_int, cmp_notN_none, e_chain, chain_lelt, e_not, oNot_ok, oB_ok, e_and, e_or, a_nil, a_cons, r_nil, r_cons, oAnd_f, oAnd_t, oAnd_ok, oOr_f, oOr_t, oOr_ok, e_idx, e_cut, part_t, part_f, s_nil, s_cons, oCons_ok, e_lst, e_tup, oL_0, oL_1, oL_2, oL_3, oL_4, oT_2, oT_3, okB_bind, e_call, oCall_ok, e_calld, oCalld_ok, o_calld, e_revl, o_revl, e_bi, e_mt, e_isi, oIsi_1, e_lset, i_ls, i_rng, oFor_t, oFor_f, x_for, step_1, step_2, fin_rt, isNul, eEnv, List.map_cons, List.map_nil, Option.map_some, Option.map_none, er, ers, getS, setS, Bool.and_true, Bool.true_and, Bool.and_false, Bool.false_and, Bool.or_false, Bool.false_or, Bool.or_true, Bool.true_or, Bool.not_true, Bool.not_false, p1, bin_fdiv (d1 _), bin_mod (show (0 : Int) < 8 by decide), hm, rng_n (show m ≤ 1000000 by omega)]
  generalize hb : stepF (callO tab gt (n + 1)) gt [4] _ = body
  obtain ⟨Γ', e, hR⟩ := forL_rel (f := body) (fun (k : Nat) => PyData.int k) (fun i Γ => ∃ (y : Int) (ts : Tops) (a b : Option O), I64 y ∧ ts.length = i ∧ (∀ k, some k ∈ ts → k < m) ∧ Γ = [some (.sh (.list (cs.map PyData.int))), some (.sh (.int y)), some (.sh (.int (m : Int))), some (.lst (ts.map oTp)), a, b, none]) (List.range m) 0 [some (.sh (.list (cs.map PyData.int))), some (.sh (.int x)), some (.sh (.int (m : Int))), some (.lst []), none, none, none] ⟨x, [], none, none, hx, rfl, fun k hk => (by cases hk), rfl⟩ (by
    rintro j Γ p hj ⟨y, ts, s4, s5, hy, hlen, hts, rfl⟩
    obtain ⟨rfl, hjn⟩ := range_at hj
    have hy' := next64 y
    obtain ⟨e, he⟩ : ∃ e : Nat, nextI y / 512 % (m : Int) = (e : Int) := ⟨(nextI y / 512 % (m : Int)).toNat, by
      have := Int.emod_nonneg (nextI y / 512) (show (m : Int) ≠ 0 by omega); omega⟩
    have hem : e < m := by
      have := Int.emod_lt_of_pos (nextI y / 512) hmp
      omega
    have hz : (ts.map oTp).length < sizeLine := by rw [List.length_map, sizeLine_eq]; omega
    subst hb
    simp -implicitDefEqProofs only [xs_nil, xs_cons, then_nx, then_rt, then_bk, x_asg, oAsg_1, oAsg_t2, oAsg_s2, x_ret, oRet_ok, x_ite, oIte_t, oIte_f, x_pass, x_brk, kO_int, kO_bool, kO_none, kO_str, o_var, o_con, o_bin, o_neg, o_cmp, o_chain, o_not, o_and, o_or, o_idx, o_cut, o_call, o_bi, o_mt, o_isi, o_comp, o_dnew, os_nil, os_cons, oSeq_ok, oPre_ok, o_lst, o_tup, oLst_0, oLst_1, oLst_2, oLst_3, oTup_2, oTup_3, e_var, e_mv, oVar_some, e_con, e_bin, bin_add, bin_sub, bin_xor, e_neg, oNeg_ok, e_cmp, cmp_lt, cmp_le, cmp_gt, cmp_ge, cmp_eqI, cmp_neI, dec_N, cmp_isN_int, cmp_isN_none, cmp_notN_int, cmp_notN_none, e_chain, chain_lelt, e_not, oNot_ok, oB_ok, e_and, e_or, a_nil, a_cons, r_nil, r_cons, oAnd_f, oAnd_t, oAnd_ok, oOr_f, oOr_t, oOr_ok, e_idx, e_cut, part_t, part_f, s_nil, s_cons, oCons_ok, e_lst, e_tup, oL_0, oL_1, oL_2, oL_3, oL_4, oT_2, oT_3, okB_bind, e_call, oCall_ok, e_calld, oCalld_ok, o_calld, e_revl, o_revl, e_bi, e_mt, e_isi, oIsi_1, e_lset, i_ls, i_rng, oFor_t, oFor_f, x_for, step_1, step_2, fin_rt, isNul, eEnv, List.map_cons, List.map_nil, Option.map_some, Option.map_none, er, ers, getS, setS, Bool.and_true, Bool.true_and, Bool.and_false, Bool.false_and, Bool.or_false, Bool.false_or, Bool.or_true, Bool.true_or, Bool.not_true, Bool.not_false, next_ok h6 n hy, p2, p3, bin_fdiv (d2 _), bin_fdiv (d3 _), bin_mod hmp, bin_mod (show (0 : Int) < 6 by decide), he]
    by_cases hq : nextI y / 1048576 % 6 = 1
    · simp -implicitDefEqProofs only [hq, decide_true, xs_nil, xs_cons, then_nx, then_rt, then_bk, x_asg, oAsg_1, oAsg_t2, oAsg_s2, x_ret, oRet_ok, x_ite, oIte_t, oIte_f, x_pass, x_brk, kO_int, kO_bool, kO_none, kO_str, o_var, o_con, o_bin, o_neg, o_cmp, o_chain, o_not, o_and, o_or, o_idx, o_cut, o_call, o_bi, o_mt, o_isi, o_comp, o_dnew, os_nil, os_cons, oSeq_ok, oPre_ok, o_lst, o_tup, oLst_0, oLst_1, oLst_2, oLst_3, oTup_2, oTup_3, e_var, e_mv, oVar_some, e_con, e_bin, bin_add, bin_sub, bin_xor, e_neg, oNeg_ok, e_cmp, cmp_lt, cmp_le, cmp_gt, cmp_ge, cmp_eqI, cmp_neI, dec_N, cmp_isN_int, cmp_isN_none, cmp_notN_int, cmp_notN_none, e_chain, chain_lelt, e_not, oNot_ok, oB_ok, e_and, e_or, a_nil, a_cons, r_nil, r_cons, oAnd_f, oAnd_t, oAnd_ok, oOr_f, oOr_t, oOr_ok, e_idx, e_cut, part_t, part_f, s_nil, s_cons, oCons_ok, e_lst, e_tup, oL_0, oL_1, oL_2, oL_3, oL_4, oT_2, oT_3, okB_bind, e_call, oCall_ok, e_calld, oCalld_ok, o_calld, e_revl, o_revl, e_bi, e_mt, e_isi, oIsi_1, e_lset, i_ls, i_rng, oFor_t, oFor_f, x_for, step_1, step_2, fin_rt, isNul, eEnv, List.map_cons, List.map_nil, Option.map_some, Option.map_none, er, ers, getS, setS, Bool.and_true, Bool.true_and, Bool.and_false, Bool.false_and, Bool.or_false, Bool.false_or, Bool.or_true, Bool.true_or, Bool.not_true, Bool.not_false]
      rw [x_mut0 (by decide) 3 _ (os := ts.map oTp) rfl]
      rw [os_cons, o_mv_sh (i := 5) (d := .none) rfl]
      simp -implicitDefEqProofs only [xs_nil, xs_cons, then_nx, then_rt, then_bk, x_asg, oAsg_1, oAsg_t2, oAsg_s2, x_ret, oRet_ok, x_ite, oIte_t, oIte_f, x_pass, x_brk, kO_int, kO_bool, kO_none, kO_str, o_var, o_con, o_bin, o_neg, o_cmp, o_chain, o_not, o_and, o_or, o_idx, o_cut, o_call, o_bi, o_mt, o_isi, o_comp, o_dnew, os_nil, os_cons, oSeq_ok, oPre_ok, o_lst, o_tup, oLst_0, oLst_1, oLst_2, oLst_3, oTup_2, oTup_3, e_var, e_mv, oVar_some, e_con, e_bin, bin_add, bin_sub, bin_xor, e_neg, oNeg_ok, e_cmp, cmp_lt, cmp_le, cmp_gt, cmp_ge, cmp_eqI, cmp_neI, dec_N, cmp_isN_int, cmp_isN_none, cmp_notN_int, cmp_notN_none, e_chain, chain_lelt, e_not, oNot_ok, oB_ok, e_and, e_or, a_nil, a_cons, r_nil, r_cons, oAnd_f, oAnd_t, oAnd_ok, oOr_f, oOr_t, oOr_ok, e_idx, e_cut, part_t, part_f, s_nil, s_cons, oCons_ok, e_lst, e_tup, oL_0, oL_1, oL_2, oL_3, oL_4, oT_2, oT_3, okB_bind, e_call, oCall_ok, e_calld, oCalld_ok, o_calld, e_revl, o_revl, e_bi, e_mt, e_isi, oIsi_1, e_lset, i_ls, i_rng, oFor_t, oFor_f, x_for, step_1, step_2, fin_rt, isNul, eEnv, List.map_cons, List.map_nil, Option.map_some, Option.map_none, er, ers, getS, setS, Bool.and_true, Bool.true_and, Bool.and_false, Bool.false_and, Bool.or_false, Bool.false_or, Bool.or_true, Bool.true_or, Bool.not_true, Bool.not_false]
      rw [oMut_app0 (os := ts.map oTp) rfl hz]
      simp -implicitDefEqProofs only [xs_nil, xs_cons, then_nx, then_rt, then_bk, x_asg, oAsg_1, oAsg_t2, oAsg_s2, x_ret, oRet_ok, x_ite, oIte_t, oIte_f, x_pass, x_brk, kO_int, kO_bool, kO_none, kO_str, o_var, o_con, o_bin, o_neg, o_cmp, o_chain, o_not, o_and, o_or, o_idx, o_cut, o_call, o_bi, o_mt, o_isi, o_comp, o_dnew, os_nil, os_cons, oSeq_ok, oPre_ok, o_lst, o_tup, oLst_0, oLst_1, oLst_2, oLst_3, oTup_2, oTup_3, e_var, e_mv, oVar_some, e_con, e_bin, bin_add, bin_sub, bin_xor, e_neg, oNeg_ok, e_cmp, cmp_lt, cmp_le, cmp_gt, cmp_ge, cmp_eqI, cmp_neI, dec_N, cmp_isN_int, cmp_isN_none, cmp_notN_int, cmp_notN_none, e_chain, chain_lelt, e_not, oNot_ok, oB_ok, e_and, e_or, a_nil, a_cons, r_nil, r_cons, oAnd_f, oAnd_t, oAnd_ok, oOr_f, oOr_t, oOr_ok, e_idx, e_cut, part_t, part_f, s_nil, s_cons, oCons_ok, e_lst, e_tup, oL_0, oL_1, oL_2, oL_3, oL_4, oT_2, oT_3, okB_bind, e_call, oCall_ok, e_calld, oCalld_ok, o_calld, e_revl, o_revl, e_bi, e_mt, e_isi, oIsi_1, e_lset, i_ls, i_rng, oFor_t, oFor_f, x_for, step_1, step_2, fin_rt, isNul, eEnv, List.map_cons, List.map_nil, Option.map_some, Option.map_none, er, ers, getS, setS, Bool.and_true, Bool.true_and, Bool.and_false, Bool.false_and, Bool.or_false, Bool.false_or, Bool.or_true, Bool.true_or, Bool.not_true, Bool.not_false]
      refine ⟨_, rfl, nextI y, ts ++ [none], some (.sh (.int (p : Int))), some (.sh .none), hy', by simp [hlen], fun k hk => ?_, by simp [oTp, dT]⟩
      rcases List.mem_append.mp hk with z | z
      · exact hts k z
      · simp at z
    · simp -implicitDefEqProofs only [hq, decide_false, xs_nil, xs_cons, then_nx, then_rt, then_bk, x_asg, oAsg_1, oAsg_t2, oAsg_s2, x_ret, oRet_ok, x_ite, oIte_t, oIte_f, x_pass, x_brk, kO_int, kO_bool, kO_none, kO_str, o_var, o_con, o_bin, o_neg, o_cmp, o_chain, o_not, o_and, o_or, o_idx, o_cut, o_call, o_bi, o_mt, o_isi, o_comp, o_dnew, os_nil, os_cons, oSeq_ok, oPre_ok, o_lst, o_tup, oLst_0, oLst_1, oLst_2, oLst_3, oTup_2, oTup_3, e_var, e_mv, oVar_some, e_con, e_bin, bin_add, bin_sub, bin_xor, e_neg, oNeg_ok, e_cmp, cmp_lt, cmp_le, cmp_gt, cmp_ge, cmp_eqI, cmp_neI, dec_N, cmp_isN_int, cmp_isN_none, cmp_notN_int, cmp_notN_none, e_chain, chain_lelt, e_not, oNot_ok, oB_ok, e_and, e_or, a_nil, a_cons, r_nil, r_cons, oAnd_f, oAnd_t, oAnd_ok, oOr_f, oOr_t, oOr_ok, e_idx, e_cut, part_t, part_f, s_nil, s_cons, oCons_ok, e_lst, e_tup, oL_0, oL_1, oL_2, oL_3, oL_4, oT_2, oT_3, okB_bind, e_call, oCall_ok, e_calld, oCalld_ok, o_calld, e_revl, o_revl, e_bi, e_mt, e_isi, oIsi_1, e_lset, i_ls, i_rng, oFor_t, oFor_f, x_for, step_1, step_2, fin_rt, isNul, eEnv, List.map_cons, List.map_nil, Option.map_some, Option.map_none, er, ers, getS, setS, Bool.and_true, Bool.true_and, Bool.and_false, Bool.false_and, Bool.or_false, Bool.false_or, Bool.or_true, Bool.true_or, Bool.not_true, Bool.not_false]
      rw [x_mut0 (by decide) 3 _ (os := ts.map oTp) rfl]
      rw [os_cons, o_mv_sh (i := 5) (d := .int (e : Int)) rfl]
      simp -implicitDefEqProofs only [xs_nil, xs_cons, then_nx, then_rt, then_bk, x_asg, oAsg_1, oAsg_t2, oAsg_s2, x_ret, oRet_ok, x_ite, oIte_t, oIte_f, x_pass, x_brk, kO_int, kO_bool, kO_none, kO_str, o_var, o_con, o_bin, o_neg, o_cmp, o_chain, o_not, o_and, o_or, o_idx, o_cut, o_call, o_bi, o_mt, o_isi, o_comp, o_dnew, os_nil, os_cons, oSeq_ok, oPre_ok, o_lst, o_tup, oLst_0, oLst_1, oLst_2, oLst_3, oTup_2, oTup_3, e_var, e_mv, oVar_some, e_con, e_bin, bin_add, bin_sub, bin_xor, e_neg, oNeg_ok, e_cmp, cmp_lt, cmp_le, cmp_gt, cmp_ge, cmp_eqI, cmp_neI, dec_N, cmp_isN_int, cmp_isN_none, cmp_notN_int, cmp_notN_none, e_chain, chain_lelt, e_not, oNot_ok, oB_ok, e_and, e_or, a_nil, a_cons, r_nil, r_cons, oAnd_f, oAnd_t, oAnd_ok, oOr_f, oOr_t, oOr_ok, e_idx, e_cut, part_t, part_f, s_nil, s_cons, oCons_ok, e_lst, e_tup, oL_0, oL_1, oL_2, oL_3, oL_4, oT_2, oT_3, okB_bind, e_call, oCall_ok, e_calld, oCalld_ok, o_calld, e_revl, o_revl, e_bi, e_mt, e_isi, oIsi_1, e_lset, i_ls, i_rng, oFor_t, oFor_f, x_for, step_1, step_2, fin_rt, isNul, eEnv, List.map_cons, List.map_nil, Option.map_some, Option.map_none, er, ers, getS, setS, Bool.and_true, Bool.true_and, Bool.and_false, Bool.false_and, Bool.or_false, Bool.false_or, Bool.or_true, Bool.true_or, Bool.not_true, Bool.not_false]
      rw [oMut_app0 (os := ts.map oTp) rfl hz]
      simp -implicitDefEqProofs only [xs_nil, xs_cons, then_nx, then_rt, then_bk, x_asg, oAsg_1, oAsg_t2, oAsg_s2, x_ret, oRet_ok, x_ite, oIte_t, oIte_f, x_pass, x_brk, kO_int, kO_bool, kO_none, kO_str, o_var, o_con, o_bin, o_neg, o_cmp, o_chain, o_not, o_and, o_or, o_idx, o_cut, o_call, o_bi, o_mt, o_isi, o_comp, o_dnew, os_nil, os_cons, oSeq_ok, oPre_ok, o_lst, o_tup, oLst_0, oLst_1, oLst_2, oLst_3, oTup_2, oTup_3, e_var, e_mv, oVar_some, e_con, e_bin, bin_add, bin_sub, bin_xor, e_neg, oNeg_ok, e_cmp, cmp_lt, cmp_le, cmp_gt, cmp_ge, cmp_eqI, cmp_neI, dec_N, cmp_isN_int, cmp_isN_none, cmp_notN_int, cmp_notN_none, e_chain, chain_lelt, e_not, oNot_ok, oB_ok, e_and, e_or, a_nil, a_cons, r_nil, r_cons, oAnd_f, oAnd_t, oAnd_ok, oOr_f, oOr_t, oOr_ok, e_idx, e_cut, part_t, part_f, s_nil, s_cons, oCons_ok, e_lst, e_tup, oL_0, oL_1, oL_2, oL_3, oL_4, oT_2, oT_3, okB_bind, e_call, oCall_ok, e_calld, oCalld_ok, o_calld, e_revl, o_revl, e_bi, e_mt, e_isi, oIsi_1, e_lset, i_ls, i_rng, oFor_t, oFor_f, x_for, step_1, step_2, fin_rt, isNul, eEnv, List.map_cons, List.map_nil, Option.map_some, Option.map_none, er, ers, getS, setS, Bool.and_true, Bool.true_and, Bool.and_false, Bool.false_and, Bool.or_false, Bool.false_or, Bool.or_true, Bool.true_or, Bool.not_true, Bool.not_false]
      refine ⟨_, rfl, nextI y, ts ++ [some e], some (.sh (.int (p : Int))), some (.sh (.int (e : Int))), hy', by simp [hlen], fun k hk => ?_, by simp [oTp, dT]⟩
      rcases List.mem_append.mp hk with z | z
      · exact hts k z
      · simp at z; omega)
  obtain ⟨y, ts, a, b, hy, hlen, hts, rfl⟩ := hR
  rw [e]
  clear e hb
  simp -implicitDefEqProofs only [Nat.zero_add, List.length_range] at hlen
  simp -implicitDefEqProofs only [xs_nil, xs_cons, then_nx, then_rt, then_bk, x_asg, oAsg_1, oAsg_t2, oAsg_s2, x_ret, oRet_ok, x_ite, oIte_t, oIte_f, x_pass, x_brk, kO_int, kO_bool, kO_none, kO_str, o_var, o_con, o_bin, o_neg, o_cmp, o_chain, o_not, o_and, o_or, o_idx, o_cut, o_call, o_bi, o_mt, o_isi, o_comp, o_dnew, os_nil, os_cons, oSeq_ok, oPre_ok, o_lst, o_tup, oLst_0, oLst_1, oLst_2, oLst_3, oTup_2, oTup_3, e_var, e_mv, oVar_some, e_con, e_bin, bin_add, bin_sub, bin_xor, e_neg, oNeg_ok, e_cmp, cmp_lt, cmp_le, cmp_gt, cmp_ge, cmp_eqI, cmp_neI, dec_N, cmp_isN_int, cmp_isN_none, cmp_notN_int, cmp_notN_none, e_chain, chain_lelt, e_not, oNot_ok, oB_ok, e_and, e_or, a_nil, a_cons, r_nil, r_cons, oAnd_f, oAnd_t, oAnd_ok, oOr_f, oOr_t, oOr_ok, e_idx, e_cut, part_t, part_f, s_nil, s_cons, oCons_ok, e_lst, e_tup, oL_0, oL_1, oL_2, oL_3, oL_4, oT_2, oT_3, okB_bind, e_call, oCall_ok, e_calld, oCalld_ok, o_calld, e_revl, o_revl, e_bi, e_mt, e_isi, oIsi_1, e_lset, i_ls, i_rng, oFor_t, oFor_f, x_for, step_1, step_2, fin_rt, isNul, eEnv, List.map_cons, List.map_nil, Option.map_some, Option.map_none, er, ers, getS, setS, Bool.and_true, Bool.true_and, Bool.and_false, Bool.false_and, Bool.or_false, Bool.false_or, Bool.or_true, Bool.true_or, Bool.not_true, Bool.not_false, hls, frz, srcsI, srcs]
  generalize hb : stepF (callO tab gt (n + 1)) gt [6] _ = body2
  obtain ⟨Γ', e, hR⟩ := forL_rel (f := body2) PyData.int (fun i Γ => ∃ (ts : Tops) (c : Option O), ts.length = m ∧ (∀ k, some k ∈ ts → k < m) ∧ Γ = [some (.sh (.list (cs.map PyData.int))), some (.sh (.int y)), some (.sh (.int (m : Int))), some (.lst (ts.map oTp)), a, b, c]) cs 0 [some (.sh (.list (cs.map PyData.int))), some (.sh (.int y)), some (.sh (.int (m : Int))), some (.lst (ts.map oTp)), a, b, none] ⟨ts, none, hlen, hts, rfl⟩ (by
    rintro j Γ c hj ⟨ts, s6, hlen, hts, rfl⟩
    obtain ⟨e, he⟩ : ∃ e : Nat, c / (m : Int) % (m : Int) = (e : Int) := ⟨(c / (m : Int) % (m : Int)).toNat, by
      have := Int.emod_nonneg (c / (m : Int)) (show (m : Int) ≠ 0 by omega); omega⟩
    have hem : e < m := by
      have := Int.emod_lt_of_pos (c / (m : Int)) hmp
      omega
    obtain ⟨i, hi⟩ : ∃ i : Nat, c % (m : Int) = (i : Int) := ⟨(c % (m : Int)).toNat, by
      have := Int.emod_nonneg c (show (m : Int) ≠ 0 by omega); omega⟩
    have him : i < m := by
      have := Int.emod_lt_of_pos c hmp
      omega
    subst hb
    simp -implicitDefEqProofs only [step_1, setS]
    rw [xs_cons, x_set0 (o := .sh (.int (e : Int))) (Γ1 := [some (.sh (.list (cs.map PyData.int))), some (.sh (.int y)), some (.sh (.int (m : Int))), some (.lst (ts.map oTp)), a, b, some (.sh (.int c))]) (k := (i : Int)) (j := i) (os := ts.map oTp) (by simp -implicitDefEqProofs only [xs_nil, xs_cons, then_nx, then_rt, then_bk, x_asg, oAsg_1, oAsg_t2, oAsg_s2, x_ret, oRet_ok, x_ite, oIte_t, oIte_f, x_pass, x_brk, kO_int, kO_bool, kO_none, kO_str, o_var, o_con, o_bin, o_neg, o_cmp, o_chain, o_not, o_and, o_or, o_idx, o_cut, o_call, o_bi, o_mt, o_isi, o_comp, o_dnew, os_nil, os_cons, oSeq_ok, oPre_ok, o_lst, o_tup, oLst_0, oLst_1, oLst_2, oLst_3, oTup_2, oTup_3, e_var, e_mv, oVar_some, e_con, e_bin, bin_add, bin_sub, bin_xor, e_neg, oNeg_ok, e_cmp, cmp_lt, cmp_le, cmp_gt, cmp_ge, cmp_eqI, cmp_neI, dec_N, cmp_isN_int, cmp_isN_none, cmp_notN_int, cmp_notN_none, e_chain, chain_lelt, e_not, oNot_ok, oB_ok, e_and, e_or, a_nil, a_cons, r_nil, r_cons, oAnd_f, oAnd_t, oAnd_ok, oOr_f, oOr_t, oOr_ok, e_idx, e_cut, part_t, part_f, s_nil, s_cons, oCons_ok, e_lst, e_tup, oL_0, oL_1, oL_2, oL_3, oL_4, oT_2, oT_3, okB_bind, e_call, oCall_ok, e_calld, oCalld_ok, o_calld, e_revl, o_revl, e_bi, e_mt, e_isi, oIsi_1, e_lset, i_ls, i_rng, oFor_t, oFor_f, x_for, step_1, step_2, fin_rt, isNul, eEnv, List.map_cons, List.map_nil, Option.map_some, Option.map_none, er, ers, getS, setS, Bool.and_true, Bool.true_and, Bool.and_false, Bool.false_and, Bool.or_false, Bool.false_or, Bool.or_true, Bool.true_or, Bool.not_true, Bool.not_false, bin_fdiv (dm _), bin_mod hmp, he]) (by simp -implicitDefEqProofs only [xs_nil, xs_cons, then_nx, then_rt, then_bk, x_asg, oAsg_1, oAsg_t2, oAsg_s2, x_ret, oRet_ok, x_ite, oIte_t, oIte_f, x_pass, x_brk, kO_int, kO_bool, kO_none, kO_str, o_var, o_con, o_bin, o_neg, o_cmp, o_chain, o_not, o_and, o_or, o_idx, o_cut, o_call, o_bi, o_mt, o_isi, o_comp, o_dnew, os_nil, os_cons, oSeq_ok, oPre_ok, o_lst, o_tup, oLst_0, oLst_1, oLst_2, oLst_3, oTup_2, oTup_3, e_var, e_mv, oVar_some, e_con, e_bin, bin_add, bin_sub, bin_xor, e_neg, oNeg_ok, e_cmp, cmp_lt, cmp_le, cmp_gt, cmp_ge, cmp_eqI, cmp_neI, dec_N, cmp_isN_int, cmp_isN_none, cmp_notN_int, cmp_notN_none, e_chain, chain_lelt, e_not, oNot_ok, oB_ok, e_and, e_or, a_nil, a_cons, r_nil, r_cons, oAnd_f, oAnd_t, oAnd_ok, oOr_f, oOr_t, oOr_ok, e_idx, e_cut, part_t, part_f, s_nil, s_cons, oCons_ok, e_lst, e_tup, oL_0, oL_1, oL_2, oL_3, oL_4, oT_2, oT_3, okB_bind, e_call, oCall_ok, e_calld, oCalld_ok, o_calld, e_revl, o_revl, e_bi, e_mt, e_isi, oIsi_1, e_lset, i_ls, i_rng, oFor_t, oFor_f, x_for, step_1, step_2, fin_rt, isNul, eEnv, List.map_cons, List.map_nil, Option.map_some, Option.map_none, er, ers, getS, setS, Bool.and_true, Bool.true_and, Bool.and_false, Bool.false_and, Bool.or_false, Bool.false_or, Bool.or_true, Bool.true_or, Bool.not_true, Bool.not_false, bin_mod hmp, hi]) rfl (pix_nat (by rw [List.length_map]; omega))]
    simp -implicitDefEqProofs only [xs_nil, xs_cons, then_nx, then_rt, then_bk, x_asg, oAsg_1, oAsg_t2, oAsg_s2, x_ret, oRet_ok, x_ite, oIte_t, oIte_f, x_pass, x_brk, kO_int, kO_bool, kO_none, kO_str, o_var, o_con, o_bin, o_neg, o_cmp, o_chain, o_not, o_and, o_or, o_idx, o_cut, o_call, o_bi, o_mt, o_isi, o_comp, o_dnew, os_nil, os_cons, oSeq_ok, oPre_ok, o_lst, o_tup, oLst_0, oLst_1, oLst_2, oLst_3, oTup_2, oTup_3, e_var, e_mv, oVar_some, e_con, e_bin, bin_add, bin_sub, bin_xor, e_neg, oNeg_ok, e_cmp, cmp_lt, cmp_le, cmp_gt, cmp_ge, cmp_eqI, cmp_neI, dec_N, cmp_isN_int, cmp_isN_none, cmp_notN_int, cmp_notN_none, e_chain, chain_lelt, e_not, oNot_ok, oB_ok, e_and, e_or, a_nil, a_cons, r_nil, r_cons, oAnd_f, oAnd_t, oAnd_ok, oOr_f, oOr_t, oOr_ok, e_idx, e_cut, part_t, part_f, s_nil, s_cons, oCons_ok, e_lst, e_tup, oL_0, oL_1, oL_2, oL_3, oL_4, oT_2, oT_3, okB_bind, e_call, oCall_ok, e_calld, oCalld_ok, o_calld, e_revl, o_revl, e_bi, e_mt, e_isi, oIsi_1, e_lset, i_ls, i_rng, oFor_t, oFor_f, x_for, step_1, step_2, fin_rt, isNul, eEnv, List.map_cons, List.map_nil, Option.map_some, Option.map_none, er, ers, getS, setS, Bool.and_true, Bool.true_and, Bool.and_false, Bool.false_and, Bool.or_false, Bool.false_or, Bool.or_true, Bool.true_or, Bool.not_true, Bool.not_false]
    refine ⟨_, rfl, ts.set i (some e), some (.sh (.int c)), by simp [hlen], fun k hk => ?_, ?_⟩
    · rcases List.mem_or_eq_of_mem_set hk with z | z
      · exact hts k z
      · cases z; exact hem
    · rw [List.map_set]; rfl)
  obtain ⟨ts2, c, hlen2, hts2, rfl⟩ := hR
  rw [e]
  refine ⟨ts2, fun k hk => by rw [hlen2]; exact hts2 k hk, by omega, by omega, ?_⟩
  simp -implicitDefEqProofs only [then_nx, xs_cons, x_ret]
  rw [o_mv_lst (i := 3) rfl]
  simp -implicitDefEqProofs only [xs_nil, xs_cons, then_nx, then_rt, then_bk, x_asg, oAsg_1, oAsg_t2, oAsg_s2, x_ret, oRet_ok, x_ite, oIte_t, oIte_f, x_pass, x_brk, kO_int, kO_bool, kO_none, kO_str, o_var, o_con, o_bin, o_neg, o_cmp, o_chain, o_not, o_and, o_or, o_idx, o_cut, o_call, o_bi, o_mt, o_isi, o_comp, o_dnew, os_nil, os_cons, oSeq_ok, oPre_ok, o_lst, o_tup, oLst_0, oLst_1, oLst_2, oLst_3, oTup_2, oTup_3, e_var, e_mv, oVar_some, e_con, e_bin, bin_add, bin_sub, bin_xor, e_neg, oNeg_ok, e_cmp, cmp_lt, cmp_le, cmp_gt, cmp_ge, cmp_eqI, cmp_neI, dec_N, cmp_isN_int, cmp_isN_none, cmp_notN_int, cmp_notN_none, e_chain, chain_lelt, e_not, oNot_ok, oB_ok, e_and, e_or, a_nil, a_cons, r_nil, r_cons, oAnd_f, oAnd_t, oAnd_ok, oOr_f, oOr_t, oOr_ok, e_idx, e_cut, part_t, part_f, s_nil, s_cons, oCons_ok, e_lst, e_tup, oL_0, oL_1, oL_2, oL_3, oL_4, oT_2, oT_3, okB_bind, e_call, oCall_ok, e_calld, oCalld_ok, o_calld, e_revl, o_revl, e_bi, e_mt, e_isi, oIsi_1, e_lset, i_ls, i_rng, oFor_t, oFor_f, x_for, step_1, step_2, fin_rt, isNul, eEnv, List.map_cons, List.map_nil, Option.map_some, Option.map_none, er, ers, getS, setS, Bool.and_true, Bool.true_and, Bool.and_false, Bool.false_and, Bool.or_false, Bool.false_or, Bool.or_true, Bool.true_or, Bool.not_true, Bool.not_false]
/-! copies, repeated -/
theorem alike_N (l : List Nat) : PySem.W.alike (dN l) (dN l) = true := by simp -implicitDefEqProofs only [dN, PySem.W.alike]; exact alike_ints l
theorem alike_NN (ls : List (List Nat)) : PySem.W.alikeAll (ls.map dN) (ls.map dN) = true := by
  induction ls with
  | nil => simp [PySem.W.alikeAll]
  | cons k l ih => rw [List.map_cons, PySem.W.alikeAll, alike_N, ih]; rfl
theorem lay_NN (ls : List (List Nat)) : PyData.canLayAll0 (ls.map dN) = true := by
  induction ls with
  | nil => simp [PyData.canLayAll0]
  | cons k l ih => rw [List.map_cons, PyData.canLayAll0, ih, dN, PyData.canLay0, lay_ints]; rfl
theorem depth_NN (ls : List (List Nat)) : PyData.depthAll (ls.map dN) ≤ 1 := by
  induction ls with
  | nil => simp [PyData.depthAll]
  | cons k l ih => rw [List.map_cons, PyData.depthAll, dN, PyData.depth, depth_ints]; omega
theorem sh_NN (ls : List (List Nat)) : shaped (.list (ls.map dN)) = true := by
  have := depth_NN ls
  unfold shaped SeqAt.shaped
  rw [PyData.canLay0, lay_NN, PyData.depth, Bool.true_and, decide_eq_true_eq]
  omega
theorem cmp_neNN {x y : O} {ls : List (List Nat)} (hx : er x = .list (ls.map dN)) (hy : er y = .list (ls.map dN)) : oCmp .ne (.ok x) (.ok y) = .ok (.sh (.bool false)) := by
  refine cmp_ok ?_
  rw [hx, hy]
  simp -implicitDefEqProofs only [cop, sh_NN, Bool.and_self, if_true, eqv_self (show PySem.W.alike (.list (ls.map dN)) (.list (ls.map dN)) = true by rw [PySem.W.alike]; exact alike_NN ls), Bool.not_true]
theorem alike_T (ts : Tops) : PySem.W.alikeAll (ts.map dT) (ts.map dT) = true := by
  induction ts with
  | nil => simp [PySem.W.alikeAll]
  | cons k l ih => cases k <;> simp [PySem.W.alikeAll, PySem.W.alike, dT, ih]
theorem sh_Ts (ts : Tops) : shaped (dTs ts) = true := by
  have h1 : PyData.canLayAll0 (ts.map dT) = true := by
    induction ts with
    | nil => simp [PyData.canLayAll0]
    | cons k l ih => cases k <;> simp [PyData.canLayAll0, PyData.canLay0, dT, ih]
  have h2 : PyData.depthAll (ts.map dT) = 0 := by
    clear h1
    induction ts with
    | nil => simp [PyData.depthAll]
    | cons k l ih => cases k <;> simp [PyData.depthAll, PyData.depth, dT, ih]
  simp -implicitDefEqProofs only [shaped, SeqAt.shaped, dTs, PyData.canLay0, PyData.depth, h1, h2]
  decide
theorem cmp_neTs {x y : O} {ts : Tops} (hx : er x = dTs ts) (hy : er y = dTs ts) : oCmp .ne (.ok x) (.ok y) = .ok (.sh (.bool false)) := by
  refine cmp_ok ?_
  rw [hx, hy]
  simp -implicitDefEqProofs only [cop, sh_Ts, Bool.and_self, if_true, eqv_self (show PySem.W.alike (dTs ts) (dTs ts) = true by rw [dTs, PySem.W.alike]; exact alike_T ts), Bool.not_true]
theorem bin_rep (d : D) (k : Nat) (hk : k ≤ 1000) : oBin .mul (.ok (.lst [.sh d])) (.ok (.sh (.int (k : Int)))) = .ok (shl (List.replicate k d)) := by
  have h1 : (decide (-(2 ^ 63) ≤ (k : Int) ∧ (k : Int) < 2 ^ 63) && decide ([d].length * ((k : Int)).toNat ≤ sizeLine)) = true := by
    simp -implicitDefEqProofs only [Bool.and_eq_true, decide_eq_true_eq, List.length_singleton, Int.toNat_natCast, sizeLine_eq]
    omega
  have h2 : (List.replicate ((k : Int)).toNat [d]).flatten = List.replicate k d := by
    rw [Int.toNat_natCast]
    induction k with
    | zero => rfl
    | succ k ih => simp [List.replicate_succ]
  simp -implicitDefEqProofs only [oBin, Res.bind_ok, bopO, er, ers, bop]
  rw [if_pos h1, h2]
  rfl
theorem nones (k : Nat) : dTs (List.replicate k none) = .list (List.replicate k .none) := by simp [dTs, dT]
theorem nones_ok (k : Nat) : Ok (List.replicate k none) := fun j hj => by
  have := List.eq_of_mem_replicate hj
  cases this
theorem law12 (h48 : tab 48 = some f48) (h44 : tab 44 = some f44) (h43 : tab 43 = some f43) (h47 : tab 47 = some f47) (h46 : tab 46 = some f46) (h45 : tab 45 = some f45) (h8 : tab 8 = some f8) (h5 : tab 5 = some f5) (h6 : tab 6 = some f6) (n : Nat) (cs : List Int) :
    callF tab gt (n + 4) 48 [.list (cs.map PyData.int)] = .ok (.sh (.bool true)) := by
  obtain ⟨ts, ok, hl1, hl8, ht⟩ := tops_ok (tab := tab) (gt := gt) h44 h6 (n + 1) (foldI64 cs (show I64 747796405747796405 from ⟨by decide, by decide⟩)) cs
  rw [callF_go h48 _ _ rfl]
  have hfold := fold_ok (tab := tab) (gt := gt) h5 (n + 2) (show I64 747796405747796405 from ⟨by decide, by decide⟩) cs
  have hlist : oBi .list (.ok [O.sh (dTs ts)]) = .ok (.lst (ts.map oTp)) := by rw [bf_list (ds := ts.map dT) rfl, shl_T]
  have hr1 := rings_ok (tab := tab) (gt := gt) h43 (n + 2) ok (by omega)
  have hright := right_ok (tab := tab) (gt := gt) h47 h46 h45 h8 n ok (by omega)
  have hclean : clean (.lst ((rings ts).map oN)) = true := by
    simp -implicitDefEqProofs only [clean]
    generalize rings ts = rs
    induction rs with
    | nil => rfl
    | cons r rs ih => rw [List.map_cons, cleans, clean_oN, ih]; rfl
  have her : er (.lst ((rings ts).map oN)) = .list ((rings ts).map dN) := by
    simp -implicitDefEqProofs only [er, ers_map, List.map_map]
    congr 1
    refine List.map_congr_left fun r _ => ?_
    exact er_oN r
  -- no rings
  have hrN := rings_ok (tab := tab) (gt := gt) h43 (n + 2) (nones_ok ts.length) (by simp; omega)
  have hrightN := right_ok (tab := tab) (gt := gt) h47 h46 h45 h8 n (nones_ok ts.length) (by simp; omega)
  have herN : er (.lst ((rings (List.replicate ts.length none)).map oN)) = .list ((rings (List.replicate ts.length none)).map dN) := by
    simp -implicitDefEqProofs only [er, ers_map, List.map_map]
    congr 1
    refine List.map_congr_left fun r _ => ?_
    exact er_oN r
  have hcut : oCut (.ok (.sh (dTs ts))) (.ok (some 1)) (.ok none) = .ok (shl ((ts.drop 1).map dT)) := by
    rw [oCut_ok (ds := ts.map dT) rfl]
    congr 1
    congr 1
    unfold cutD
    rw [show HT.sIx _ 0 (some 1) = min 1 (ts.map dT).length from HT.sIx_nat _ 0 1, HT.sIx_none, List.length_map, ← List.map_drop, ← List.map_take]
    congr 1
    rw [show min 1 ts.length = 1 by omega]
    exact List.take_of_length_le (by simp)
  have hersR : PyData.list (ers ((rings ts).map oN)) = .list ((rings ts).map dN) := her
  have hersN : PyData.list (ers ((rings (List.replicate ts.length none)).map oN)) = .list ((rings (List.replicate ts.length none)).map dN) := herN
  have hlenc : oBi .len (.ok [O.sh (er (shl ((ts.drop 1).map dT)))]) = .ok (.sh (.int ((ts.length - 1 : Nat) : Int))) := by
    rw [bf_len (ds := (ts.drop 1).map dT) (by simp -implicitDefEqProofs only [er, shl, ers_shs])]
    simp
  have hlenc2 : oBi .len (.ok [shl ((ts.drop 1).map dT)]) = .ok (.sh (.int ((ts.length - 1 : Nat) : Int))) := by
    rw [bf_len (ds := (ts.drop 1).map dT) (by simp -implicitDefEqProofs only [er, shl, ers_shs])]
    simp
  have hcat : oBin .add (.ok (.lst [O.sh .none])) (.ok (shl (List.replicate (ts.length - 1) .none))) = .ok (shl (List.replicate ts.length .none)) := by
    rw [bin_cat (a := [.none]) (b := List.replicate (ts.length - 1) .none) rfl (by simp -implicitDefEqProofs only [er, shl, ers_shs]) (by simp [sizeLine_eq]; omega)]
    congr 2
    show PyData.none :: List.replicate (ts.length - 1) PyData.none = _
    rw [← List.replicate_succ, Nat.sub_add_cancel hl1]
  have herR : er (shl (List.replicate ts.length .none)) = dTs (List.replicate ts.length none) := by rw [nones]; simp -implicitDefEqProofs only [er, shl, ers_shs]
  have hlsR : oLsI (.ok (.sh (.list ((rings ts).map dN)))) = .ok ((rings ts).map dN, false) := oLsI_ok rfl
  have hheld : ∀ γ3, ev (callO tab gt (n + 3)) gt [some (.list (cs.map PyData.int)), some (dTs ts), γ3, some (.list ((rings ts).map dN)), none, none] (.comp (.bi .list (.cons (.var 5) .nil)) [5] (.ls (.var 3)) .nil [5]) = .ok (.lst ((rings ts).map oN)) := by
    intro γ3
    rw [e_comp]
    simp -implicitDefEqProofs only [xs_nil, xs_cons, then_nx, then_rt, then_bk, x_asg, oAsg_1, oAsg_t2, oAsg_s2, x_ret, oRet_ok, x_ite, oIte_t, oIte_f, x_pass, x_brk, kO_int, kO_bool, kO_none, kO_str, o_var, o_con, o_bin, o_neg, o_cmp, o_chain, o_not, o_and, o_or, o_idx, o_cut, o_call, o_bi, o_mt, o_isi, o_comp, o_dnew, os_nil, os_cons, oSeq_ok, oPre_ok, o_lst, o_tup, oLst_0, oLst_1, oLst_2, oLst_3, oTup_2, oTup_3, e_var, e_mv, oVar_some, e_con, e_bin, bin_add, bin_sub, bin_xor, e_neg, oNeg_ok, e_cmp, cmp_lt, cmp_le, cmp_gt, cmp_ge, cmp_eqI, cmp_neI, dec_N, cmp_isN_int, cmp_isN_none, cmp_notN_int, cmp_notN_none, e_chain, chain_lelt, e_not, oNot_ok, oB_ok, e_and, e_or, a_nil, a_cons, r_nil, r_cons, oAnd_f, oAnd_t, oAnd_ok, oOr_f, oOr_t, oOr_ok, e_idx, e_cut, part_t, part_f, s_nil, s_cons, oCons_ok, e_lst, e_tup, oL_0, oL_1, oL_2, oL_3, oL_4, oT_2, oT_3, okB_bind, e_call, oCall_ok, e_calld, oCalld_ok, o_calld, e_revl, o_revl, e_bi, e_mt, e_isi, oIsi_1, e_lset, i_ls, i_rng, oFor_t, oFor_f, x_for, step_1, step_2, fin_rt, isNul, eEnv, List.map_cons, List.map_nil, Option.map_some, Option.map_none, er, ers, getS, setS, Bool.and_true, Bool.true_and, Bool.and_false, Bool.false_and, Bool.or_false, Bool.false_or, Bool.or_true, Bool.true_or, Bool.not_true, Bool.not_false, hlsR]
    refine oComp_ok (compL_map _ _ _ fun r hr => ?_) ?_
    · rw [cT_1]
      simp -implicitDefEqProofs only [wipeS, xs_nil, xs_cons, then_nx, then_rt, then_bk, x_asg, oAsg_1, oAsg_t2, oAsg_s2, x_ret, oRet_ok, x_ite, oIte_t, oIte_f, x_pass, x_brk, kO_int, kO_bool, kO_none, kO_str, o_var, o_con, o_bin, o_neg, o_cmp, o_chain, o_not, o_and, o_or, o_idx, o_cut, o_call, o_bi, o_mt, o_isi, o_comp, o_dnew, os_nil, os_cons, oSeq_ok, oPre_ok, o_lst, o_tup, oLst_0, oLst_1, oLst_2, oLst_3, oTup_2, oTup_3, e_var, e_mv, oVar_some, e_con, e_bin, bin_add, bin_sub, bin_xor, e_neg, oNeg_ok, e_cmp, cmp_lt, cmp_le, cmp_gt, cmp_ge, cmp_eqI, cmp_neI, dec_N, cmp_isN_int, cmp_isN_none, cmp_notN_int, cmp_notN_none, e_chain, chain_lelt, e_not, oNot_ok, oB_ok, e_and, e_or, a_nil, a_cons, r_nil, r_cons, oAnd_f, oAnd_t, oAnd_ok, oOr_f, oOr_t, oOr_ok, e_idx, e_cut, part_t, part_f, s_nil, s_cons, oCons_ok, e_lst, e_tup, oL_0, oL_1, oL_2, oL_3, oL_4, oT_2, oT_3, okB_bind, e_call, oCall_ok, e_calld, oCalld_ok, o_calld, e_revl, o_revl, e_bi, e_mt, e_isi, oIsi_1, e_lset, i_ls, i_rng, oFor_t, oFor_f, x_for, step_1, step_2, fin_rt, isNul, eEnv, List.map_cons, List.map_nil, Option.map_some, Option.map_none, er, ers, getS, setS, Bool.and_true, Bool.true_and, Bool.and_false, Bool.false_and, Bool.or_false, Bool.false_or, Bool.or_true, Bool.true_or, Bool.not_true, Bool.not_false]
      rw [bf_list (ds := r.map fun (k : Nat) => PyData.int k) rfl, oN_shl, Res.bind_ok]
    · have := heads_len ts
      rw [List.length_map, rings, List.length_map, sizeLine_eq]; omega
  simp -implicitDefEqProofs only [f48, start, List.length_cons, List.length_nil, List.replicate, Nat.sub_self, Nat.reduceAdd, Nat.reduceSub, List.cons_append, List.nil_append, xs_nil, xs_cons, then_nx, then_rt, then_bk, x_asg, oAsg_1, oAsg_t2, oAsg_s2, x_ret, oRet_ok, x_ite, oIte_t, oIte_f, x_pass, x_brk, kO_int, kO_bool, kO_none, kO_str, o_var, o_con, o_bin, o_neg, o_cmp, o_chain, o_not, o_and, o_or, o_idx, o_cut, o_call, o_bi, o_mt, o_isi, o_comp, o_dnew, os_nil, os_cons, oSeq_ok, oPre_ok, o_lst, o_tup, oLst_0, oLst_1, oLst_2, oLst_3, oTup_2, oTup_3, e_var, e_mv, oVar_some, e_con, e_bin, bin_add, bin_sub, bin_xor, e_neg, oNeg_ok, e_cmp, cmp_lt, cmp_le, cmp_gt, cmp_ge, cmp_eqI, cmp_neI, dec_N, cmp_isN_int, cmp_isN_none, cmp_notN_int, cmp_notN_none, e_chain, chain_lelt, e_not, oNot_ok, oB_ok, e_and, e_or, a_nil, a_cons, r_nil, r_cons, oAnd_f, oAnd_t, oAnd_ok, oOr_f, oOr_t, oOr_ok, e_idx, e_cut, part_t, part_f, s_nil, s_cons, oCons_ok, e_lst, e_tup, oL_0, oL_1, oL_2, oL_3, oL_4, oT_2, oT_3, okB_bind, e_call, oCall_ok, e_calld, oCalld_ok, o_calld, e_revl, o_revl, e_bi, e_mt, e_isi, oIsi_1, e_lset, i_ls, i_rng, oFor_t, oFor_f, x_for, step_1, step_2, fin_rt, isNul, eEnv, List.map_cons, List.map_nil, Option.map_some, Option.map_none, er, ers, getS, setS, Bool.and_true, Bool.true_and, Bool.and_false, Bool.false_and, Bool.or_false, Bool.false_or, Bool.or_true, Bool.true_or, Bool.not_true, Bool.not_false, hfold, ht, kO_oTp, ers_T, hlist, hr1, kO_ok _ hclean, hersR, hright, cmp_neTs (x := .sh (dTs ts)) (y := .sh (dTs ts)) rfl rfl, hheld, len_T, bin_rep _ ts.length (show ts.length ≤ 1000 by omega), hcut, hlenc, hlenc2, bin_rep _ (ts.length - 1) (show ts.length - 1 ≤ 1000 by omega), hcat, herR, hrN, hersN, hrightN, cmp_neNN (x := .sh (.list ((rings ts).map dN))) (y := .sh (.list ((rings ts).map dN))) (ls := rings ts) rfl rfl]
  obtain ⟨os', he⟩ := x_each_clear (Φ := callO tab gt (n + 3)) (gt := gt) (Γ := [some (O.sh (PyData.list (cs.map PyData.int))), some (O.lst (ts.map oTp)), some (O.lst (ts.map oTp)), some (O.lst ((rings ts).map oN)), some (O.lst ((rings ts).map oN)), none]) (x := 3) (y := 5) (os := (rings ts).map oN) rfl (show 3 < 6 by decide) (show 5 < 6 by decide) (by decide) (fun o ho => by
    obtain ⟨r, _, rfl⟩ := List.mem_map.mp ho
    exact ⟨_, rfl⟩)
  rw [he]
  simp -implicitDefEqProofs only [xs_nil, xs_cons, then_nx, then_rt, then_bk, x_asg, oAsg_1, oAsg_t2, oAsg_s2, x_ret, oRet_ok, x_ite, oIte_t, oIte_f, x_pass, x_brk, kO_int, kO_bool, kO_none, kO_str, o_var, o_con, o_bin, o_neg, o_cmp, o_chain, o_not, o_and, o_or, o_idx, o_cut, o_call, o_bi, o_mt, o_isi, o_comp, o_dnew, os_nil, os_cons, oSeq_ok, oPre_ok, o_lst, o_tup, oLst_0, oLst_1, oLst_2, oLst_3, oTup_2, oTup_3, e_var, e_mv, oVar_some, e_con, e_bin, bin_add, bin_sub, bin_xor, e_neg, oNeg_ok, e_cmp, cmp_lt, cmp_le, cmp_gt, cmp_ge, cmp_eqI, cmp_neI, dec_N, cmp_isN_int, cmp_isN_none, cmp_notN_int, cmp_notN_none, e_chain, chain_lelt, e_not, oNot_ok, oB_ok, e_and, e_or, a_nil, a_cons, r_nil, r_cons, oAnd_f, oAnd_t, oAnd_ok, oOr_f, oOr_t, oOr_ok, e_idx, e_cut, part_t, part_f, s_nil, s_cons, oCons_ok, e_lst, e_tup, oL_0, oL_1, oL_2, oL_3, oL_4, oT_2, oT_3, okB_bind, e_call, oCall_ok, e_calld, oCalld_ok, o_calld, e_revl, o_revl, e_bi, e_mt, e_isi, oIsi_1, e_lset, i_ls, i_rng, oFor_t, oFor_f, x_for, step_1, step_2, fin_rt, isNul, eEnv, List.map_cons, List.map_nil, Option.map_some, Option.map_none, er, ers, getS, setS, Bool.and_true, Bool.true_and, Bool.and_false, Bool.false_and, Bool.or_false, Bool.false_or, Bool.or_true, Bool.true_or, Bool.not_true, Bool.not_false, ers_T, hr1, hersR, hright]
end
end Rp

set_option Elab.async false
set_option linter.all false
set_option maxRecDepth 100000
set_option maxHeartbeats 4000000
/-! RpPopE: piles, evaluated: copied, their tops, a ring popped, popped out. -/
namespace Rp
open PySem Rp.T Rg

def dPs (ps : Piles) : D := .list (ps.map dN)
def oPs (ps : Piles) : O := .lst (ps.map oN)
theorem ers_N (ls : List (List Nat)) : ers (ls.map oN) = ls.map dN := by
  rw [ers_map, List.map_map]
  exact List.map_congr_left fun l _ => er_oN l
theorem er_LN (ls : List (List Nat)) : er (.lst (ls.map oN)) = .list (ls.map dN) := by simp -implicitDefEqProofs only [er, ers_N]
theorem er_oPs (ps : Piles) : er (oPs ps) = dPs ps := er_LN ps
theorem cleans_N (ls : List (List Nat)) : cleans (ls.map oN) = true := by
  induction ls with
  | nil => rfl
  | cons l ls ih => simp [cleans, clean_oN, ih]
theorem clean_oPs (ps : Piles) : clean (oPs ps) = true := by simp -implicitDefEqProofs only [oPs, clean, cleans_N]
section
variable {tab : Tab} {gt : Nat → Option D} {Γ : En} {γ : Env0} {Φ : Nat → List O → Res O}
theorem kO_oPs (e : Ex) (ps : Piles) : kO e Γ (.ok (oPs ps)) = .ok (oPs ps, Γ) := kO_ok e (clean_oPs ps)
theorem kO_LN (e : Ex) (ls : List (List Nat)) : kO e Γ (.ok (.lst (ls.map oN))) = .ok (.lst (ls.map oN), Γ) := kO_ok e (by simp -implicitDefEqProofs only [clean, cleans_N])
theorem oMv_Ps (i : Nat) (ps : Piles) : oMv i (some (oPs ps)) Γ = .ok (oPs ps, setS Γ i none) := rfl
theorem oMv_N (i : Nat) (l : List Nat) : oMv i (some (oN l)) Γ = .ok (oN l, setS Γ i none) := rfl
theorem len_Ps {x : O} {ps : List (List Nat)} (hx : er x = .list (ps.map dN)) : oBi .len (.ok [x]) = .ok (.sh (.int (ps.length : Nat))) := by
  rw [bf_len hx, List.length_map]
theorem cT_copy {i : Nat} (hi : i < γ.length) (l : List Nat) : cT Φ gt γ [i] .nil (.bi .list (.cons (.var i) .nil)) [i] (dN l) = .ok (some (oN l)) := by
  rw [cT_1]
  have : getS (setS (wipeS γ [i]) i (some (dN l))) i = some (dN l) := by
    rw [getS_set, if_pos rfl, if_pos]
    simpa only [wipeS, setS_len] using hi
  simp -implicitDefEqProofs only [e_bi, s_cons, s_nil, e_var, this, oVar_some, oCons_ok, bf_list (x := .sh (dN l)) (ds := l.map fun (k : Nat) => PyData.int k) rfl, oN_shl, Res.bind_ok]
theorem oComp_copy {i : Nat} (hi : i < γ.length) {ps : List (List Nat)} (hl : ps.length < sizeLine) (fr : Bool) : oComp (cT Φ gt γ [i] .nil (.bi .list (.cons (.var i) .nil)) [i]) (.ok (ps.map dN, fr)) = .ok (.lst (ps.map oN)) :=
  oComp_ok (compL_map dN oN ps fun l _ => cT_copy hi l) (by rw [List.length_map]; exact hl)
theorem oLsI_N {x : O} {l : List Nat} (hx : er x = dN l) : oLsI (.ok x) = .ok (l.map fun (k : Nat) => PyData.int k, isFresh x && flats (l.map fun (k : Nat) => PyData.int k)) := oLsI_ok hx
theorem small_sz {n : Nat} (h : n ≤ 1000000) : n < sizeLine := by rw [sizeLine_eq]; omega
/-- copied_piles -/
theorem copied_ok (h : tab 49 = some f49) (n : Nat) {ps : Piles} (hl : ps.length ≤ 1000) : callF tab gt (n + 1) 49 [dPs ps] = .ok (oPs ps) := by
  rw [callF_go h _ _ rfl]
  have hls : oLsI (.ok (.sh (dPs ps))) = .ok (ps.map dN, false) := oLsI_ok rfl
  simp -implicitDefEqProofs only [f49, start, List.length_cons, List.length_nil, List.replicate, Nat.sub_self, Nat.reduceAdd, Nat.reduceSub, List.cons_append, List.nil_append, xs_nil, xs_cons, then_nx, then_rt, then_bk, x_asg, oAsg_1, oAsg_t2, oAsg_s2, x_ret, oRet_ok, x_ite, oIte_t, oIte_f, x_pass, x_brk, kO_int, kO_bool, kO_none, kO_str, o_var, o_con, o_bin, o_neg, o_cmp, o_chain, o_not, o_and, o_or, o_idx, o_cut, o_call, o_bi, o_mt, o_isi, o_comp, o_dnew, os_nil, os_cons, oSeq_ok, oPre_ok, o_lst, o_tup, oLst_0, oLst_1, oLst_2, oLst_3, oTup_2, oTup_3, e_var, e_mv, oVar_some, e_con, e_bin, bin_add, bin_sub, bin_xor, e_neg, oNeg_ok, e_cmp, cmp_lt, cmp_le, cmp_gt, cmp_ge, cmp_eqI, cmp_neI, dec_N, cmp_isN_int, cmp_isN_none, cmp_notN_int, cmp_notN_none, e_chain, chain_lelt, e_not, oNot_ok, oB_ok, e_and, e_or, a_nil, a_cons, r_nil, r_cons, oAnd_f, oAnd_t, oAnd_ok, oOr_f, oOr_t, oOr_ok, e_idx, e_cut, part_t, part_f, s_nil, s_cons, oCons_ok, e_lst, e_tup, oL_0, oL_1, oL_2, oL_3, oL_4, oT_2, oT_3, okB_bind, e_call, oCall_ok, e_calld, oCalld_ok, o_calld, e_revl, o_revl, e_bi, e_mt, e_isi, oIsi_1, e_lset, i_ls, i_rng, oFor_t, oFor_f, x_for, step_1, step_2, fin_rt, isNul, eEnv, List.map_cons, List.map_nil, Option.map_some, Option.map_none, er, ers, getS, setS, Bool.and_true, Bool.true_and, Bool.and_false, Bool.false_and, Bool.or_false, Bool.false_or, Bool.or_true, Bool.true_or, Bool.not_true, Bool.not_false, hls, e_comp]
  rw [oComp_copy (by simp) (small_sz (by omega))]
  rw [kO_LN]
  rfl
/-- tops_of -/
theorem topsof_ok (h : tab 35 = some f35) (n : Nat) {ps : Piles} (hl : ps.length ≤ 1000) : callF tab gt (n + 1) 35 [dPs ps] = .ok (.lst ((tops ps).map oTp)) := by
  rw [callF_go h _ _ rfl]
  have hls : oLsI (.ok (.sh (dPs ps))) = .ok (ps.map dN, false) := oLsI_ok rfl
  simp -implicitDefEqProofs only [f35, start, List.length_cons, List.length_nil, List.replicate, Nat.sub_self, Nat.reduceAdd, Nat.reduceSub, List.cons_append, List.nil_append, xs_nil, xs_cons, then_nx, then_rt, then_bk, x_asg, oAsg_1, oAsg_t2, oAsg_s2, x_ret, oRet_ok, x_ite, oIte_t, oIte_f, x_pass, x_brk, kO_int, kO_bool, kO_none, kO_str, o_var, o_con, o_bin, o_neg, o_cmp, o_chain, o_not, o_and, o_or, o_idx, o_cut, o_call, o_bi, o_mt, o_isi, o_comp, o_dnew, os_nil, os_cons, oSeq_ok, oPre_ok, o_lst, o_tup, oLst_0, oLst_1, oLst_2, oLst_3, oTup_2, oTup_3, e_var, e_mv, oVar_some, e_con, e_bin, bin_add, bin_sub, bin_xor, e_neg, oNeg_ok, e_cmp, cmp_lt, cmp_le, cmp_gt, cmp_ge, cmp_eqI, cmp_neI, dec_N, cmp_isN_int, cmp_isN_none, cmp_notN_int, cmp_notN_none, e_chain, chain_lelt, e_not, oNot_ok, oB_ok, e_and, e_or, a_nil, a_cons, r_nil, r_cons, oAnd_f, oAnd_t, oAnd_ok, oOr_f, oOr_t, oOr_ok, e_idx, e_cut, part_t, part_f, s_nil, s_cons, oCons_ok, e_lst, e_tup, oL_0, oL_1, oL_2, oL_3, oL_4, oT_2, oT_3, okB_bind, e_call, oCall_ok, e_calld, oCalld_ok, o_calld, e_revl, o_revl, e_bi, e_mt, e_isi, oIsi_1, e_lset, i_ls, i_rng, oFor_t, oFor_f, x_for, step_1, step_2, fin_rt, isNul, eEnv, List.map_cons, List.map_nil, Option.map_some, Option.map_none, er, ers, getS, setS, Bool.and_true, Bool.true_and, Bool.and_false, Bool.false_and, Bool.or_false, Bool.false_or, Bool.or_true, Bool.true_or, Bool.not_true, Bool.not_false, hls, frz, srcsI, srcs]
  generalize hb : stepF (callO tab gt n) gt [2] _ = body
  obtain ⟨Γ', e, c, rfl⟩ := forL_rel (f := body) dN (fun i Γ => ∃ c : Option O, Γ = [some (.sh (dPs ps)), some (.lst ((tops (ps.take i)).map oTp)), c]) ps 0 [some (.sh (dPs ps)), some (.lst []), none] ⟨none, rfl⟩ (by
    rintro j Γ l hj ⟨c, rfl⟩
    have hj' := hj
    obtain ⟨hjl, -⟩ := List.getElem?_eq_some_iff.mp hj
    rw [Nat.zero_add]
    have hz : ((tops (ps.take j)).map oTp).length < sizeLine := by rw [List.length_map, tops_len, List.length_take]; exact small_sz (by omega)
    have hstep : tops (ps.take (j + 1)) = tops (ps.take j) ++ [l.head?] := by
      unfold tops
      rw [List.take_add_one, hj, List.map_append]
      rfl
    subst hb
    have hnil : oCmp .eq (.ok (.sh (dN l))) (.ok (.lst [])) = .ok (.sh (.bool (decide (l = [])))) := cmp_eq_nil rfl rfl
    cases l with
    | nil =>
      simp -implicitDefEqProofs only [xs_nil, xs_cons, then_nx, then_rt, then_bk, x_asg, oAsg_1, oAsg_t2, oAsg_s2, x_ret, oRet_ok, x_ite, oIte_t, oIte_f, x_pass, x_brk, kO_int, kO_bool, kO_none, kO_str, o_var, o_con, o_bin, o_neg, o_cmp, o_chain, o_not, o_and, o_or, o_idx, o_cut, o_call, o_bi, o_mt, o_isi, o_comp, o_dnew, os_nil, os_cons, oSeq_ok, oPre_ok, o_lst, o_tup, oLst_0, oLst_1, oLst_2, oLst_3, oTup_2, oTup_3, e_var, e_mv, oVar_some, e_con, e_bin, bin_add, bin_sub, bin_xor, e_neg, oNeg_ok, e_cmp, cmp_lt, cmp_le, cmp_gt, cmp_ge, cmp_eqI, cmp_neI, dec_N, cmp_isN_int, cmp_isN_none, cmp_notN_int, cmp_notN_none, e_chain, chain_lelt, e_not, oNot_ok, oB_ok, e_and, e_or, a_nil, a_cons, r_nil, r_cons, oAnd_f, oAnd_t, oAnd_ok, oOr_f, oOr_t, oOr_ok, e_idx, e_cut, part_t, part_f, s_nil, s_cons, oCons_ok, e_lst, e_tup, oL_0, oL_1, oL_2, oL_3, oL_4, oT_2, oT_3, okB_bind, e_call, oCall_ok, e_calld, oCalld_ok, o_calld, e_revl, o_revl, e_bi, e_mt, e_isi, oIsi_1, e_lset, i_ls, i_rng, oFor_t, oFor_f, x_for, step_1, step_2, fin_rt, isNul, eEnv, List.map_cons, List.map_nil, Option.map_some, Option.map_none, er, ers, getS, setS, Bool.and_true, Bool.true_and, Bool.and_false, Bool.false_and, Bool.or_false, Bool.false_or, Bool.or_true, Bool.true_or, Bool.not_true, Bool.not_false, hnil, decide_true, x_app, oMu_lst, oMut_app, oAp_lst hz]
      exact ⟨_, rfl, some (.sh (dN [])), by rw [hstep]; simp [oTp, dT]⟩
    | cons a l =>
      have hi : oIdx (.ok (.sh (dN (a :: l)))) (.ok (.sh (.int 0))) = .ok (.sh (.int (a : Nat))) := idx_ok (dix_N (l := a :: l) (j := 0) (by simp))
      simp -implicitDefEqProofs only [xs_nil, xs_cons, then_nx, then_rt, then_bk, x_asg, oAsg_1, oAsg_t2, oAsg_s2, x_ret, oRet_ok, x_ite, oIte_t, oIte_f, x_pass, x_brk, kO_int, kO_bool, kO_none, kO_str, o_var, o_con, o_bin, o_neg, o_cmp, o_chain, o_not, o_and, o_or, o_idx, o_cut, o_call, o_bi, o_mt, o_isi, o_comp, o_dnew, os_nil, os_cons, oSeq_ok, oPre_ok, o_lst, o_tup, oLst_0, oLst_1, oLst_2, oLst_3, oTup_2, oTup_3, e_var, e_mv, oVar_some, e_con, e_bin, bin_add, bin_sub, bin_xor, e_neg, oNeg_ok, e_cmp, cmp_lt, cmp_le, cmp_gt, cmp_ge, cmp_eqI, cmp_neI, dec_N, cmp_isN_int, cmp_isN_none, cmp_notN_int, cmp_notN_none, e_chain, chain_lelt, e_not, oNot_ok, oB_ok, e_and, e_or, a_nil, a_cons, r_nil, r_cons, oAnd_f, oAnd_t, oAnd_ok, oOr_f, oOr_t, oOr_ok, e_idx, e_cut, part_t, part_f, s_nil, s_cons, oCons_ok, e_lst, e_tup, oL_0, oL_1, oL_2, oL_3, oL_4, oT_2, oT_3, okB_bind, e_call, oCall_ok, e_calld, oCalld_ok, o_calld, e_revl, o_revl, e_bi, e_mt, e_isi, oIsi_1, e_lset, i_ls, i_rng, oFor_t, oFor_f, x_for, step_1, step_2, fin_rt, isNul, eEnv, List.map_cons, List.map_nil, Option.map_some, Option.map_none, er, ers, getS, setS, Bool.and_true, Bool.true_and, Bool.and_false, Bool.false_and, Bool.or_false, Bool.false_or, Bool.or_true, Bool.true_or, Bool.not_true, Bool.not_false, hnil, reduceCtorEq, decide_false, hi, x_app, oMu_lst, oMut_app, oAp_lst hz]
      exact ⟨_, rfl, some (.sh (dN (a :: l))), by rw [hstep]; simp [oTp, dT]⟩)
  rw [e]
  rw [Nat.zero_add, List.take_length]
  simp -implicitDefEqProofs only [xs_nil, xs_cons, then_nx, then_rt, then_bk, x_asg, oAsg_1, oAsg_t2, oAsg_s2, x_ret, oRet_ok, x_ite, oIte_t, oIte_f, x_pass, x_brk, kO_int, kO_bool, kO_none, kO_str, o_var, o_con, o_bin, o_neg, o_cmp, o_chain, o_not, o_and, o_or, o_idx, o_cut, o_call, o_bi, o_mt, o_isi, o_comp, o_dnew, os_nil, os_cons, oSeq_ok, oPre_ok, o_lst, o_tup, oLst_0, oLst_1, oLst_2, oLst_3, oTup_2, oTup_3, e_var, e_mv, oVar_some, e_con, e_bin, bin_add, bin_sub, bin_xor, e_neg, oNeg_ok, e_cmp, cmp_lt, cmp_le, cmp_gt, cmp_ge, cmp_eqI, cmp_neI, dec_N, cmp_isN_int, cmp_isN_none, cmp_notN_int, cmp_notN_none, e_chain, chain_lelt, e_not, oNot_ok, oB_ok, e_and, e_or, a_nil, a_cons, r_nil, r_cons, oAnd_f, oAnd_t, oAnd_ok, oOr_f, oOr_t, oOr_ok, e_idx, e_cut, part_t, part_f, s_nil, s_cons, oCons_ok, e_lst, e_tup, oL_0, oL_1, oL_2, oL_3, oL_4, oT_2, oT_3, okB_bind, e_call, oCall_ok, e_calld, oCalld_ok, o_calld, e_revl, o_revl, e_bi, e_mt, e_isi, oIsi_1, e_lset, i_ls, i_rng, oFor_t, oFor_f, x_for, step_1, step_2, fin_rt, isNul, eEnv, List.map_cons, List.map_nil, Option.map_some, Option.map_none, er, ers, getS, setS, Bool.and_true, Bool.true_and, Bool.and_false, Bool.false_and, Bool.or_false, Bool.false_or, Bool.or_true, Bool.true_or, Bool.not_true, Bool.not_false, o_mvG, oMv_lst]
/-- is_number -/
theorem isnum_ok (h : tab 0 = some f0) (n : Nat) (k : Int) : callF tab gt (n + 1) 0 [.int k] = .ok (.sh (.bool true)) := by
  rw [callF_go h _ _ rfl]
  simp -implicitDefEqProofs only [f0, start, List.length_cons, List.length_nil, List.replicate, Nat.sub_self, Nat.reduceAdd, Nat.reduceSub, List.cons_append, List.nil_append, xs_nil, xs_cons, then_nx, then_rt, then_bk, x_asg, oAsg_1, oAsg_t2, oAsg_s2, x_ret, oRet_ok, x_ite, oIte_t, oIte_f, x_pass, x_brk, kO_int, kO_bool, kO_none, kO_str, o_var, o_con, o_bin, o_neg, o_cmp, o_chain, o_not, o_and, o_or, o_idx, o_cut, o_call, o_bi, o_mt, o_isi, o_comp, o_dnew, os_nil, os_cons, oSeq_ok, oPre_ok, o_lst, o_tup, oLst_0, oLst_1, oLst_2, oLst_3, oTup_2, oTup_3, e_var, e_mv, oVar_some, e_con, e_bin, bin_add, bin_sub, bin_xor, e_neg, oNeg_ok, e_cmp, cmp_lt, cmp_le, cmp_gt, cmp_ge, cmp_eqI, cmp_neI, dec_N, cmp_isN_int, cmp_isN_none, cmp_notN_int, cmp_notN_none, e_chain, chain_lelt, e_not, oNot_ok, oB_ok, e_and, e_or, a_nil, a_cons, r_nil, r_cons, oAnd_f, oAnd_t, oAnd_ok, oOr_f, oOr_t, oOr_ok, e_idx, e_cut, part_t, part_f, s_nil, s_cons, oCons_ok, e_lst, e_tup, oL_0, oL_1, oL_2, oL_3, oL_4, oT_2, oT_3, okB_bind, e_call, oCall_ok, e_calld, oCalld_ok, o_calld, e_revl, o_revl, e_bi, e_mt, e_isi, oIsi_1, e_lset, i_ls, i_rng, oFor_t, oFor_f, x_for, step_1, step_2, fin_rt, isNul, eEnv, List.map_cons, List.map_nil, Option.map_some, Option.map_none, er, ers, getS, setS, Bool.and_true, Bool.true_and, Bool.and_false, Bool.false_and, Bool.or_false, Bool.false_or, Bool.or_true, Bool.true_or, Bool.not_true, Bool.not_false, isTy]
/-! a ring popped -/
theorem filter_none {α : Type} (l : List α) : l.filter (fun _ => false) = [] := List.filter_eq_nil_iff.mpr fun _ _ => by simp
theorem cmp_notin_LN {r : List Nat} {ls : List (List Nat)} {x y : O} (hx : er x = dN r) (hy : er y = .list (ls.map dN)) (h : r ∈ ls) : oCmp .notin (.ok x) (.ok y) = .ok (.sh (.bool false)) := by
  refine cmp_ok ?_
  rw [hx, hy]
  have ha : ((ls.map dN).any fun z => PyData.eqv z (dN r)) = true := List.any_eq_true.mpr ⟨dN r, List.mem_map.mpr ⟨r, h, rfl⟩, eqv_N r⟩
  simp -implicitDefEqProofs only [cop, sh_N, sh_NN, Bool.and_self, if_true, ha, Bool.not_true]
theorem pop_step {ps : Piles} {r : List Nat} (nd : r.Nodup) {j p : Nat} (hj : r[j]? = some p) : popR ps (r.take (j + 1)) = (popR ps (r.take j)).set p (pile ps p).tail ∧ pile (popR ps (r.take j)) p = pile ps p := by
  have hjl := (List.getElem?_eq_some_iff.mp hj).1
  have hnin : p ∉ r.take j := fun hm => by
    obtain ⟨i, hi, e⟩ := List.getElem_of_mem hm
    rw [List.getElem_take] at e
    rw [List.length_take] at hi
    have h2 := (List.getElem?_eq_some_iff.mp hj).2
    have := (List.nodup_iff_pairwise_ne.mp nd)
    have hne := List.pairwise_iff_getElem.mp this i j (by omega) hjl (by omega)
    exact hne (e.trans h2.symm)
  refine ⟨?_, by rw [pop_pile, if_neg hnin]⟩
  refine pile_ext (by rw [List.length_set, pop_len, pop_len]) fun i hi => ?_
  rw [pop_len] at hi
  rw [pop_pile, List.take_add_one, hj]
  show (if i ∈ r.take j ++ [p] then _ else _) = (((popR ps (r.take j)).set p (pile ps p).tail)[i]?).getD []
  rw [List.getElem?_set]
  by_cases e : p = i
  · subst e
    rw [if_pos (by simp), if_pos rfl, if_pos (by rw [pop_len]; exact hi)]
    rfl
  · rw [if_neg e]
    show _ = pile (popR ps (r.take j)) i
    rw [pop_pile]
    have : (i ∈ r.take j ++ [p]) ↔ i ∈ r.take j := by simp [Ne.symm e]
    simp -implicitDefEqProofs only [this]
theorem oN_at {ps : Piles} {p : Nat} (h : p < ps.length) : (ps.map oN)[p]? = some (oN (pile ps p)) := by
  rw [List.getElem?_map, List.getElem?_eq_getElem h]
  simp [pile, List.getElem?_eq_getElem h]
theorem oPs_set (ps : Piles) (p : Nat) (l : List Nat) : O.lst ((ps.map oN).set p (oN l)) = oPs (ps.set p l) := by rw [oPs, List.map_set]
theorem pop0 {l : List Nat} (h : l ≠ []) : mutO .popAt (l.map fun (k : Nat) => O.sh (.int k)) [.sh (.int 0)] = some (l.tail.map fun (k : Nat) => O.sh (.int k)) := by
  have hl : 0 < l.length := List.length_pos_iff.mpr h
  simp -implicitDefEqProofs only [mutO]
  rw [if_pos (by decide)]
  have hp : pix (l.map fun (k : Nat) => O.sh (.int k)).length 0 = some 0 := pix_nat (i := 0) (by rw [List.length_map]; exact hl)
  rw [hp]
  cases l with
  | nil => exact absurd rfl h
  | cons a l => rfl
theorem popring_ok (h : tab 50 = some f50) (h0 : tab 0 = some f0) (h35 : tab 35 = some f35) (h43 : tab 43 = some f43) (h49 : tab 49 = some f49) (n : Nat) {ps : Piles} (ok : POk ps) (hl : ps.length ≤ 1000) {r : List Nat} (hr : r ∈ rings (tops ps)) :
    callF tab gt (n + 2) 50 [dPs ps, dN r] = .ok (oPs (popR ps r)) := by
  rw [callF_go h _ _ rfl]
  obtain ⟨f1, f2, f3, f4⟩ := ring_facts ok.tops hr
  rw [tops_len] at f3
  have hls : oLsI (.ok (.sh (dN r))) = .ok (r.map fun (k : Nat) => PyData.int k, false) := oLsI_N (x := .sh (dN r)) rfl
  have hty : isTy (dN r) 3 = true := rfl
  have hcomp : oComp (cT (callO tab gt (n + 1)) gt [some (dPs ps), some (dN r), none, none] [2] (.cons (.not (.call 0 (.cons (.var 2) .nil))) .nil) (.var 2) [2]) (.ok (r.map fun (k : Nat) => PyData.int k, false)) = .ok (.lst []) := by
    refine oComp_ok ?_ (small_sz (Nat.zero_le _))
    rw [compL_filter (fun (k : Nat) => PyData.int k) (fun _ => false) (fun (k : Nat) => O.sh (.int k)) r fun k _ => ?_, filter_none]
    · rfl
    · rw [cT_1c (b := false)]
      · rfl
      · simp -implicitDefEqProofs only [xs_nil, xs_cons, then_nx, then_rt, then_bk, x_asg, oAsg_1, oAsg_t2, oAsg_s2, x_ret, oRet_ok, x_ite, oIte_t, oIte_f, x_pass, x_brk, kO_int, kO_bool, kO_none, kO_str, o_var, o_con, o_bin, o_neg, o_cmp, o_chain, o_not, o_and, o_or, o_idx, o_cut, o_call, o_bi, o_mt, o_isi, o_comp, o_dnew, os_nil, os_cons, oSeq_ok, oPre_ok, o_lst, o_tup, oLst_0, oLst_1, oLst_2, oLst_3, oTup_2, oTup_3, e_var, e_mv, oVar_some, e_con, e_bin, bin_add, bin_sub, bin_xor, e_neg, oNeg_ok, e_cmp, cmp_lt, cmp_le, cmp_gt, cmp_ge, cmp_eqI, cmp_neI, dec_N, cmp_isN_int, cmp_isN_none, cmp_notN_int, cmp_notN_none, e_chain, chain_lelt, e_not, oNot_ok, oB_ok, e_and, e_or, a_nil, a_cons, r_nil, r_cons, oAnd_f, oAnd_t, oAnd_ok, oOr_f, oOr_t, oOr_ok, e_idx, e_cut, part_t, part_f, s_nil, s_cons, oCons_ok, e_lst, e_tup, oL_0, oL_1, oL_2, oL_3, oL_4, oT_2, oT_3, okB_bind, e_call, oCall_ok, e_calld, oCalld_ok, o_calld, e_revl, o_revl, e_bi, e_mt, e_isi, oIsi_1, e_lset, i_ls, i_rng, oFor_t, oFor_f, x_for, step_1, step_2, fin_rt, isNul, eEnv, List.map_cons, List.map_nil, Option.map_some, Option.map_none, er, ers, getS, setS, Bool.and_true, Bool.true_and, Bool.and_false, Bool.false_and, Bool.or_false, Bool.false_or, Bool.or_true, Bool.true_or, Bool.not_true, Bool.not_false, wipeS, isnum_ok h0]
  have hne : oCmp .ne (.ok (.lst [])) (.ok (.lst [])) = .ok (.sh (.bool false)) := (cmp_ne_nil (l := []) rfl rfl).trans (by simp)
  have hlt : (tops ps).length ≤ 1000 := by rw [tops_len]; exact hl
  have hni : oCmp .notin (.ok (.sh (dN r))) (.ok (.lst ((rings (tops ps)).map oN))) = .ok (.sh (.bool false)) := cmp_notin_LN rfl (er_LN _) hr
  simp -implicitDefEqProofs only [f50, start, List.length_cons, List.length_nil, List.replicate, Nat.sub_self, Nat.reduceAdd, Nat.reduceSub, List.cons_append, List.nil_append, xs_nil, xs_cons, then_nx, then_rt, then_bk, x_asg, oAsg_1, oAsg_t2, oAsg_s2, x_ret, oRet_ok, x_ite, oIte_t, oIte_f, x_pass, x_brk, kO_int, kO_bool, kO_none, kO_str, o_var, o_con, o_bin, o_neg, o_cmp, o_chain, o_not, o_and, o_or, o_idx, o_cut, o_call, o_bi, o_mt, o_isi, o_comp, o_dnew, os_nil, os_cons, oSeq_ok, oPre_ok, o_lst, o_tup, oLst_0, oLst_1, oLst_2, oLst_3, oTup_2, oTup_3, e_var, e_mv, oVar_some, e_con, e_bin, bin_add, bin_sub, bin_xor, e_neg, oNeg_ok, e_cmp, cmp_lt, cmp_le, cmp_gt, cmp_ge, cmp_eqI, cmp_neI, dec_N, cmp_isN_int, cmp_isN_none, cmp_notN_int, cmp_notN_none, e_chain, chain_lelt, e_not, oNot_ok, oB_ok, e_and, e_or, a_nil, a_cons, r_nil, r_cons, oAnd_f, oAnd_t, oAnd_ok, oOr_f, oOr_t, oOr_ok, e_idx, e_cut, part_t, part_f, s_nil, s_cons, oCons_ok, e_lst, e_tup, oL_0, oL_1, oL_2, oL_3, oL_4, oT_2, oT_3, okB_bind, e_call, oCall_ok, e_calld, oCalld_ok, o_calld, e_revl, o_revl, e_bi, e_mt, e_isi, oIsi_1, e_lset, i_ls, i_rng, oFor_t, oFor_f, x_for, step_1, step_2, fin_rt, isNul, eEnv, List.map_cons, List.map_nil, Option.map_some, Option.map_none, er, ers, getS, setS, Bool.and_true, Bool.true_and, Bool.and_false, Bool.false_and, Bool.or_false, Bool.false_or, Bool.or_true, Bool.true_or, Bool.not_true, Bool.not_false, hls, hty, e_comp, hcomp, hne, topsof_ok h35 n hl, ers_T, rings_ok h43 n ok.tops hlt, hni, copied_ok h49 n hl, kO_oPs, frz, srcsI, srcs]
  generalize hb : stepF (callO tab gt (n + 1)) gt [2] _ = body
  obtain ⟨Γ', e, c, rfl⟩ := forL_rel (f := body) (fun (k : Nat) => PyData.int k) (fun i Γ => ∃ c : Option O, Γ = [some (.sh (dPs ps)), some (.sh (dN r)), c, some (oPs (popR ps (r.take i)))]) r 0 [some (.sh (dPs ps)), some (.sh (dN r)), none, some (oPs ps)] ⟨none, by
      rw [List.take_zero, show popR ps [] = ps from pile_ext (pop_len _ _) fun i _ => by rw [pop_pile, if_neg (by simp)]]⟩ (by
    rintro j Γ p hj ⟨c, rfl⟩
    rw [Nat.zero_add]
    obtain ⟨q1, q2⟩ := pop_step (ps := ps) f2 hj
    have hp : p < ps.length := f3 p (List.mem_of_getElem? hj)
    have hp' : p < (popR ps (r.take j)).length := by rw [pop_len]; exact hp
    have hnn : pile ps p ≠ [] := fun z => by
      obtain ⟨y, _, ey⟩ := ring_some ok.tops hr (List.mem_of_getElem? hj)
      rw [nx_tops, z] at ey
      cases ey
    subst hb
    simp -implicitDefEqProofs only [step_1, setS]
    rw [xs_cons, mut1_at (by decide) (i := (p : Int)) (j := p) (os := (popR ps (r.take j)).map oN) rfl (by simp -implicitDefEqProofs only [xs_nil, xs_cons, then_nx, then_rt, then_bk, x_asg, oAsg_1, oAsg_t2, oAsg_s2, x_ret, oRet_ok, x_ite, oIte_t, oIte_f, x_pass, x_brk, kO_int, kO_bool, kO_none, kO_str, o_var, o_con, o_bin, o_neg, o_cmp, o_chain, o_not, o_and, o_or, o_idx, o_cut, o_call, o_bi, o_mt, o_isi, o_comp, o_dnew, os_nil, os_cons, oSeq_ok, oPre_ok, o_lst, o_tup, oLst_0, oLst_1, oLst_2, oLst_3, oTup_2, oTup_3, e_var, e_mv, oVar_some, e_con, e_bin, bin_add, bin_sub, bin_xor, e_neg, oNeg_ok, e_cmp, cmp_lt, cmp_le, cmp_gt, cmp_ge, cmp_eqI, cmp_neI, dec_N, cmp_isN_int, cmp_isN_none, cmp_notN_int, cmp_notN_none, e_chain, chain_lelt, e_not, oNot_ok, oB_ok, e_and, e_or, a_nil, a_cons, r_nil, r_cons, oAnd_f, oAnd_t, oAnd_ok, oOr_f, oOr_t, oOr_ok, e_idx, e_cut, part_t, part_f, s_nil, s_cons, oCons_ok, e_lst, e_tup, oL_0, oL_1, oL_2, oL_3, oL_4, oT_2, oT_3, okB_bind, e_call, oCall_ok, e_calld, oCalld_ok, o_calld, e_revl, o_revl, e_bi, e_mt, e_isi, oIsi_1, e_lset, i_ls, i_rng, oFor_t, oFor_f, x_for, step_1, step_2, fin_rt, isNul, eEnv, List.map_cons, List.map_nil, Option.map_some, Option.map_none, er, ers, getS, setS, Bool.and_true, Bool.true_and, Bool.and_false, Bool.false_and, Bool.or_false, Bool.false_or, Bool.or_true, Bool.true_or, Bool.not_true, Bool.not_false]) (pix_nat (by rw [List.length_map]; exact hp')) (oN_at hp')]
    simp -implicitDefEqProofs only [xs_nil, xs_cons, then_nx, then_rt, then_bk, x_asg, oAsg_1, oAsg_t2, oAsg_s2, x_ret, oRet_ok, x_ite, oIte_t, oIte_f, x_pass, x_brk, kO_int, kO_bool, kO_none, kO_str, o_var, o_con, o_bin, o_neg, o_cmp, o_chain, o_not, o_and, o_or, o_idx, o_cut, o_call, o_bi, o_mt, o_isi, o_comp, o_dnew, os_nil, os_cons, oSeq_ok, oPre_ok, o_lst, o_tup, oLst_0, oLst_1, oLst_2, oLst_3, oTup_2, oTup_3, e_var, e_mv, oVar_some, e_con, e_bin, bin_add, bin_sub, bin_xor, e_neg, oNeg_ok, e_cmp, cmp_lt, cmp_le, cmp_gt, cmp_ge, cmp_eqI, cmp_neI, dec_N, cmp_isN_int, cmp_isN_none, cmp_notN_int, cmp_notN_none, e_chain, chain_lelt, e_not, oNot_ok, oB_ok, e_and, e_or, a_nil, a_cons, r_nil, r_cons, oAnd_f, oAnd_t, oAnd_ok, oOr_f, oOr_t, oOr_ok, e_idx, e_cut, part_t, part_f, s_nil, s_cons, oCons_ok, e_lst, e_tup, oL_0, oL_1, oL_2, oL_3, oL_4, oT_2, oT_3, okB_bind, e_call, oCall_ok, e_calld, oCalld_ok, o_calld, e_revl, o_revl, e_bi, e_mt, e_isi, oIsi_1, e_lset, i_ls, i_rng, oFor_t, oFor_f, x_for, step_1, step_2, fin_rt, isNul, eEnv, List.map_cons, List.map_nil, Option.map_some, Option.map_none, er, ers, getS, setS, Bool.and_true, Bool.true_and, Bool.and_false, Bool.false_and, Bool.or_false, Bool.false_or, Bool.or_true, Bool.true_or, Bool.not_true, Bool.not_false]
    rw [oMut1_ok (os := (popR ps (r.take j)).map oN) rfl (pix_nat (by rw [List.length_map]; exact hp')) ((oN_at hp').trans (by rw [q2]; rfl)) (pop0 hnn)]
    simp -implicitDefEqProofs only [xs_nil, xs_cons, then_nx, then_rt, then_bk, x_asg, oAsg_1, oAsg_t2, oAsg_s2, x_ret, oRet_ok, x_ite, oIte_t, oIte_f, x_pass, x_brk, kO_int, kO_bool, kO_none, kO_str, o_var, o_con, o_bin, o_neg, o_cmp, o_chain, o_not, o_and, o_or, o_idx, o_cut, o_call, o_bi, o_mt, o_isi, o_comp, o_dnew, os_nil, os_cons, oSeq_ok, oPre_ok, o_lst, o_tup, oLst_0, oLst_1, oLst_2, oLst_3, oTup_2, oTup_3, e_var, e_mv, oVar_some, e_con, e_bin, bin_add, bin_sub, bin_xor, e_neg, oNeg_ok, e_cmp, cmp_lt, cmp_le, cmp_gt, cmp_ge, cmp_eqI, cmp_neI, dec_N, cmp_isN_int, cmp_isN_none, cmp_notN_int, cmp_notN_none, e_chain, chain_lelt, e_not, oNot_ok, oB_ok, e_and, e_or, a_nil, a_cons, r_nil, r_cons, oAnd_f, oAnd_t, oAnd_ok, oOr_f, oOr_t, oOr_ok, e_idx, e_cut, part_t, part_f, s_nil, s_cons, oCons_ok, e_lst, e_tup, oL_0, oL_1, oL_2, oL_3, oL_4, oT_2, oT_3, okB_bind, e_call, oCall_ok, e_calld, oCalld_ok, o_calld, e_revl, o_revl, e_bi, e_mt, e_isi, oIsi_1, e_lset, i_ls, i_rng, oFor_t, oFor_f, x_for, step_1, step_2, fin_rt, isNul, eEnv, List.map_cons, List.map_nil, Option.map_some, Option.map_none, er, ers, getS, setS, Bool.and_true, Bool.true_and, Bool.and_false, Bool.false_and, Bool.or_false, Bool.false_or, Bool.or_true, Bool.true_or, Bool.not_true, Bool.not_false]
    refine ⟨_, rfl, some (.sh (.int (p : Int))), ?_⟩
    rw [q1, ← oPs_set]
    rfl)
  rw [e, Nat.zero_add, List.take_length]
  simp -implicitDefEqProofs only [xs_nil, xs_cons, then_nx, then_rt, then_bk, x_asg, oAsg_1, oAsg_t2, oAsg_s2, x_ret, oRet_ok, x_ite, oIte_t, oIte_f, x_pass, x_brk, kO_int, kO_bool, kO_none, kO_str, o_var, o_con, o_bin, o_neg, o_cmp, o_chain, o_not, o_and, o_or, o_idx, o_cut, o_call, o_bi, o_mt, o_isi, o_comp, o_dnew, os_nil, os_cons, oSeq_ok, oPre_ok, o_lst, o_tup, oLst_0, oLst_1, oLst_2, oLst_3, oTup_2, oTup_3, e_var, e_mv, oVar_some, e_con, e_bin, bin_add, bin_sub, bin_xor, e_neg, oNeg_ok, e_cmp, cmp_lt, cmp_le, cmp_gt, cmp_ge, cmp_eqI, cmp_neI, dec_N, cmp_isN_int, cmp_isN_none, cmp_notN_int, cmp_notN_none, e_chain, chain_lelt, e_not, oNot_ok, oB_ok, e_and, e_or, a_nil, a_cons, r_nil, r_cons, oAnd_f, oAnd_t, oAnd_ok, oOr_f, oOr_t, oOr_ok, e_idx, e_cut, part_t, part_f, s_nil, s_cons, oCons_ok, e_lst, e_tup, oL_0, oL_1, oL_2, oL_3, oL_4, oT_2, oT_3, okB_bind, e_call, oCall_ok, e_calld, oCalld_ok, o_calld, e_revl, o_revl, e_bi, e_mt, e_isi, oIsi_1, e_lset, i_ls, i_rng, oFor_t, oFor_f, x_for, step_1, step_2, fin_rt, isNul, eEnv, List.map_cons, List.map_nil, Option.map_some, Option.map_none, er, ers, getS, setS, Bool.and_true, Bool.true_and, Bool.and_false, Bool.false_and, Bool.or_false, Bool.false_or, Bool.or_true, Bool.true_or, Bool.not_true, Bool.not_false, o_mvG, oMv_Ps]
end
end Rp

set_option Elab.async false
set_option linter.all false
set_option maxRecDepth 100000
set_option maxHeartbeats 4000000
/-! RpPopE2: popped out, evaluated. -/
namespace Rp
open PySem Rp.T Rg

def choose (o : Option (List Int)) (j m : Nat) : Nat := match o with
  | none => 0
  | some l => match l[j]? with
    | some c => (c % (m : Int)).toNat
    | none => 0
theorem choose_lt (o : Option (List Int)) (j : Nat) {m : Nat} (h : 0 < m) : choose o j m < m := by
  unfold choose
  split
  · exact h
  · split
    · rename_i c _
      have h1 := Int.emod_nonneg c (show (m : Int) ≠ 0 by omega)
      have h2 := Int.emod_lt_of_pos c (show (0 : Int) < m by omega)
      omega
    · exact h
def Chosen (o : Option (List Int)) (ps : Piles) (rs : List (List Nat)) : Prop := ∀ j r, rs[j]? = some r → (rings (tops (after ps (rs.take j))))[choose o j (rings (tops (after ps (rs.take j)))).length]? = some r
theorem Chosen.snoc {o : Option (List Int)} {ps : Piles} {rs : List (List Nat)} {r : List Nat} (h : Chosen o ps rs) (hr : (rings (tops (after ps rs)))[choose o rs.length (rings (tops (after ps rs))).length]? = some r) : Chosen o ps (rs ++ [r]) := by
  intro j s hj
  by_cases hl : j < rs.length
  · rw [List.getElem?_append_left hl] at hj
    rw [List.take_append_of_le_length (Nat.le_of_lt hl)]
    exact h j s hj
  · have e : j = rs.length := by
      have := (List.getElem?_eq_some_iff.mp hj).1
      simp at this; omega
    subst e
    rw [List.getElem?_append_right (Nat.le_refl _)] at hj
    simp at hj
    subst hj
    rw [List.take_left]
    exact hr
theorem legal_size : ∀ (rs : List (List Nat)) {ps : Piles}, POk ps → Legal ps rs → size (after ps rs) + rs.length ≤ size ps
  | [], ps, _, _ => Nat.le_refl _
  | r :: rs, ps, ok, h => by
    have h1 := size_pop ok h.1
    have h2 := legal_size rs (ok.pop r) h.2
    show size (after (popR ps r) rs) + (rs.length + 1) ≤ size ps
    omega
def dOrd : Option (List Int) → D
  | none => .none
  | some l => .list (l.map PyData.int)
theorem dOrd_none : dOrd none = .none := rfl
theorem dOrd_some (l : List Int) : dOrd (some l) = .list (l.map PyData.int) := rfl
section
variable {tab : Tab} {gt : Nat → Option D} {Γ : En} {γ : Env0} {Φ : Nat → List O → Res O}
theorem cmp_notN_list (ds : List D) : oCmp .notN (.ok (.sh (.list ds))) (.ok (.sh .none)) = .ok (.sh (.bool true)) := rfl
theorem eqv_LN_nil (ls : List (List Nat)) : PyData.eqv (.list (ls.map dN)) (.list []) = decide (ls = []) := by
  cases ls with
  | nil => simp [PyData.eqv, PyData.eqvAll]
  | cons a l => simp [PyData.eqv, PyData.eqvAll]
theorem cmp_ne_LN {x y : O} {ls : List (List Nat)} (hx : er x = .list (ls.map dN)) (hy : er y = .list []) : oCmp .ne (.ok x) (.ok y) = .ok (.sh (.bool (!decide (ls = [])))) := by
  refine cmp_ok ?_
  rw [hx, hy]
  simp -implicitDefEqProofs only [cop, sh_NN, sh_nil, Bool.and_self, if_true, eqv_LN_nil]
theorem cmp_eq_LN {x y : O} {ls : List (List Nat)} (hx : er x = .list (ls.map dN)) (hy : er y = .list []) : oCmp .eq (.ok x) (.ok y) = .ok (.sh (.bool (decide (ls = [])))) := by
  refine cmp_ok ?_
  rw [hx, hy]
  simp -implicitDefEqProofs only [cop, sh_NN, sh_nil, Bool.and_self, if_true, eqv_LN_nil]
theorem dix_I {l : List Int} {j : Nat} {c : Int} (h : l[j]? = some c) : dix (.list (l.map PyData.int)) (.int (j : Int)) = some (.int c) := by
  have hl := (List.getElem?_eq_some_iff.mp h).1
  simp -implicitDefEqProofs only [dix, List.length_map, pix_nat hl, Option.bind_some, List.getElem?_map, h, Option.map_some]
theorem dix_LN {ls : List (List Nat)} {j : Nat} {r : List Nat} (h : ls[j]? = some r) : dix (.list (ls.map dN)) (.int (j : Int)) = some (dN r) := by
  have hl := (List.getElem?_eq_some_iff.mp h).1
  simp -implicitDefEqProofs only [dix, List.length_map, pix_nat hl, Option.bind_some, List.getElem?_map, h, Option.map_some]
theorem len_I (l : List Int) : oBi .len (.ok [.sh (.list (l.map PyData.int))]) = .ok (.sh (.int (l.length : Nat))) := by rw [bf_len (x := .sh (.list (l.map PyData.int))) rfl, List.length_map]
theorem len_LN (ls : List (List Nat)) : oBi .len (.ok [.sh (.list (ls.map dN))]) = .ok (.sh (.int (ls.length : Nat))) := len_Ps (x := .sh (.list (ls.map dN))) rfl
def oMvi (i : Nat) (r : Option O) (k : Res O) (Γ : En) : Res (O × En) := match r with
  | some (.lst os) => k.bind fun k => match er k with
    | .int z => (Res.of ((pix os.length z).bind fun j => os[j]?)).bind fun o => .ok (o, setS Γ i none)
    | _ => .bad
  | _ => .bad
theorem o_mviG (i : Nat) (e : Ex) : evO Φ gt (.mvi i e) Γ = oMvi i (getS Γ i) (ev Φ gt (eEnv Γ) e) Γ := by simp -implicitDefEqProofs only [evO]; rfl
theorem oMvi_LN {i j : Nat} {ls : List (List Nat)} {r : List Nat} (h : ls[j]? = some r) : oMvi i (some (.lst (ls.map oN))) (.ok (.sh (.int (j : Int)))) Γ = .ok (oN r, setS Γ i none) := by
  have hl := (List.getElem?_eq_some_iff.mp h).1
  simp -implicitDefEqProofs only [oMvi, Res.bind_ok, er, List.length_map, pix_nat hl, Option.bind_some, List.getElem?_map, h, Option.map_some, Res.of_some]
/-- which ring is next -/
theorem which_ok (o : Option (List Int)) {rs ls : List (List Nat)} (hls : ls ≠ []) (s0 s2 : Option O) (Φ : Nat → List O → Res O) :
    exec Φ gt (.ite (.and (.cons (.cmp .notN (.var 1) (.con .none)) (.cons (.cmp .lt (.bi .len (.cons (.var 3) .nil)) (.bi .len (.cons (.var 1) .nil))) .nil))) (.cons (.asg [5] (.bin .mod (.idx (.var 1) (.bi .len (.cons (.var 3) .nil))) (.bi .len (.cons (.var 4) .nil)))) .nil) .nil)
      [s0, some (.sh (dOrd o)), s2, some (.lst (rs.map oN)), some (.lst (ls.map oN)), some (.sh (.int 0))] =
    .nx [s0, some (.sh (dOrd o)), s2, some (.lst (rs.map oN)), some (.lst (ls.map oN)), some (.sh (.int (choose o rs.length ls.length : Nat)))] := by
  have hpos : 0 < ls.length := List.length_pos_iff.mpr hls
  cases o with
  | none => 
    simp -implicitDefEqProofs only [xs_nil, xs_cons, then_nx, then_rt, then_bk, x_asg, oAsg_1, oAsg_t2, oAsg_s2, x_ret, oRet_ok, x_ite, oIte_t, oIte_f, x_pass, x_brk, kO_int, kO_bool, kO_none, kO_str, o_var, o_con, o_bin, o_neg, o_cmp, o_chain, o_not, o_and, o_or, o_idx, o_cut, o_call, o_bi, o_mt, o_isi, o_comp, o_dnew, os_nil, os_cons, oSeq_ok, oPre_ok, o_lst, o_tup, oLst_0, oLst_1, oLst_2, oLst_3, oTup_2, oTup_3, e_var, e_mv, oVar_some, e_con, e_bin, bin_add, bin_sub, bin_xor, e_neg, oNeg_ok, e_cmp, cmp_lt, cmp_le, cmp_gt, cmp_ge, cmp_eqI, cmp_neI, dec_N, cmp_isN_int, cmp_isN_none, cmp_notN_int, cmp_notN_none, e_chain, chain_lelt, e_not, oNot_ok, oB_ok, e_and, e_or, a_nil, a_cons, r_nil, r_cons, oAnd_f, oAnd_t, oAnd_ok, oOr_f, oOr_t, oOr_ok, e_idx, e_cut, part_t, part_f, s_nil, s_cons, oCons_ok, e_lst, e_tup, oL_0, oL_1, oL_2, oL_3, oL_4, oT_2, oT_3, okB_bind, e_call, oCall_ok, e_calld, oCalld_ok, o_calld, e_revl, o_revl, e_bi, e_mt, e_isi, oIsi_1, e_lset, i_ls, i_rng, oFor_t, oFor_f, x_for, step_1, step_2, fin_rt, isNul, eEnv, List.map_cons, List.map_nil, Option.map_some, Option.map_none, er, ers, getS, setS, Bool.and_true, Bool.true_and, Bool.and_false, Bool.false_and, Bool.or_false, Bool.false_or, Bool.or_true, Bool.true_or, Bool.not_true, Bool.not_false, dOrd_none, choose]
    rfl
  | some l =>
    simp -implicitDefEqProofs only [xs_nil, xs_cons, then_nx, then_rt, then_bk, x_asg, oAsg_1, oAsg_t2, oAsg_s2, x_ret, oRet_ok, x_ite, oIte_t, oIte_f, x_pass, x_brk, kO_int, kO_bool, kO_none, kO_str, o_var, o_con, o_bin, o_neg, o_cmp, o_chain, o_not, o_and, o_or, o_idx, o_cut, o_call, o_bi, o_mt, o_isi, o_comp, o_dnew, os_nil, os_cons, oSeq_ok, oPre_ok, o_lst, o_tup, oLst_0, oLst_1, oLst_2, oLst_3, oTup_2, oTup_3, e_var, e_mv, oVar_some, e_con, e_bin, bin_add, bin_sub, bin_xor, e_neg, oNeg_ok, e_cmp, cmp_lt, cmp_le, cmp_gt, cmp_ge, cmp_eqI, cmp_neI, dec_N, cmp_isN_int, cmp_isN_none, cmp_notN_int, cmp_notN_none, e_chain, chain_lelt, e_not, oNot_ok, oB_ok, e_and, e_or, a_nil, a_cons, r_nil, r_cons, oAnd_f, oAnd_t, oAnd_ok, oOr_f, oOr_t, oOr_ok, e_idx, e_cut, part_t, part_f, s_nil, s_cons, oCons_ok, e_lst, e_tup, oL_0, oL_1, oL_2, oL_3, oL_4, oT_2, oT_3, okB_bind, e_call, oCall_ok, e_calld, oCalld_ok, o_calld, e_revl, o_revl, e_bi, e_mt, e_isi, oIsi_1, e_lset, i_ls, i_rng, oFor_t, oFor_f, x_for, step_1, step_2, fin_rt, isNul, eEnv, List.map_cons, List.map_nil, Option.map_some, Option.map_none, er, ers, getS, setS, Bool.and_true, Bool.true_and, Bool.and_false, Bool.false_and, Bool.or_false, Bool.false_or, Bool.or_true, Bool.true_or, Bool.not_true, Bool.not_false, dOrd_some, cmp_notN_list, ers_N, len_LN, len_I]
    by_cases hlt : rs.length < l.length
    · have hd : decide ((rs.length : Int) < (l.length : Int)) = true := by simp -implicitDefEqProofs only [decide_eq_true_eq]; omega
      have hg : l[rs.length]? = some l[rs.length] := List.getElem?_eq_getElem hlt
      have hi : oIdx (.ok (.sh (.list (l.map PyData.int)))) (.ok (.sh (.int (rs.length : Nat)))) = .ok (.sh (.int l[rs.length])) := idx_ok (dix_I hg)
      simp -implicitDefEqProofs only [hd, xs_nil, xs_cons, then_nx, then_rt, then_bk, x_asg, oAsg_1, oAsg_t2, oAsg_s2, x_ret, oRet_ok, x_ite, oIte_t, oIte_f, x_pass, x_brk, kO_int, kO_bool, kO_none, kO_str, o_var, o_con, o_bin, o_neg, o_cmp, o_chain, o_not, o_and, o_or, o_idx, o_cut, o_call, o_bi, o_mt, o_isi, o_comp, o_dnew, os_nil, os_cons, oSeq_ok, oPre_ok, o_lst, o_tup, oLst_0, oLst_1, oLst_2, oLst_3, oTup_2, oTup_3, e_var, e_mv, oVar_some, e_con, e_bin, bin_add, bin_sub, bin_xor, e_neg, oNeg_ok, e_cmp, cmp_lt, cmp_le, cmp_gt, cmp_ge, cmp_eqI, cmp_neI, dec_N, cmp_isN_int, cmp_isN_none, cmp_notN_int, cmp_notN_none, e_chain, chain_lelt, e_not, oNot_ok, oB_ok, e_and, e_or, a_nil, a_cons, r_nil, r_cons, oAnd_f, oAnd_t, oAnd_ok, oOr_f, oOr_t, oOr_ok, e_idx, e_cut, part_t, part_f, s_nil, s_cons, oCons_ok, e_lst, e_tup, oL_0, oL_1, oL_2, oL_3, oL_4, oT_2, oT_3, okB_bind, e_call, oCall_ok, e_calld, oCalld_ok, o_calld, e_revl, o_revl, e_bi, e_mt, e_isi, oIsi_1, e_lset, i_ls, i_rng, oFor_t, oFor_f, x_for, step_1, step_2, fin_rt, isNul, eEnv, List.map_cons, List.map_nil, Option.map_some, Option.map_none, er, ers, getS, setS, Bool.and_true, Bool.true_and, Bool.and_false, Bool.false_and, Bool.or_false, Bool.false_or, Bool.or_true, Bool.true_or, Bool.not_true, Bool.not_false, ers_N, len_LN, len_I, hi, bin_mod (show (0 : Int) < (ls.length : Int) by omega)]
      simp -implicitDefEqProofs only [choose, hg]
      have h1 := Int.emod_nonneg l[rs.length] (show (ls.length : Int) ≠ 0 by omega)
      rw [Int.toNat_of_nonneg h1]
    · have hd : decide ((rs.length : Int) < (l.length : Int)) = false := by simp -implicitDefEqProofs only [decide_eq_false_iff_not]; omega
      simp -implicitDefEqProofs only [hd, xs_nil, xs_cons, then_nx, then_rt, then_bk, x_asg, oAsg_1, oAsg_t2, oAsg_s2, x_ret, oRet_ok, x_ite, oIte_t, oIte_f, x_pass, x_brk, kO_int, kO_bool, kO_none, kO_str, o_var, o_con, o_bin, o_neg, o_cmp, o_chain, o_not, o_and, o_or, o_idx, o_cut, o_call, o_bi, o_mt, o_isi, o_comp, o_dnew, os_nil, os_cons, oSeq_ok, oPre_ok, o_lst, o_tup, oLst_0, oLst_1, oLst_2, oLst_3, oTup_2, oTup_3, e_var, e_mv, oVar_some, e_con, e_bin, bin_add, bin_sub, bin_xor, e_neg, oNeg_ok, e_cmp, cmp_lt, cmp_le, cmp_gt, cmp_ge, cmp_eqI, cmp_neI, dec_N, cmp_isN_int, cmp_isN_none, cmp_notN_int, cmp_notN_none, e_chain, chain_lelt, e_not, oNot_ok, oB_ok, e_and, e_or, a_nil, a_cons, r_nil, r_cons, oAnd_f, oAnd_t, oAnd_ok, oOr_f, oOr_t, oOr_ok, e_idx, e_cut, part_t, part_f, s_nil, s_cons, oCons_ok, e_lst, e_tup, oL_0, oL_1, oL_2, oL_3, oL_4, oT_2, oT_3, okB_bind, e_call, oCall_ok, e_calld, oCalld_ok, o_calld, e_revl, o_revl, e_bi, e_mt, e_isi, oIsi_1, e_lset, i_ls, i_rng, oFor_t, oFor_f, x_for, step_1, step_2, fin_rt, isNul, eEnv, List.map_cons, List.map_nil, Option.map_some, Option.map_none, er, ers, getS, setS, Bool.and_true, Bool.true_and, Bool.and_false, Bool.false_and, Bool.or_false, Bool.false_or, Bool.or_true, Bool.true_or, Bool.not_true, Bool.not_false, choose, List.getElem?_eq_none (Nat.le_of_not_lt hlt)]
      rfl
theorem popout_ok (h : tab 58 = some f58) (h50 : tab 50 = some f50) (h0 : tab 0 = some f0) (h35 : tab 35 = some f35) (h43 : tab 43 = some f43) (h49 : tab 49 = some f49) (n : Nat) {ps : Piles} (ok : POk ps) (hl : ps.length ≤ 1000) (hz : size ps ≤ 100000) (o : Option (List Int)) :
    ∃ rs, Full ps rs ∧ Chosen o ps rs ∧ callF tab gt (n + 3) 58 [dPs ps, dOrd o] = .ok (.tup [.lst (rs.map oN), oPs (after ps rs)]) := by
  rw [callF_go h _ _ rfl]
  have hlt : ∀ rs, (tops (after ps rs)).length ≤ 1000 := fun rs => by rw [tops_len, after_len]; exact hl
  have hla : ∀ rs, (after ps rs).length ≤ 1000 := fun rs => by rw [after_len]; exact hl
  simp -implicitDefEqProofs only [f58, start, List.length_cons, List.length_nil, List.replicate, Nat.sub_self, Nat.reduceAdd, Nat.reduceSub, List.cons_append, List.nil_append, xs_nil, xs_cons, then_nx, then_rt, then_bk, x_asg, oAsg_1, oAsg_t2, oAsg_s2, x_ret, oRet_ok, x_ite, oIte_t, oIte_f, x_pass, x_brk, kO_int, kO_bool, kO_none, kO_str, o_var, o_con, o_bin, o_neg, o_cmp, o_chain, o_not, o_and, o_or, o_idx, o_cut, o_call, o_bi, o_mt, o_isi, o_comp, o_dnew, os_nil, os_cons, oSeq_ok, oPre_ok, o_lst, o_tup, oLst_0, oLst_1, oLst_2, oLst_3, oTup_2, oTup_3, e_var, e_mv, oVar_some, e_con, e_bin, bin_add, bin_sub, bin_xor, e_neg, oNeg_ok, e_cmp, cmp_lt, cmp_le, cmp_gt, cmp_ge, cmp_eqI, cmp_neI, dec_N, cmp_isN_int, cmp_isN_none, cmp_notN_int, cmp_notN_none, e_chain, chain_lelt, e_not, oNot_ok, oB_ok, e_and, e_or, a_nil, a_cons, r_nil, r_cons, oAnd_f, oAnd_t, oAnd_ok, oOr_f, oOr_t, oOr_ok, e_idx, e_cut, part_t, part_f, s_nil, s_cons, oCons_ok, e_lst, e_tup, oL_0, oL_1, oL_2, oL_3, oL_4, oT_2, oT_3, okB_bind, e_call, oCall_ok, e_calld, oCalld_ok, o_calld, e_revl, o_revl, e_bi, e_mt, e_isi, oIsi_1, e_lset, i_ls, i_rng, oFor_t, oFor_f, x_for, step_1, step_2, fin_rt, isNul, eEnv, List.map_cons, List.map_nil, Option.map_some, Option.map_none, er, ers, getS, setS, Bool.and_true, Bool.true_and, Bool.and_false, Bool.false_and, Bool.or_false, Bool.false_or, Bool.or_true, Bool.true_or, Bool.not_true, Bool.not_false, copied_ok h49 (n + 1) hl, kO_oPs, er_oPs, topsof_ok h35 (n + 1) hl, ers_T, rings_ok h43 (n + 1) ok.tops (hlt []), kO_LN]
  rw [x_whlS]
  generalize hcd : condF (callO tab gt (n + 2)) gt _ = cnd
  generalize hb : bodyF (callO tab gt (n + 2)) gt _ = body
  obtain ⟨Γ', e, rs, s5, q1, q2, q3, rfl⟩ := whl_rel (c := cnd) (f := body)
    (fun m Γ => ∃ rs s5, Legal ps rs ∧ Chosen o ps rs ∧ size (after ps rs) ≤ m ∧ Γ = [some (.sh (dPs ps)), some (.sh (dOrd o)), some (oPs (after ps rs)), some (.lst (rs.map oN)), some (.lst ((rings (tops (after ps rs))).map oN)), s5])
    (fun Γ => ∃ rs s5, Legal ps rs ∧ Chosen o ps rs ∧ rings (tops (after ps rs)) = [] ∧ Γ = [some (.sh (dPs ps)), some (.sh (dOrd o)), some (oPs (after ps rs)), some (.lst (rs.map oN)), some (.lst ((rings (tops (after ps rs))).map oN)), s5]) (by
    rintro m Γ ⟨rs, s5, q1, q2, q3, rfl⟩
    have hc : oCmp .ne (.ok (.sh (.list ((rings (tops (after ps rs))).map dN)))) (.ok (.lst [])) = .ok (.sh (.bool (!decide (rings (tops (after ps rs)) = [])))) := cmp_ne_LN rfl rfl
    by_cases hne : rings (tops (after ps rs)) = []
    · refine .inl ⟨?_, rs, s5, q1, q2, hne, rfl⟩
      have hc2 := hc.trans (show _ = .ok (.sh (.bool false)) by simp [hne])
      subst hcd
      simp -implicitDefEqProofs only [condF, xs_nil, xs_cons, then_nx, then_rt, then_bk, x_asg, oAsg_1, oAsg_t2, oAsg_s2, x_ret, oRet_ok, x_ite, oIte_t, oIte_f, x_pass, x_brk, kO_int, kO_bool, kO_none, kO_str, o_var, o_con, o_bin, o_neg, o_cmp, o_chain, o_not, o_and, o_or, o_idx, o_cut, o_call, o_bi, o_mt, o_isi, o_comp, o_dnew, os_nil, os_cons, oSeq_ok, oPre_ok, o_lst, o_tup, oLst_0, oLst_1, oLst_2, oLst_3, oTup_2, oTup_3, e_var, e_mv, oVar_some, e_con, e_bin, bin_add, bin_sub, bin_xor, e_neg, oNeg_ok, e_cmp, cmp_lt, cmp_le, cmp_gt, cmp_ge, cmp_eqI, cmp_neI, dec_N, cmp_isN_int, cmp_isN_none, cmp_notN_int, cmp_notN_none, e_chain, chain_lelt, e_not, oNot_ok, oB_ok, e_and, e_or, a_nil, a_cons, r_nil, r_cons, oAnd_f, oAnd_t, oAnd_ok, oOr_f, oOr_t, oOr_ok, e_idx, e_cut, part_t, part_f, s_nil, s_cons, oCons_ok, e_lst, e_tup, oL_0, oL_1, oL_2, oL_3, oL_4, oT_2, oT_3, okB_bind, e_call, oCall_ok, e_calld, oCalld_ok, o_calld, e_revl, o_revl, e_bi, e_mt, e_isi, oIsi_1, e_lset, i_ls, i_rng, oFor_t, oFor_f, x_for, step_1, step_2, fin_rt, isNul, eEnv, List.map_cons, List.map_nil, Option.map_some, Option.map_none, er, ers, getS, setS, Bool.and_true, Bool.true_and, Bool.and_false, Bool.false_and, Bool.or_false, Bool.false_or, Bool.or_true, Bool.true_or, Bool.not_true, Bool.not_false, ers_N, hc2]
    · refine .inr ⟨?_, ?_⟩
      · have hc2 := hc.trans (show _ = .ok (.sh (.bool true)) by simp [hne])
        subst hcd
        simp -implicitDefEqProofs only [condF, xs_nil, xs_cons, then_nx, then_rt, then_bk, x_asg, oAsg_1, oAsg_t2, oAsg_s2, x_ret, oRet_ok, x_ite, oIte_t, oIte_f, x_pass, x_brk, kO_int, kO_bool, kO_none, kO_str, o_var, o_con, o_bin, o_neg, o_cmp, o_chain, o_not, o_and, o_or, o_idx, o_cut, o_call, o_bi, o_mt, o_isi, o_comp, o_dnew, os_nil, os_cons, oSeq_ok, oPre_ok, o_lst, o_tup, oLst_0, oLst_1, oLst_2, oLst_3, oTup_2, oTup_3, e_var, e_mv, oVar_some, e_con, e_bin, bin_add, bin_sub, bin_xor, e_neg, oNeg_ok, e_cmp, cmp_lt, cmp_le, cmp_gt, cmp_ge, cmp_eqI, cmp_neI, dec_N, cmp_isN_int, cmp_isN_none, cmp_notN_int, cmp_notN_none, e_chain, chain_lelt, e_not, oNot_ok, oB_ok, e_and, e_or, a_nil, a_cons, r_nil, r_cons, oAnd_f, oAnd_t, oAnd_ok, oOr_f, oOr_t, oOr_ok, e_idx, e_cut, part_t, part_f, s_nil, s_cons, oCons_ok, e_lst, e_tup, oL_0, oL_1, oL_2, oL_3, oL_4, oT_2, oT_3, okB_bind, e_call, oCall_ok, e_calld, oCalld_ok, o_calld, e_revl, o_revl, e_bi, e_mt, e_isi, oIsi_1, e_lset, i_ls, i_rng, oFor_t, oFor_f, x_for, step_1, step_2, fin_rt, isNul, eEnv, List.map_cons, List.map_nil, Option.map_some, Option.map_none, er, ers, getS, setS, Bool.and_true, Bool.true_and, Bool.and_false, Bool.false_and, Bool.or_false, Bool.false_or, Bool.or_true, Bool.true_or, Bool.not_true, Bool.not_false, ers_N, hc2]
      · have hpos : 0 < (rings (tops (after ps rs))).length := List.length_pos_iff.mpr hne
        have hch := choose_lt o rs.length hpos
        have hg : (rings (tops (after ps rs)))[choose o rs.length (rings (tops (after ps rs))).length]? = some (rings (tops (after ps rs)))[choose o rs.length (rings (tops (after ps rs))).length] := List.getElem?_eq_getElem hch
        generalize hr : (rings (tops (after ps rs)))[choose o rs.length (rings (tops (after ps rs))).length] = r at hg
        have hmem : r ∈ rings (tops (after ps rs)) := List.mem_of_getElem? hg
        have hidx : oIdx (.ok (.sh (.list ((rings (tops (after ps rs))).map dN)))) (.ok (.sh (.int (choose o rs.length (rings (tops (after ps rs))).length : Nat)))) = .ok (.sh (dN r)) := idx_ok (dix_LN hg)
        have hsz := legal_size rs ok q1
        have hap : (rs.map oN).length < sizeLine := by rw [List.length_map]; exact small_sz (by omega)
        have okA := ok.after rs
        have okP := okA.pop r
        subst hb
        unfold bodyF
        rw [xs_cons]
        simp -implicitDefEqProofs only [x_asg, o_con, e_con, kO_int, oAsg_1, setS, then_nx]
        rw [xs_cons, which_ok o hne]
        simp -implicitDefEqProofs only [xs_nil, xs_cons, then_nx, then_rt, then_bk, x_asg, oAsg_1, oAsg_t2, oAsg_s2, x_ret, oRet_ok, x_ite, oIte_t, oIte_f, x_pass, x_brk, kO_int, kO_bool, kO_none, kO_str, o_var, o_con, o_bin, o_neg, o_cmp, o_chain, o_not, o_and, o_or, o_idx, o_cut, o_call, o_bi, o_mt, o_isi, o_comp, o_dnew, os_nil, os_cons, oSeq_ok, oPre_ok, o_lst, o_tup, oLst_0, oLst_1, oLst_2, oLst_3, oTup_2, oTup_3, e_var, e_mv, oVar_some, e_con, e_bin, bin_add, bin_sub, bin_xor, e_neg, oNeg_ok, e_cmp, cmp_lt, cmp_le, cmp_gt, cmp_ge, cmp_eqI, cmp_neI, dec_N, cmp_isN_int, cmp_isN_none, cmp_notN_int, cmp_notN_none, e_chain, chain_lelt, e_not, oNot_ok, oB_ok, e_and, e_or, a_nil, a_cons, r_nil, r_cons, oAnd_f, oAnd_t, oAnd_ok, oOr_f, oOr_t, oOr_ok, e_idx, e_cut, part_t, part_f, s_nil, s_cons, oCons_ok, e_lst, e_tup, oL_0, oL_1, oL_2, oL_3, oL_4, oT_2, oT_3, okB_bind, e_call, oCall_ok, e_calld, oCalld_ok, o_calld, e_revl, o_revl, e_bi, e_mt, e_isi, oIsi_1, e_lset, i_ls, i_rng, oFor_t, oFor_f, x_for, step_1, step_2, fin_rt, isNul, eEnv, List.map_cons, List.map_nil, Option.map_some, Option.map_none, er, ers, getS, setS, Bool.and_true, Bool.true_and, Bool.and_false, Bool.false_and, Bool.or_false, Bool.false_or, Bool.or_true, Bool.true_or, Bool.not_true, Bool.not_false, er_oPs, ers_N, hidx, popring_ok h50 h0 h35 h43 h49 n okA (hla rs) hmem, kO_oPs, x_app, oMu_lst, o_mviG, oMvi_LN hg, oMut_app, oAp_lst hap, topsof_ok h35 (n + 1) (show (popR (after ps rs) r).length ≤ 1000 by rw [pop_len]; exact hla rs), ers_T, rings_ok h43 (n + 1) okP.tops (show (tops (popR (after ps rs) r)).length ≤ 1000 by rw [tops_len, pop_len]; exact hla rs), kO_LN]
        have hs := size_pop okA hmem
        refine ⟨_, size (popR (after ps rs) r), rfl, by omega, rs ++ [r], some (.sh (.int (choose o rs.length (rings (tops (after ps rs))).length : Nat))), q1.snoc hmem, q2.snoc hg, by rw [after_snoc]; exact Nat.le_refl _, ?_⟩
        rw [after_snoc, List.map_append]
        rfl) fuelW (size ps) [some (.sh (dPs ps)), some (.sh (dOrd o)), some (oPs ps), some (.lst []), some (.lst ((rings (tops ps)).map oN)), none] ⟨[], none, trivial, fun j r hj => (by simp at hj), Nat.le_refl _, rfl⟩ (by rw [fuelW_eq]; omega)
  rw [e]
  refine ⟨rs, ⟨q1, q3⟩, q2, ?_⟩
  simp -implicitDefEqProofs only [xs_nil, xs_cons, then_nx, then_rt, then_bk, x_asg, oAsg_1, oAsg_t2, oAsg_s2, x_ret, oRet_ok, x_ite, oIte_t, oIte_f, x_pass, x_brk, kO_int, kO_bool, kO_none, kO_str, o_var, o_con, o_bin, o_neg, o_cmp, o_chain, o_not, o_and, o_or, o_idx, o_cut, o_call, o_bi, o_mt, o_isi, o_comp, o_dnew, os_nil, os_cons, oSeq_ok, oPre_ok, o_lst, o_tup, oLst_0, oLst_1, oLst_2, oLst_3, oTup_2, oTup_3, e_var, e_mv, oVar_some, e_con, e_bin, bin_add, bin_sub, bin_xor, e_neg, oNeg_ok, e_cmp, cmp_lt, cmp_le, cmp_gt, cmp_ge, cmp_eqI, cmp_neI, dec_N, cmp_isN_int, cmp_isN_none, cmp_notN_int, cmp_notN_none, e_chain, chain_lelt, e_not, oNot_ok, oB_ok, e_and, e_or, a_nil, a_cons, r_nil, r_cons, oAnd_f, oAnd_t, oAnd_ok, oOr_f, oOr_t, oOr_ok, e_idx, e_cut, part_t, part_f, s_nil, s_cons, oCons_ok, e_lst, e_tup, oL_0, oL_1, oL_2, oL_3, oL_4, oT_2, oT_3, okB_bind, e_call, oCall_ok, e_calld, oCalld_ok, o_calld, e_revl, o_revl, e_bi, e_mt, e_isi, oIsi_1, e_lset, i_ls, i_rng, oFor_t, oFor_f, x_for, step_1, step_2, fin_rt, isNul, eEnv, List.map_cons, List.map_nil, Option.map_some, Option.map_none, er, ers, getS, setS, Bool.and_true, Bool.true_and, Bool.and_false, Bool.false_and, Bool.or_false, Bool.false_or, Bool.or_true, Bool.true_or, Bool.not_true, Bool.not_false, o_mvG, oMv_lst, oMv_Ps]
/-! marks -/
def dM (p : Nat × Nat) : D := .tuple [.int (p.1 : Nat), .int (p.2 : Nat)]
def dMs (l : List (Nat × Nat)) : D := .list (l.map dM)
def oM (p : Nat × Nat) : O := .tup [.sh (.int (p.1 : Nat)), .sh (.int (p.2 : Nat))]
def oMs (l : List (Nat × Nat)) : O := .lst (l.map oM)
theorem er_oMs (l : List (Nat × Nat)) : er (oMs l) = dMs l := by
  simp -implicitDefEqProofs only [oMs, dMs, er, ers_map, List.map_map]
  rfl
theorem clean_oMs (l : List (Nat × Nat)) : clean (oMs l) = true := by
  simp -implicitDefEqProofs only [oMs, clean]
  induction l with
  | nil => rfl
  | cons p l ih => simp -implicitDefEqProofs only [List.map_cons, cleans, ih, oM, clean, flat, Bool.and_true]
theorem ers_Ms (ls : List (List (Nat × Nat))) : ers (ls.map oMs) = ls.map dMs := by
  rw [ers_map, List.map_map]
  exact List.map_congr_left fun l _ => er_oMs l
/-- a dict of counts -/
def al (l : List (Nat × Nat)) : List (D × D) := l.map fun p => (.int (p.1 : Nat), .int (p.2 : Nat))
def aget (k : Nat) : List (Nat × Nat) → Option Nat
  | [] => none
  | p :: l => if p.1 = k then some p.2 else aget k l
def aput (k v : Nat) (l : List (Nat × Nat)) : List (Nat × Nat) := if (l.any fun p => decide (p.1 = k)) = true then l.map (fun p => if p.1 = k then (p.1, v) else p) else l ++ [(k, v)]
theorem dget_al (k : Nat) : ∀ l : List (Nat × Nat), dget (k : Int) (al l) = (aget k l).map fun v => .int (v : Nat)
  | [] => rfl
  | p :: l => by
    simp -implicitDefEqProofs only [al, List.map_cons, dget, aget, eqv_int]
    by_cases h : p.1 = k
    · simp [h]
    · have : ¬ ((p.1 : Int) = (k : Int)) := by omega
      simp -implicitDefEqProofs only [this, decide_false, Bool.false_eq_true, if_false, h]
      exact dget_al k l
theorem any_al (k : Nat) (l : List (Nat × Nat)) : ((al l).any fun p => PyData.eqv p.1 (.int (k : Int))) = l.any fun p => decide (p.1 = k) := by
  induction l with
  | nil => rfl
  | cons p l ih =>
    simp -implicitDefEqProofs only [al, List.map_cons, List.any_cons] at ih ⊢
    rw [ih, eqv_int, dec_N]
theorem dput_al (k v : Nat) (l : List (Nat × Nat)) : dput (k : Int) (.int (v : Int)) (al l) = al (aput k v l) := by
  unfold dput aput
  rw [any_al]
  by_cases h : (l.any fun p => decide (p.1 = k)) = true
  · rw [if_pos h, if_pos h]
    unfold al
    rw [List.map_map, List.map_map]
    refine List.map_congr_left fun p _ => ?_
    simp -implicitDefEqProofs only [Function.comp, eqv_int, dec_N]
    by_cases e : p.1 = k <;> simp [e]
  · rw [if_neg h, if_neg h]
    simp [al]
theorem aget_map (k j v : Nat) : ∀ l : List (Nat × Nat), aget j (l.map fun p => if p.1 = k then (p.1, v) else p) = if j = k then (aget j l).map (fun _ => v) else aget j l
  | [] => by simp [aget]
  | p :: l => by
    simp -implicitDefEqProofs only [List.map_cons, aget]
    by_cases e : p.1 = k
    · rw [if_pos e]
      by_cases ej : j = k
      · subst ej; simp [e]
      · have : ¬ (p.1 = j) := fun z => ej (by rw [← z, e])
        rw [if_neg this, aget_map k j v l, if_neg ej, if_neg ej, if_neg this]
    · rw [if_neg e]
      by_cases ej : p.1 = j
      · rw [if_pos ej, if_pos ej, if_neg (by rw [← ej]; exact e)]
      · rw [if_neg ej, if_neg ej]
        exact aget_map k j v l
theorem aget_any (k : Nat) : ∀ l : List (Nat × Nat), (l.any fun p => decide (p.1 = k)) = (aget k l).isSome
  | [] => rfl
  | p :: l => by
    simp -implicitDefEqProofs only [List.any_cons, aget, aget_any k l]
    by_cases e : p.1 = k <;> simp [e]
theorem aget_app (j : Nat) (q : Nat × Nat) : ∀ l : List (Nat × Nat), aget j (l ++ [q]) = (aget j l).or (if q.1 = j then some q.2 else none)
  | [] => by simp [aget]
  | p :: l => by
    simp -implicitDefEqProofs only [List.cons_append, aget]
    by_cases e : p.1 = j
    · simp [e]
    · rw [if_neg e, if_neg e]; exact aget_app j q l
theorem aget_put (k j v : Nat) (l : List (Nat × Nat)) : aget j (aput k v l) = if j = k then some v else aget j l := by
  unfold aput
  rw [aget_any]
  by_cases h : (aget k l).isSome = true
  · rw [if_pos h, aget_map]
    by_cases e : j = k
    · subst e
      rw [if_pos rfl, if_pos rfl]
      cases q : aget j l with
      | none => rw [q] at h; cases h
      | some x => rfl
    · rw [if_neg e, if_neg e]
  · rw [if_neg h, aget_app]
    by_cases e : j = k
    · subst e
      rw [if_pos rfl, if_pos rfl]
      cases q : aget j l with
      | none => rfl
      | some x => rw [q] at h; exact absurd rfl h
    · rw [if_neg e, if_neg (Ne.symm e)]
      cases aget j l <;> rfl
theorem aput_len (k v : Nat) (l : List (Nat × Nat)) : (aput k v l).length ≤ l.length + 1 := by
  unfold aput
  split <;> simp
/-- the counts are d -/
def Cnt (l : List (Nat × Nat)) (d : Nat → Nat) : Prop := ∀ p, (aget p l).getD 0 = d p
theorem Cnt.get {l : List (Nat × Nat)} {d : Nat → Nat} (h : Cnt l d) (p : Nat) : oMt .get (.ok (.sh (.dict (al l)))) (.ok [.sh (.int (p : Nat)), .sh (.int 0)]) = .ok (.sh (.int (d p : Nat))) := by
  have e : (dget (p : Int) (al l)).getD (.int 0) = .int (d p : Nat) := by
    rw [dget_al, ← h p]
    cases aget p l <;> rfl
  simp -implicitDefEqProofs only [oMt, Res.bind_ok, er, ers, mtOk, if_true, mtf, e, Res.of_some]
theorem Cnt.put {l : List (Nat × Nat)} {d : Nat → Nat} (h : Cnt l d) (p : Nat) : Cnt (aput p (d p + 1) l) (fun q => if q = p then d q + 1 else d q) := fun q => by
  rw [aget_put]
  by_cases e : q = p
  · subst e; simp
  · rw [if_neg e]; simp -implicitDefEqProofs only [if_neg e]; exact h q
def tick (d : Nat → Nat) (r : List Nat) : Nat → Nat := r.foldl (fun d p => fun q => if q = p then d q + 1 else d q) d
theorem tick_bump : ∀ (r : List Nat) (d : Nat → Nat), r.Nodup → tick d r = Rg.bump d r
  | [], d, _ => by funext q; simp [tick, Rg.bump]
  | p :: r, d, nd => by
    obtain ⟨h1, h2⟩ := List.nodup_cons.mp nd
    show tick (fun q => if q = p then d q + 1 else d q) r = _
    rw [tick_bump r _ h2]
    funext q
    unfold Rg.bump
    by_cases e : q = p
    · subst e; simp [h1]
    · simp [e]
/-- alike, shaped -/
theorem alike_M (p q : Nat × Nat) : PySem.W.alike (dM p) (dM q) = true := by simp [dM, PySem.W.alike, PySem.W.alikeAll]
theorem alike_Ms : ∀ l m : List (Nat × Nat), PySem.W.alikeAll (l.map dM) (m.map dM) = true
  | [], _ => by simp [PySem.W.alikeAll]
  | _ :: _, [] => by simp [PySem.W.alikeAll]
  | p :: l, q :: m => by
    rw [List.map_cons, List.map_cons, PySem.W.alikeAll, alike_M, alike_Ms l m]
    rfl
theorem alike_dMs (l m : List (Nat × Nat)) : PySem.W.alike (dMs l) (dMs m) = true := by rw [dMs, dMs, PySem.W.alike]; exact alike_Ms l m
theorem lay_Ms (l : List (Nat × Nat)) : PyData.canLayAll0 (l.map dM) = true := by
  induction l with
  | nil => simp [PyData.canLayAll0]
  | cons p l ih => simp [PyData.canLayAll0, PyData.canLay0, dM, ih]
theorem depth_Ms (l : List (Nat × Nat)) : PyData.depthAll (l.map dM) ≤ 1 := by
  induction l with
  | nil => simp [PyData.depthAll]
  | cons p l ih =>
    rw [List.map_cons, PyData.depthAll]
    have : (dM p).depth ≤ 1 := by simp [dM, PyData.depth, PyData.depthAll]
    omega
theorem sortOk_M (ls : List (List (Nat × Nat))) : sortOk (ls.map dMs) = true := by
  simp -implicitDefEqProofs only [sortOk, Bool.and_eq_true, Bool.or_eq_true, List.all_eq_true, decide_eq_true_eq]
  refine ⟨⟨fun d hd e he => ?_, .inr fun d hd => ?_⟩, fun d hd => ?_⟩
  · obtain ⟨a, _, rfl⟩ := List.mem_map.mp hd
    obtain ⟨b, _, rfl⟩ := List.mem_map.mp he
    exact alike_dMs a b
  · obtain ⟨a, _, rfl⟩ := List.mem_map.mp hd; rfl
  · obtain ⟨a, _, rfl⟩ := List.mem_map.mp hd
    have := depth_Ms a
    refine ⟨by rw [dMs, PyData.canLay0]; exact lay_Ms a, by rw [dMs, PyData.depth]; omega⟩
/-- the order of marked rings -/
def leM (a b : List (Nat × Nat)) : Bool := PySem.W.dataLe false id (dMs a) (dMs b)
def sortM (ls : List (List (Nat × Nat))) : List (List (Nat × Nat)) := ls.mergeSort leM
theorem sortO_M (ls : List (List (Nat × Nat))) : sortO (ls.map oMs) = (sortM ls).map oMs := by
  unfold sortO sortM
  symm
  refine List.map_mergeSort fun a _ b _ => ?_
  show leM a b = PySem.W.dataLe false id (er (oMs a)) (er (oMs b))
  rw [er_oMs, er_oMs]
  rfl
theorem oSm_M (i : Nat) (ls : List (List (Nat × Nat))) : oSm i (some (.lst (ls.map oMs))) Γ = .ok (.lst ((sortM ls).map oMs), setS Γ i none) := by
  rw [oSm_lst i (by rw [ers_Ms]; exact sortOk_M ls), sortO_M]
theorem flats_N (l : List Nat) : flats (l.map fun (k : Nat) => PyData.int k) = true := by
  induction l with
  | nil => rfl
  | cons k l ih => simp [flats, flat, ih]
def oDput (x : Nat) (v k : Res O) (r : Option O) (Γ : En) : Out := v.out fun v => match r with
  | some (.dic kvs) => k.out fun z => match er z with
    | .int i => if scal (er v) && decide (kvs.length < sizeLine) then .nx (setS Γ x (some (.dic (dput i (er v) kvs)))) else .bad
    | _ => .bad
  | _ => .bad
theorem x_dput (x : Nat) (k e : Ex) : exec Φ gt (.dput x k e) Γ = oDput x (ev Φ gt (eEnv Γ) e) (ev Φ gt (eEnv Γ) k) (getS Γ x) Γ := by simp -implicitDefEqProofs only [exec]; rfl
theorem oDput_ok {x : Nat} {l : List (Nat × Nat)} {v k : Nat} (h : l.length < sizeLine) : oDput x (.ok (.sh (.int (v : Int)))) (.ok (.sh (.int (k : Int)))) (some (.dic (al l))) Γ = .nx (setS Γ x (some (.dic (al (aput k v l))))) := by
  have hl : (al l).length = l.length := List.length_map ..
  simp -implicitDefEqProofs only [oDput, Res.out, er, scal, Bool.true_and, hl, h, decide_true, if_true, dput_al]
theorem marked_ok {f : Nat} (h : tab f = some f67) (n : Nat) {rs : List (List Nat)} (nd : ∀ r ∈ rs, r.Nodup ∧ r.length ≤ 100) (hl : rs.length ≤ 1000) :
    callF tab gt (n + 1) f [.list (rs.map dN)] = .ok (.lst ((sortM (marks (fun _ => 0) rs)).map oMs)) := by
  rw [callF_go h _ _ rfl]
  have hls : oLsI (.ok (.sh (.list (rs.map dN)))) = .ok (rs.map dN, false) := oLsI_ok rfl
  simp -implicitDefEqProofs only [f67, start, List.length_cons, List.length_nil, List.replicate, Nat.sub_self, Nat.reduceAdd, Nat.reduceSub, List.cons_append, List.nil_append, xs_nil, xs_cons, then_nx, then_rt, then_bk, x_asg, oAsg_1, oAsg_t2, oAsg_s2, x_ret, oRet_ok, x_ite, oIte_t, oIte_f, x_pass, x_brk, kO_int, kO_bool, kO_none, kO_str, o_var, o_con, o_bin, o_neg, o_cmp, o_chain, o_not, o_and, o_or, o_idx, o_cut, o_call, o_bi, o_mt, o_isi, o_comp, o_dnew, os_nil, os_cons, oSeq_ok, oPre_ok, o_lst, o_tup, oLst_0, oLst_1, oLst_2, oLst_3, oTup_2, oTup_3, e_var, e_mv, oVar_some, e_con, e_bin, bin_add, bin_sub, bin_xor, e_neg, oNeg_ok, e_cmp, cmp_lt, cmp_le, cmp_gt, cmp_ge, cmp_eqI, cmp_neI, dec_N, cmp_isN_int, cmp_isN_none, cmp_notN_int, cmp_notN_none, e_chain, chain_lelt, e_not, oNot_ok, oB_ok, e_and, e_or, a_nil, a_cons, r_nil, r_cons, oAnd_f, oAnd_t, oAnd_ok, oOr_f, oOr_t, oOr_ok, e_idx, e_cut, part_t, part_f, s_nil, s_cons, oCons_ok, e_lst, e_tup, oL_0, oL_1, oL_2, oL_3, oL_4, oT_2, oT_3, okB_bind, e_call, oCall_ok, e_calld, oCalld_ok, o_calld, e_revl, o_revl, e_bi, e_mt, e_isi, oIsi_1, e_lset, i_ls, i_rng, oFor_t, oFor_f, x_for, step_1, step_2, fin_rt, isNul, eEnv, List.map_cons, List.map_nil, Option.map_some, Option.map_none, er, ers, getS, setS, Bool.and_true, Bool.true_and, Bool.and_false, Bool.false_and, Bool.or_false, Bool.false_or, Bool.or_true, Bool.true_or, Bool.not_true, Bool.not_false, hls, frz, srcsI, srcs]
  generalize hb : stepF (callO tab gt n) gt [3] _ = body
  obtain ⟨Γ', e, l, s3, s4, hc, hz, rfl⟩ := forL_rel (f := body) dN (fun i Γ => ∃ (l : List (Nat × Nat)) (s3 s4 : Option O), Cnt l (bumps (fun _ => 0) (rs.take i)) ∧ l.length ≤ 100 * i ∧ Γ = [some (.sh (.list (rs.map dN))), some (.dic (al l)), some (.lst ((marks (fun _ => 0) (rs.take i)).map oMs)), s3, s4]) rs 0 [some (.sh (.list (rs.map dN))), some (.dic []), some (.lst []), none, none] ⟨[], none, none, fun _ => rfl, Nat.zero_le _, rfl⟩ (by
    rintro j Γ r hj ⟨l, s3, s4, hc, hz, rfl⟩
    rw [Nat.zero_add] at hc hz ⊢
    have hjl := (List.getElem?_eq_some_iff.mp hj).1
    obtain ⟨ndr, hlr⟩ := nd r (List.mem_of_getElem? hj)
    have hap : ((marks (fun _ => 0) (rs.take j)).map oMs).length < sizeLine := by rw [List.length_map, marks_len, List.length_take]; exact small_sz (by omega)
    have hlsr : oLsI (.ok (.sh (dN r))) = .ok (r.map fun (k : Nat) => PyData.int k, false) := oLsI_N (x := .sh (dN r)) rfl
    have hcomp : oComp (cT (callO tab gt n) gt [some (.list (rs.map dN)), some (.dict (al l)), some (.list ((marks (fun _ => 0) (rs.take j)).map dMs)), some (dN r), s4.map er] [4] .nil (.tup (.cons (.var 4) (.cons (.mt .get (.var 1) (.cons (.var 4) (.cons (.con (.int 0)) .nil))) .nil))) [4]) (.ok (r.map fun (k : Nat) => PyData.int k, false)) = .ok (oMs (mark (bumps (fun _ => 0) (rs.take j)) r)) := by
      refine oComp_ok ?_ (small_sz (by simp [mark]; omega))
      rw [compL_map (fun (k : Nat) => PyData.int k) (fun k => oM (k, bumps (fun _ => 0) (rs.take j) k)) r fun k _ => ?_]
      · simp -implicitDefEqProofs only [mark, List.map_map]; rfl
      · rw [cT_1]
        simp -implicitDefEqProofs only [xs_nil, xs_cons, then_nx, then_rt, then_bk, x_asg, oAsg_1, oAsg_t2, oAsg_s2, x_ret, oRet_ok, x_ite, oIte_t, oIte_f, x_pass, x_brk, kO_int, kO_bool, kO_none, kO_str, o_var, o_con, o_bin, o_neg, o_cmp, o_chain, o_not, o_and, o_or, o_idx, o_cut, o_call, o_bi, o_mt, o_isi, o_comp, o_dnew, os_nil, os_cons, oSeq_ok, oPre_ok, o_lst, o_tup, oLst_0, oLst_1, oLst_2, oLst_3, oTup_2, oTup_3, e_var, e_mv, oVar_some, e_con, e_bin, bin_add, bin_sub, bin_xor, e_neg, oNeg_ok, e_cmp, cmp_lt, cmp_le, cmp_gt, cmp_ge, cmp_eqI, cmp_neI, dec_N, cmp_isN_int, cmp_isN_none, cmp_notN_int, cmp_notN_none, e_chain, chain_lelt, e_not, oNot_ok, oB_ok, e_and, e_or, a_nil, a_cons, r_nil, r_cons, oAnd_f, oAnd_t, oAnd_ok, oOr_f, oOr_t, oOr_ok, e_idx, e_cut, part_t, part_f, s_nil, s_cons, oCons_ok, e_lst, e_tup, oL_0, oL_1, oL_2, oL_3, oL_4, oT_2, oT_3, okB_bind, e_call, oCall_ok, e_calld, oCalld_ok, o_calld, e_revl, o_revl, e_bi, e_mt, e_isi, oIsi_1, e_lset, i_ls, i_rng, oFor_t, oFor_f, x_for, step_1, step_2, fin_rt, isNul, eEnv, List.map_cons, List.map_nil, Option.map_some, Option.map_none, er, ers, getS, setS, Bool.and_true, Bool.true_and, Bool.and_false, Bool.false_and, Bool.or_false, Bool.false_or, Bool.or_true, Bool.true_or, Bool.not_true, Bool.not_false, wipeS, hc.get k, Res.bind_ok]
        rfl
    have hkO : kO (.comp (.tup (.cons (.var 4) (.cons (.mt .get (.var 1) (.cons (.var 4) (.cons (.con (.int 0)) .nil))) .nil))) [4] (.ls (.var 3)) .nil [4]) [some (.sh (.list (rs.map dN))), some (.dic (al l)), some (.lst ((marks (fun _ => 0) (rs.take j)).map oMs)), some (.sh (dN r)), s4] (.ok (oMs (mark (bumps (fun _ => 0) (rs.take j)) r))) = .ok (oMs (mark (bumps (fun _ => 0) (rs.take j)) r), [some (.sh (.list (rs.map dN))), some (.dic (al l)), some (.lst ((marks (fun _ => 0) (rs.take j)).map oMs)), some (.sh (dN r)), s4]) := kO_ok _ (clean_oMs _)
    subst hb
    simp -implicitDefEqProofs only [xs_nil, xs_cons, then_nx, then_rt, then_bk, x_asg, oAsg_1, oAsg_t2, oAsg_s2, x_ret, oRet_ok, x_ite, oIte_t, oIte_f, x_pass, x_brk, kO_int, kO_bool, kO_none, kO_str, o_var, o_con, o_bin, o_neg, o_cmp, o_chain, o_not, o_and, o_or, o_idx, o_cut, o_call, o_bi, o_mt, o_isi, o_comp, o_dnew, os_nil, os_cons, oSeq_ok, oPre_ok, o_lst, o_tup, oLst_0, oLst_1, oLst_2, oLst_3, oTup_2, oTup_3, e_var, e_mv, oVar_some, e_con, e_bin, bin_add, bin_sub, bin_xor, e_neg, oNeg_ok, e_cmp, cmp_lt, cmp_le, cmp_gt, cmp_ge, cmp_eqI, cmp_neI, dec_N, cmp_isN_int, cmp_isN_none, cmp_notN_int, cmp_notN_none, e_chain, chain_lelt, e_not, oNot_ok, oB_ok, e_and, e_or, a_nil, a_cons, r_nil, r_cons, oAnd_f, oAnd_t, oAnd_ok, oOr_f, oOr_t, oOr_ok, e_idx, e_cut, part_t, part_f, s_nil, s_cons, oCons_ok, e_lst, e_tup, oL_0, oL_1, oL_2, oL_3, oL_4, oT_2, oT_3, okB_bind, e_call, oCall_ok, e_calld, oCalld_ok, o_calld, e_revl, o_revl, e_bi, e_mt, e_isi, oIsi_1, e_lset, i_ls, i_rng, oFor_t, oFor_f, x_for, step_1, step_2, fin_rt, isNul, eEnv, List.map_cons, List.map_nil, Option.map_some, Option.map_none, er, ers, getS, setS, Bool.and_true, Bool.true_and, Bool.and_false, Bool.false_and, Bool.or_false, Bool.false_or, Bool.or_true, Bool.true_or, Bool.not_true, Bool.not_false, x_app, hlsr, e_comp, ers_Ms, hcomp, hkO, oMu_lst, oMut_app, oAp_lst hap, frz, srcsI, srcs]
    generalize hb2 : stepF (callO tab gt n) gt [4] _ = body2
    obtain ⟨Γ2, e2, l2, s42, hc2, hz2, rfl⟩ := forL_rel (f := body2) (fun (k : Nat) => PyData.int k) (fun i Γ => ∃ (l2 : List (Nat × Nat)) (s4 : Option O), Cnt l2 (tick (bumps (fun _ => 0) (rs.take j)) (r.take i)) ∧ l2.length ≤ l.length + i ∧ Γ = [some (.sh (.list (rs.map dN))), some (.dic (al l2)), some (.lst ((marks (fun _ => 0) (rs.take j)).map oMs ++ [oMs (mark (bumps (fun _ => 0) (rs.take j)) r)])), some (.sh (dN r)), s4]) r 0
      [some (.sh (.list (rs.map dN))), some (.dic (al l)), some (.lst ((marks (fun _ => 0) (rs.take j)).map oMs ++ [oMs (mark (bumps (fun _ => 0) (rs.take j)) r)])), some (.sh (dN r)), s4] ⟨l, s4, hc, Nat.le_refl _, rfl⟩ (by
      rintro i Γ p hi ⟨l2, s4, hc2, hz2, rfl⟩
      rw [Nat.zero_add] at hc2 hz2 ⊢
      have hil := (List.getElem?_eq_some_iff.mp hi).1
      have hz3 : l2.length < sizeLine := small_sz (by omega)
      subst hb2
      simp -implicitDefEqProofs only [xs_nil, xs_cons, then_nx, then_rt, then_bk, x_asg, oAsg_1, oAsg_t2, oAsg_s2, x_ret, oRet_ok, x_ite, oIte_t, oIte_f, x_pass, x_brk, kO_int, kO_bool, kO_none, kO_str, o_var, o_con, o_bin, o_neg, o_cmp, o_chain, o_not, o_and, o_or, o_idx, o_cut, o_call, o_bi, o_mt, o_isi, o_comp, o_dnew, os_nil, os_cons, oSeq_ok, oPre_ok, o_lst, o_tup, oLst_0, oLst_1, oLst_2, oLst_3, oTup_2, oTup_3, e_var, e_mv, oVar_some, e_con, e_bin, bin_add, bin_sub, bin_xor, e_neg, oNeg_ok, e_cmp, cmp_lt, cmp_le, cmp_gt, cmp_ge, cmp_eqI, cmp_neI, dec_N, cmp_isN_int, cmp_isN_none, cmp_notN_int, cmp_notN_none, e_chain, chain_lelt, e_not, oNot_ok, oB_ok, e_and, e_or, a_nil, a_cons, r_nil, r_cons, oAnd_f, oAnd_t, oAnd_ok, oOr_f, oOr_t, oOr_ok, e_idx, e_cut, part_t, part_f, s_nil, s_cons, oCons_ok, e_lst, e_tup, oL_0, oL_1, oL_2, oL_3, oL_4, oT_2, oT_3, okB_bind, e_call, oCall_ok, e_calld, oCalld_ok, o_calld, e_revl, o_revl, e_bi, e_mt, e_isi, oIsi_1, e_lset, i_ls, i_rng, oFor_t, oFor_f, x_for, step_1, step_2, fin_rt, isNul, eEnv, List.map_cons, List.map_nil, Option.map_some, Option.map_none, er, ers, getS, setS, Bool.and_true, Bool.true_and, Bool.and_false, Bool.false_and, Bool.or_false, Bool.false_or, Bool.or_true, Bool.true_or, Bool.not_true, Bool.not_false, x_dput, hc2.get p]
      rw [show (((tick (bumps (fun _ => 0) (rs.take j)) (r.take i) p : Nat) : Int) + 1) = ((tick (bumps (fun _ => 0) (rs.take j)) (r.take i) p + 1 : Nat) : Int) by omega, oDput_ok hz3]
      simp -implicitDefEqProofs only [xs_nil, xs_cons, then_nx, then_rt, then_bk, x_asg, oAsg_1, oAsg_t2, oAsg_s2, x_ret, oRet_ok, x_ite, oIte_t, oIte_f, x_pass, x_brk, kO_int, kO_bool, kO_none, kO_str, o_var, o_con, o_bin, o_neg, o_cmp, o_chain, o_not, o_and, o_or, o_idx, o_cut, o_call, o_bi, o_mt, o_isi, o_comp, o_dnew, os_nil, os_cons, oSeq_ok, oPre_ok, o_lst, o_tup, oLst_0, oLst_1, oLst_2, oLst_3, oTup_2, oTup_3, e_var, e_mv, oVar_some, e_con, e_bin, bin_add, bin_sub, bin_xor, e_neg, oNeg_ok, e_cmp, cmp_lt, cmp_le, cmp_gt, cmp_ge, cmp_eqI, cmp_neI, dec_N, cmp_isN_int, cmp_isN_none, cmp_notN_int, cmp_notN_none, e_chain, chain_lelt, e_not, oNot_ok, oB_ok, e_and, e_or, a_nil, a_cons, r_nil, r_cons, oAnd_f, oAnd_t, oAnd_ok, oOr_f, oOr_t, oOr_ok, e_idx, e_cut, part_t, part_f, s_nil, s_cons, oCons_ok, e_lst, e_tup, oL_0, oL_1, oL_2, oL_3, oL_4, oT_2, oT_3, okB_bind, e_call, oCall_ok, e_calld, oCalld_ok, o_calld, e_revl, o_revl, e_bi, e_mt, e_isi, oIsi_1, e_lset, i_ls, i_rng, oFor_t, oFor_f, x_for, step_1, step_2, fin_rt, isNul, eEnv, List.map_cons, List.map_nil, Option.map_some, Option.map_none, er, ers, getS, setS, Bool.and_true, Bool.true_and, Bool.and_false, Bool.false_and, Bool.or_false, Bool.false_or, Bool.or_true, Bool.true_or, Bool.not_true, Bool.not_false]
      refine ⟨_, rfl, _, some (.sh (.int (p : Nat))), ?_, ?_, rfl⟩
      · rw [List.take_add_one, hi]
        unfold tick
        rw [List.foldl_append]
        exact hc2.put p
      · have := aput_len p (tick (bumps (fun _ => 0) (rs.take j)) (r.take i) p + 1) l2
        omega)
    rw [e2]
    rw [Nat.zero_add, List.take_length, tick_bump _ _ ndr] at hc2
    refine ⟨_, rfl, l2, some (.sh (dN r)), s42, ?_, by omega, ?_⟩
    · rw [List.take_add_one, hj]
      unfold bumps
      rw [List.foldl_append]
      exact hc2
    · rw [List.take_add_one, hj]
      show _ = [_, _, some (O.lst ((marks (fun _ => 0) (rs.take j ++ [r])).map oMs)), _, _]
      rw [marks_snoc, List.map_append]
      rfl)
  rw [e, Nat.zero_add, List.take_length]
  simp -implicitDefEqProofs only [xs_nil, xs_cons, then_nx, then_rt, then_bk, x_asg, oAsg_1, oAsg_t2, oAsg_s2, x_ret, oRet_ok, x_ite, oIte_t, oIte_f, x_pass, x_brk, kO_int, kO_bool, kO_none, kO_str, o_var, o_con, o_bin, o_neg, o_cmp, o_chain, o_not, o_and, o_or, o_idx, o_cut, o_call, o_bi, o_mt, o_isi, o_comp, o_dnew, os_nil, os_cons, oSeq_ok, oPre_ok, o_lst, o_tup, oLst_0, oLst_1, oLst_2, oLst_3, oTup_2, oTup_3, e_var, e_mv, oVar_some, e_con, e_bin, bin_add, bin_sub, bin_xor, e_neg, oNeg_ok, e_cmp, cmp_lt, cmp_le, cmp_gt, cmp_ge, cmp_eqI, cmp_neI, dec_N, cmp_isN_int, cmp_isN_none, cmp_notN_int, cmp_notN_none, e_chain, chain_lelt, e_not, oNot_ok, oB_ok, e_and, e_or, a_nil, a_cons, r_nil, r_cons, oAnd_f, oAnd_t, oAnd_ok, oOr_f, oOr_t, oOr_ok, e_idx, e_cut, part_t, part_f, s_nil, s_cons, oCons_ok, e_lst, e_tup, oL_0, oL_1, oL_2, oL_3, oL_4, oT_2, oT_3, okB_bind, e_call, oCall_ok, e_calld, oCalld_ok, o_calld, e_revl, o_revl, e_bi, e_mt, e_isi, oIsi_1, e_lset, i_ls, i_rng, oFor_t, oFor_f, x_for, step_1, step_2, fin_rt, isNul, eEnv, List.map_cons, List.map_nil, Option.map_some, Option.map_none, er, ers, getS, setS, Bool.and_true, Bool.true_and, Bool.and_false, Bool.false_and, Bool.or_false, Bool.false_or, Bool.or_true, Bool.true_or, Bool.not_true, Bool.not_false, o_sortm, oSm_M]
end
end Rp

set_option Elab.async false
set_option linter.all false
set_option maxRecDepth 100000
set_option maxHeartbeats 4000000
/-! RpSortM: marked rings, sorted: the same, in whatever order they were. -/
namespace Rp
open PySem Rp.T Rg PySem.W

def ltP (p q : Nat × Nat) : Bool := decide (p.1 < q.1 ∨ (p.1 = q.1 ∧ p.2 < q.2))
def ltM : List (Nat × Nat) → List (Nat × Nat) → Bool
  | _, [] => false
  | [], _ :: _ => true
  | p :: l, q :: m => if p = q then ltM l m else ltP p q
theorem dataLt_M (p q : Nat × Nat) : dataLt (dM p) (dM q) = ltP p q := by
  unfold dM ltP
  rw [dataLt_ii]
  congr 1
  apply propext
  omega
theorem eqv_M (p q : Nat × Nat) : PyData.eqv (dM p) (dM q) = decide (p = q) := by
  obtain ⟨a, b⟩ := p
  obtain ⟨c, d⟩ := q
  simp only [dM, PyData.eqv, PyData.eqvAll, eqv_int, Bool.and_true]
  by_cases h1 : a = c <;> by_cases h2 : b = d
  · subst h1; subst h2; simp
  · subst h1
    have : ¬ ((b : Int) = (d : Int)) := by omega
    simp [this, h2]
  · have : ¬ ((a : Int) = (c : Int)) := by omega
    simp [this, h1]
  · have : ¬ ((a : Int) = (c : Int)) := by omega
    simp [this, h1]
theorem rowLt_M : ∀ l m : List (Nat × Nat), rowLt (l.map dM) (m.map dM) = ltM l m
  | [], [] => by
    simp only [List.map_nil, ltM]
    exact PyProof.Rows.lex_irrefl _
  | p :: l, [] => by
    simp only [List.map_nil, List.map_cons, ltM]
    unfold rowLt
    rw [toks_all_cons]
    simp only [keyToksAll]
    rw [PyProof.Rows.lex_diff (O := PyProof.Rows.itemOrd) (by simp)]
    rfl
  | [], q :: m => by
    simp only [List.map_nil, List.map_cons, ltM]
    unfold rowLt
    rw [toks_all_cons]
    simp only [keyToksAll]
    rw [PyProof.Rows.lex_diff (O := PyProof.Rows.itemOrd) (by simp)]
    rfl
  | p :: l, q :: m => by
    have e : rowLt (dM p :: l.map dM) (dM q :: m.map dM) = if p = q then rowLt (l.map dM) (m.map dM) else ltP p q := by
      unfold rowLt
      rw [dataLt_cons (alike_M p q), dataLt_M, eqv_M]
      simp only [decide_eq_true_eq]
    rw [List.map_cons, List.map_cons, e, rowLt_M l m]
    simp only [ltM]
theorem leM_eq (a b : List (Nat × Nat)) : leM a b = !ltM b a := by
  unfold leM
  rw [dataLe_eq]
  simp only [cond_false, id]
  rw [dMs, dMs, dataLt_list]
  show (!rowLt (b.map dM) (a.map dM)) = _
  rw [rowLt_M]
theorem ltP_tri (p q : Nat × Nat) (h : p ≠ q) : ltP p q = !ltP q p := by
  obtain ⟨a, b⟩ := p
  obtain ⟨c, d⟩ := q
  have hne : ¬ (a = c ∧ b = d) := fun z => h (by rw [z.1, z.2])
  unfold ltP
  by_cases h1 : a < c ∨ (a = c ∧ b < d)
  · have h2 : ¬ (c < a ∨ (c = a ∧ d < b)) := by omega
    simp only [h1, h2, decide_true, decide_false, Bool.not_false]
  · have h2 : c < a ∨ (c = a ∧ d < b) := by omega
    simp only [h1, h2, decide_true, decide_false, Bool.not_true]
theorem leM_total : ∀ a b : List (Nat × Nat), (leM a b || leM b a) = true
  | [], b => by simp [leM_eq, ltM]
  | a :: l, [] => by simp [leM_eq, ltM]
  | p :: l, q :: m => by
    have ih := leM_total l m
    simp only [leM_eq] at ih ⊢
    simp only [ltM]
    by_cases h : p = q
    · subst h; simpa using ih
    · rw [if_neg h, if_neg (Ne.symm h), ltP_tri p q h]
      simp
theorem leM_anti : ∀ a b : List (Nat × Nat), leM a b = true → leM b a = true → a = b
  | [], [], _, _ => rfl
  | [], b :: m, h1, h2 => by simp [leM_eq, ltM] at h2
  | a :: l, [], h1, h2 => by simp [leM_eq, ltM] at h1
  | p :: l, q :: m, h1, h2 => by
    simp only [leM_eq, ltM] at h1 h2
    by_cases h : p = q
    · subst h
      rw [if_pos rfl] at h1 h2
      rw [leM_anti l m (by rw [leM_eq]; exact h1) (by rw [leM_eq]; exact h2)]
    · rw [if_neg (Ne.symm h)] at h1
      rw [if_neg h, ltP_tri p q h] at h2
      rw [Bool.not_not] at h2
      rw [h2] at h1
      cases h1
theorem leM_trans : ∀ a b c : List (Nat × Nat), leM a b = true → leM b c = true → leM a c = true
  | [], b, c, _, _ => by cases c <;> simp [leM_eq, ltM]
  | p :: l, [], c, h, _ => by simp [leM_eq, ltM] at h
  | p :: l, q :: m, [], _, h => by simp [leM_eq, ltM] at h
  | p :: l, q :: m, r :: k, h1, h2 => by
    have ih := leM_trans l m k
    simp only [leM_eq] at ih h1 h2 ⊢
    simp only [ltM] at h1 h2 ⊢
    by_cases e1 : q = p
    · subst e1
      rw [if_pos rfl] at h1
      by_cases e2 : r = q
      · rw [if_pos e2] at h2 ⊢
        exact ih h1 h2
      · rw [if_neg e2] at h2 ⊢
        exact h2
    · rw [if_neg e1] at h1
      by_cases e2 : r = q
      · subst e2
        rw [if_neg e1]
        exact h1
      · rw [if_neg e2] at h2
        have h3 : ltP r p = false := by
          unfold ltP at h1 h2 ⊢
          simp only [Bool.not_eq_true', decide_eq_false_iff_not] at h1 h2 ⊢
          omega
        have e3 : r ≠ p := fun z => by
          subst z
          have t := ltP_tri q r e1
          simp only [Bool.not_eq_true'] at h1 h2
          rw [h1, h2] at t
          cases t
        rw [if_neg e3, h3]
        rfl
theorem sorted_eq : ∀ (l m : List (List (Nat × Nat))), l.Pairwise (fun a b => leM a b = true) → m.Pairwise (fun a b => leM a b = true) → l.Perm m → l = m
  | [], m, _, _, h => (List.Perm.eq_nil h.symm).symm
  | a :: l, [], _, _, h => absurd h.length_eq (by simp)
  | a :: l, b :: m, h1, h2, h => by
    obtain ⟨h1a, h1t⟩ := List.pairwise_cons.mp h1
    obtain ⟨h2a, h2t⟩ := List.pairwise_cons.mp h2
    have refl : ∀ x, leM x x = true := fun x => by have := leM_total x x; simpa using this
    have e : a = b := by
      have ha : a ∈ b :: m := h.mem_iff.mp (by simp)
      have hb : b ∈ a :: l := h.mem_iff.mpr (by simp)
      refine leM_anti a b ?_ ?_
      · rcases List.mem_cons.mp hb with z | z
        · rw [z]; exact refl a
        · exact h1a b z
      · rcases List.mem_cons.mp ha with z | z
        · rw [z]; exact refl b
        · exact h2a a z
    subst e
    rw [sorted_eq l m h1t h2t h.cons_inv]
theorem sortM_perm {l m : List (List (Nat × Nat))} (h : l.Perm m) : sortM l = sortM m := by
  refine sorted_eq _ _ (List.pairwise_mergeSort leM_trans leM_total l) (List.pairwise_mergeSort leM_trans leM_total m) ?_
  exact (List.mergeSort_perm l _).trans (h.trans (List.mergeSort_perm m _).symm)
theorem small_two {a b : Int} (ha : 0 ≤ a) (ha' : a < 2 ^ 30) (hb : 0 ≤ b) (hb' : b < 2 ^ 30) : Builtin.Range.small a b 2 = true := by
  unfold Builtin.Range.small Builtin.Range.rangeSize
  simp only [Builtin.Range.rangeFitsLong, Bool.and_eq_true, Bool.or_eq_true, decide_eq_true_eq, beq_iff_eq, show (2 : Int) > 0 by decide, if_true]
  split <;> omega
end Rp

set_option Elab.async false
set_option linter.all false
set_option maxRecDepth 100000
set_option maxHeartbeats 4000000
/-! RpDraw: piles and orders by the script's own numbers. -/
namespace Rp
open PySem Rp.T Rg

def dI (l : List Int) : D := .list (l.map PyData.int)
def oI (l : List Int) : O := .lst (l.map fun c => O.sh (.int c))
theorem er_oI (l : List Int) : er (oI l) = dI l := by
  simp -implicitDefEqProofs only [oI, dI, er, ers_map, List.map_map]
  rfl
theorem clean_oI (l : List Int) : clean (oI l) = true := by
  simp -implicitDefEqProofs only [oI, clean]
  induction l with
  | nil => rfl
  | cons k l ih => simp [cleans, clean, flat, ih]
theorem oI_shl (l : List Int) : shl (l.map PyData.int) = oI l := by simp -implicitDefEqProofs only [shl, oI, List.map_map]; rfl
theorem xorB {b : Nat} {x y : Int} (hx : 0 ≤ x ∧ x < 2 ^ b) (hy : 0 ≤ y ∧ y < 2 ^ b) : 0 ≤ Builtin.bitXor x y ∧ Builtin.bitXor x y < 2 ^ b := by
  rw [Bits.bitXor_pp hx.1 hy.1]
  have e : ((2 : Int) ^ b) = ((2 ^ b : Nat) : Int) := by simp
  rw [e] at hx hy ⊢
  have h1 : x.toNat < 2 ^ b := by have := hx.2; have := hx.1; omega
  have h2 : y.toNat < 2 ^ b := by have := hy.2; have := hy.1; omega
  have := Nat.xor_lt_two_pow h1 h2
  exact ⟨Int.natCast_nonneg _, by exact_mod_cast this⟩
section
variable {tab : Tab} {gt : Nat → Option D} {Γ : En} {γ : Env0} {Φ : Nat → List O → Res O}
theorem kO_oI (e : Ex) (l : List Int) : kO e Γ (.ok (oI l)) = .ok (oI l, Γ) := kO_ok e (clean_oI l)
theorem oMv_I (i : Nat) (l : List Int) : oMv i (some (oI l)) Γ = .ok (oI l, setS Γ i none) := rfl
theorem next_okB (h : tab 6 = some f6) (n : Nat) {x : Int} (hx : 0 ≤ x ∧ x < 2 ^ 100) : callF tab gt (n + 1) 6 [.int x] = .ok (.sh (.int (nextI x))) := by
  rw [callF_go h _ _ rfl]
  have hd0 : 0 ≤ x / 536870912 ∧ x / 536870912 < 2 ^ 100 := ⟨Int.ediv_nonneg hx.1 (by decide), Int.lt_of_le_of_lt (Int.ediv_le_self _ hx.1) hx.2⟩
  have hb := xorB hx hd0
  have hm : mulOk (Builtin.bitXor x (x / 536870912)) 7046029254386353131 = true := mulOk_of 100 64 (by omega) (by decide) (by decide) (by decide) (by decide)
  have p1 : oBin .pow (.ok (.sh (.int 2))) (.ok (.sh (.int 29))) = .ok (.sh (.int 536870912)) := by rw [bin_pow (by decide)]; rfl
  have p2 : oBin .pow (.ok (.sh (.int 2))) (.ok (.sh (.int 64))) = .ok (.sh (.int 18446744073709551616)) := by rw [bin_pow (by decide)]; rfl
  have hd : divOk x 536870912 = true := divOk_of 64 (by decide) (by decide) (by decide) (by decide)
  simp -implicitDefEqProofs only [f6, start, List.length_cons, List.length_nil, List.replicate, Nat.sub_self, Nat.reduceAdd, Nat.reduceSub, List.cons_append, List.nil_append, xs_nil, xs_cons, then_nx, then_rt, then_bk, x_asg, oAsg_1, oAsg_t2, oAsg_s2, x_ret, oRet_ok, x_ite, oIte_t, oIte_f, x_pass, x_brk, kO_int, kO_bool, kO_none, kO_str, o_var, o_con, o_bin, o_neg, o_cmp, o_chain, o_not, o_and, o_or, o_idx, o_cut, o_call, o_bi, o_mt, o_isi, o_comp, o_dnew, os_nil, os_cons, oSeq_ok, oPre_ok, o_lst, o_tup, oLst_0, oLst_1, oLst_2, oLst_3, oTup_2, oTup_3, e_var, e_mv, oVar_some, e_con, e_bin, bin_add, bin_sub, bin_xor, e_neg, oNeg_ok, e_cmp, cmp_lt, cmp_le, cmp_gt, cmp_ge, cmp_eqI, cmp_neI, dec_N, cmp_isN_int, cmp_isN_none, cmp_notN_int, cmp_notN_none, e_chain, chain_lelt, e_not, oNot_ok, oB_ok, e_and, e_or, a_nil, a_cons, r_nil, r_cons, oAnd_f, oAnd_t, oAnd_ok, oOr_f, oOr_t, oOr_ok, e_idx, e_cut, part_t, part_f, s_nil, s_cons, oCons_ok, e_lst, e_tup, oL_0, oL_1, oL_2, oL_3, oL_4, oT_2, oT_3, okB_bind, e_call, oCall_ok, e_calld, oCalld_ok, o_calld, e_revl, o_revl, e_bi, e_mt, e_isi, oIsi_1, e_lset, i_ls, i_rng, oFor_t, oFor_f, x_for, step_1, step_2, fin_rt, isNul, eEnv, List.map_cons, List.map_nil, Option.map_some, Option.map_none, er, ers, getS, setS, Bool.and_true, Bool.true_and, Bool.and_false, Bool.false_and, Bool.or_false, Bool.false_or, Bool.or_true, Bool.true_or, Bool.not_true, Bool.not_false, p1, p2, bin_fdiv hd, bin_mul hm, bin_mod (show (0 : Int) < 18446744073709551616 by decide)]
  rfl
theorem bf_abs (i : Int) : oBi .abs (.ok [.sh (.int i)]) = .ok (.sh (.int (if i < 0 then -i else i))) := bf_ok rfl
theorem idx2 (a b c : Int) : oIdx (.ok (.lst [.sh (.int a), .sh (.int b)])) (.ok (.sh (.int (c % 2)))) = .ok (.sh (.int (if c % 2 = 0 then a else b))) := by
  have h1 := Int.emod_nonneg c (show (2 : Int) ≠ 0 by decide)
  have h2 := Int.emod_lt_of_pos c (show (0 : Int) < 2 by decide)
  rcases (show c % 2 = 0 ∨ c % 2 = 1 by omega) with h | h
  · rw [h]; exact idx_ok rfl
  · rw [h]; exact idx_ok rfl
theorem idx_I {l : List Int} {j : Nat} {c : Int} (h : l[j]? = some c) : oIdx (.ok (.sh (.list (l.map PyData.int)))) (.ok (.sh (.int (j : Int)))) = .ok (.sh (.int c)) := idx_ok (dix_I h)
theorem idx_dI {l : List Int} {j : Nat} {c : Int} (h : l[j]? = some c) : oIdx (.ok (.sh (dI l))) (.ok (.sh (.int (j : Int)))) = .ok (.sh (.int c)) := idx_ok (dix_I h)
theorem small2 {a : Int} (ha : 0 ≤ a ∧ a < 18446744073709551616) (c : Int) : 0 ≤ a + c % 2305843009213693952 ∧ a + c % 2305843009213693952 < 2 ^ 100 := by
  have h3 := Int.emod_nonneg c (show (2305843009213693952 : Int) ≠ 0 by decide)
  have h4 := Int.emod_lt_of_pos c (show (0 : Int) < 2305843009213693952 by decide)
  omega
theorem numbers_ok (h : tab 72 = some f72) (h5 : tab 5 = some f5) (h6 : tab 6 = some f6) (n : Nat) {x : Int} (hx : I64 x) {cs : List Int} (hl : cs.length ≤ 63) : ∃ vs : List Int, vs.length = cs.length ∧ (∀ v ∈ vs, 0 ≤ v) ∧ callF tab gt (n + 2) 72 [.list (cs.map PyData.int), .int x] = .ok (oI vs) := by
  rw [callF_go h _ _ rfl]
  have p1 : oBin .pow (.ok (.sh (.int 2))) (.ok (.sh (.int 61))) = .ok (.sh (.int 2305843009213693952)) := by rw [bin_pow (by decide)]; rfl
  have p2 : oBin .pow (.ok (.sh (.int 2))) (.ok (.sh (.int 40))) = .ok (.sh (.int 1099511627776)) := by rw [bin_pow (by decide)]; rfl
  simp -implicitDefEqProofs only [f72, start, List.length_cons, List.length_nil, List.replicate, Nat.sub_self, Nat.reduceAdd, Nat.reduceSub, List.cons_append, List.nil_append, xs_nil, xs_cons, then_nx, then_rt, then_bk, x_asg, oAsg_1, oAsg_t2, oAsg_s2, x_ret, oRet_ok, x_ite, oIte_t, oIte_f, x_pass, x_brk, kO_int, kO_bool, kO_none, kO_str, o_var, o_con, o_bin, o_neg, o_cmp, o_chain, o_not, o_and, o_or, o_idx, o_cut, o_call, o_bi, o_mt, o_isi, o_comp, o_dnew, os_nil, os_cons, oSeq_ok, oPre_ok, o_lst, o_tup, oLst_0, oLst_1, oLst_2, oLst_3, oTup_2, oTup_3, e_var, e_mv, oVar_some, e_con, e_bin, bin_add, bin_sub, bin_xor, e_neg, oNeg_ok, e_cmp, cmp_lt, cmp_le, cmp_gt, cmp_ge, cmp_eqI, cmp_neI, dec_N, cmp_isN_int, cmp_isN_none, cmp_notN_int, cmp_notN_none, e_chain, chain_lelt, e_not, oNot_ok, oB_ok, e_and, e_or, a_nil, a_cons, r_nil, r_cons, oAnd_f, oAnd_t, oAnd_ok, oOr_f, oOr_t, oOr_ok, e_idx, e_cut, part_t, part_f, s_nil, s_cons, oCons_ok, e_lst, e_tup, oL_0, oL_1, oL_2, oL_3, oL_4, oT_2, oT_3, okB_bind, e_call, oCall_ok, e_calld, oCalld_ok, o_calld, e_revl, o_revl, e_bi, e_mt, e_isi, oIsi_1, e_lset, i_ls, i_rng, oFor_t, oFor_f, x_for, step_1, step_2, fin_rt, isNul, eEnv, List.map_cons, List.map_nil, Option.map_some, Option.map_none, er, ers, getS, setS, Bool.and_true, Bool.true_and, Bool.and_false, Bool.false_and, Bool.or_false, Bool.false_or, Bool.or_true, Bool.true_or, Bool.not_true, Bool.not_false, fold_ok h5 n hx, len_I, rng_n (show cs.length ≤ 1000000 by omega)]
  generalize hb : stepF (callO tab gt (n + 1)) gt [4] _ = body
  obtain ⟨Γ', e, y, vs, s4, hy, hlen, hpos, rfl⟩ := forL_rel (f := body) (fun (k : Nat) => PyData.int k) (fun i Γ => ∃ (y : Int) (vs : List Int) (s4 : Option O), I64 y ∧ vs.length = i ∧ (∀ v ∈ vs, 0 ≤ v) ∧ Γ = [some (.sh (.list (cs.map PyData.int))), some (.sh (.int x)), some (.sh (.int y)), some (oI vs), s4]) (List.range cs.length) 0 [some (.sh (.list (cs.map PyData.int))), some (.sh (.int x)), some (.sh (.int (foldI cs x))), some (.lst []), none] ⟨foldI cs x, [], none, foldI64 cs hx, rfl, fun _ h => (by cases h), rfl⟩ (by
    rintro j Γ k hj ⟨y, vs, s4, hy, hlen, hpos, rfl⟩
    obtain ⟨rfl, hjn⟩ := range_at hj
    rw [Nat.zero_add] at hlen ⊢
    obtain ⟨c, hc⟩ : ∃ c, cs[k]? = some c := ⟨_, List.getElem?_eq_getElem hjn⟩
    obtain ⟨c0, hc0⟩ : ∃ c, cs[0]? = some c := ⟨_, List.getElem?_eq_getElem (show 0 < cs.length by omega)⟩
    have hi0 : oIdx (.ok (.sh (.list (cs.map PyData.int)))) (.ok (.sh (.int 0))) = .ok (.sh (.int c0)) := idx_I hc0
    have hkk : mulOk (k : Int) (k : Int) = true := mulOk_of 10 10 (by omega) (by omega) (by decide) (by decide) (by decide)
    have hn2 : 0 ≤ nextI (y + c % 2305843009213693952) + (k : Int) * (k : Int) ∧ nextI (y + c % 2305843009213693952) + (k : Int) * (k : Int) < 2 ^ 100 := by
      have h1 := next64 (y + c % 2305843009213693952)
      have h2 : (k : Int) * (k : Int) ≤ 63 * 63 := Int.mul_le_mul (by omega) (by omega) (by omega) (by omega)
      have h3 : 0 ≤ (k : Int) * (k : Int) := Int.mul_nonneg (by omega) (by omega)
      have := h1.1; have := h1.2
      omega
    have hz : (vs.map fun c => O.sh (.int c)).length < sizeLine := by rw [List.length_map]; exact small_sz (by omega)
    have hd : ∀ z : Int, divOk z 1099511627776 = true := fun z => divOk_of 64 (by decide) (by decide) (by decide) (by decide)
    subst hb
    simp -implicitDefEqProofs only [xs_nil, xs_cons, then_nx, then_rt, then_bk, x_asg, oAsg_1, oAsg_t2, oAsg_s2, x_ret, oRet_ok, x_ite, oIte_t, oIte_f, x_pass, x_brk, kO_int, kO_bool, kO_none, kO_str, o_var, o_con, o_bin, o_neg, o_cmp, o_chain, o_not, o_and, o_or, o_idx, o_cut, o_call, o_bi, o_mt, o_isi, o_comp, o_dnew, os_nil, os_cons, oSeq_ok, oPre_ok, o_lst, o_tup, oLst_0, oLst_1, oLst_2, oLst_3, oTup_2, oTup_3, e_var, e_mv, oVar_some, e_con, e_bin, bin_add, bin_sub, bin_xor, e_neg, oNeg_ok, e_cmp, cmp_lt, cmp_le, cmp_gt, cmp_ge, cmp_eqI, cmp_neI, dec_N, cmp_isN_int, cmp_isN_none, cmp_notN_int, cmp_notN_none, e_chain, chain_lelt, e_not, oNot_ok, oB_ok, e_and, e_or, a_nil, a_cons, r_nil, r_cons, oAnd_f, oAnd_t, oAnd_ok, oOr_f, oOr_t, oOr_ok, e_idx, e_cut, part_t, part_f, s_nil, s_cons, oCons_ok, e_lst, e_tup, oL_0, oL_1, oL_2, oL_3, oL_4, oT_2, oT_3, okB_bind, e_call, oCall_ok, e_calld, oCalld_ok, o_calld, e_revl, o_revl, e_bi, e_mt, e_isi, oIsi_1, e_lset, i_ls, i_rng, oFor_t, oFor_f, x_for, step_1, step_2, fin_rt, isNul, eEnv, List.map_cons, List.map_nil, Option.map_some, Option.map_none, er, ers, getS, setS, Bool.and_true, Bool.true_and, Bool.and_false, Bool.false_and, Bool.or_false, Bool.false_or, Bool.or_true, Bool.true_or, Bool.not_true, Bool.not_false, oI, p1, p2, idx_I hc, hi0, bin_mod (show (0 : Int) < 2305843009213693952 by decide), next_okB h6 n (small2 hy c), bin_mul hkk, next_okB h6 n hn2, x_app, oMu_lst, bin_fdiv (hd _), bin_mod (show (0 : Int) < 4096 by decide), bin_mod (show (0 : Int) < 2 by decide), bf_abs, idx2, oMut_app, oAp_lst hz]
    refine ⟨_, rfl, nextI (nextI (y + c % 2305843009213693952) + (k : Int) * (k : Int)), vs ++ [if c0 % 2 = 0 then nextI (nextI (y + c % 2305843009213693952) + (k : Int) * (k : Int)) / 1099511627776 % 4096 else if c < 0 then -c else c], some (.sh (.int (k : Int))), next64 _, by simp [hlen], fun v hv => ?_, by simp [oI]⟩
    rcases List.mem_append.mp hv with z | z
    · exact hpos v z
    · rw [List.mem_singleton.mp z]
      split
      · exact Int.emod_nonneg _ (by decide)
      · split <;> omega)
  rw [e]
  refine ⟨vs, by simpa using hlen, hpos, ?_⟩
  simp -implicitDefEqProofs only [xs_nil, xs_cons, then_nx, then_rt, then_bk, x_asg, oAsg_1, oAsg_t2, oAsg_s2, x_ret, oRet_ok, x_ite, oIte_t, oIte_f, x_pass, x_brk, kO_int, kO_bool, kO_none, kO_str, o_var, o_con, o_bin, o_neg, o_cmp, o_chain, o_not, o_and, o_or, o_idx, o_cut, o_call, o_bi, o_mt, o_isi, o_comp, o_dnew, os_nil, os_cons, oSeq_ok, oPre_ok, o_lst, o_tup, oLst_0, oLst_1, oLst_2, oLst_3, oTup_2, oTup_3, e_var, e_mv, oVar_some, e_con, e_bin, bin_add, bin_sub, bin_xor, e_neg, oNeg_ok, e_cmp, cmp_lt, cmp_le, cmp_gt, cmp_ge, cmp_eqI, cmp_neI, dec_N, cmp_isN_int, cmp_isN_none, cmp_notN_int, cmp_notN_none, e_chain, chain_lelt, e_not, oNot_ok, oB_ok, e_and, e_or, a_nil, a_cons, r_nil, r_cons, oAnd_f, oAnd_t, oAnd_ok, oOr_f, oOr_t, oOr_ok, e_idx, e_cut, part_t, part_f, s_nil, s_cons, oCons_ok, e_lst, e_tup, oL_0, oL_1, oL_2, oL_3, oL_4, oT_2, oT_3, okB_bind, e_call, oCall_ok, e_calld, oCalld_ok, o_calld, e_revl, o_revl, e_bi, e_mt, e_isi, oIsi_1, e_lset, i_ls, i_rng, oFor_t, oFor_f, x_for, step_1, step_2, fin_rt, isNul, eEnv, List.map_cons, List.map_nil, Option.map_some, Option.map_none, er, ers, getS, setS, Bool.and_true, Bool.true_and, Bool.and_false, Bool.false_and, Bool.or_false, Bool.false_or, Bool.or_true, Bool.true_or, Bool.not_true, Bool.not_false, o_mvG, oMv_I]
/-- a number's digits -/
theorem digits_ok (h : tab 73 = some f73) (n : Nat) {v b : Int} (hv : 0 ≤ v) (hb0 : 0 < b) (hb : b < 65536) : ∃ ds : List Int, ds.length ≤ 12 ∧ (∀ d ∈ ds, 0 ≤ d) ∧ callF tab gt (n + 1) 73 [.int v, .int b, .int 12] = .ok (oI ds) := by
  rw [callF_go h _ _ rfl]
  have hd : ∀ z : Int, divOk z b = true := fun z => divOk_of 64 hb0 (by omega) (by decide) (by decide)
  simp -implicitDefEqProofs only [f73, start, List.length_cons, List.length_nil, List.replicate, Nat.sub_self, Nat.reduceAdd, Nat.reduceSub, List.cons_append, List.nil_append, xs_nil, xs_cons, then_nx, then_rt, then_bk, x_asg, oAsg_1, oAsg_t2, oAsg_s2, x_ret, oRet_ok, x_ite, oIte_t, oIte_f, x_pass, x_brk, kO_int, kO_bool, kO_none, kO_str, o_var, o_con, o_bin, o_neg, o_cmp, o_chain, o_not, o_and, o_or, o_idx, o_cut, o_call, o_bi, o_mt, o_isi, o_comp, o_dnew, os_nil, os_cons, oSeq_ok, oPre_ok, o_lst, o_tup, oLst_0, oLst_1, oLst_2, oLst_3, oTup_2, oTup_3, e_var, e_mv, oVar_some, e_con, e_bin, bin_add, bin_sub, bin_xor, e_neg, oNeg_ok, e_cmp, cmp_lt, cmp_le, cmp_gt, cmp_ge, cmp_eqI, cmp_neI, dec_N, cmp_isN_int, cmp_isN_none, cmp_notN_int, cmp_notN_none, e_chain, chain_lelt, e_not, oNot_ok, oB_ok, e_and, e_or, a_nil, a_cons, r_nil, r_cons, oAnd_f, oAnd_t, oAnd_ok, oOr_f, oOr_t, oOr_ok, e_idx, e_cut, part_t, part_f, s_nil, s_cons, oCons_ok, e_lst, e_tup, oL_0, oL_1, oL_2, oL_3, oL_4, oT_2, oT_3, okB_bind, e_call, oCall_ok, e_calld, oCalld_ok, o_calld, e_revl, o_revl, e_bi, e_mt, e_isi, oIsi_1, e_lset, i_ls, i_rng, oFor_t, oFor_f, x_for, step_1, step_2, fin_rt, isNul, eEnv, List.map_cons, List.map_nil, Option.map_some, Option.map_none, er, ers, getS, setS, Bool.and_true, Bool.true_and, Bool.and_false, Bool.false_and, Bool.or_false, Bool.false_or, Bool.or_true, Bool.true_or, Bool.not_true, Bool.not_false, bin_mod hb0, bin_fdiv (hd _)]
  rw [x_whlS]
  generalize hcd : condF (callO tab gt n) gt _ = cnd
  generalize hbd : bodyF (callO tab gt n) gt _ = body
  obtain ⟨Γ', e, v', ds, hpos, hlen, rfl⟩ := whl_rel (c := cnd) (f := body)
    (fun m Γ => ∃ (v : Int) (ds : List Int), 0 ≤ v ∧ (∀ d ∈ ds, 0 ≤ d) ∧ ds.length + m = 12 ∧ Γ = [some (.sh (.int v)), some (.sh (.int b)), some (.sh (.int 12)), some (oI ds)])
    (fun Γ => ∃ (v : Int) (ds : List Int), (∀ d ∈ ds, 0 ≤ d) ∧ ds.length ≤ 12 ∧ Γ = [some (.sh (.int v)), some (.sh (.int b)), some (.sh (.int 12)), some (oI ds)]) (by
    rintro m Γ ⟨v, ds, hv, hpos, hlen, rfl⟩
    have hL : oBi .len (.ok [.sh (dI ds)]) = .ok (.sh (.int (ds.length : Nat))) := len_I ds
    have hcnd : cnd [some (.sh (.int v)), some (.sh (.int b)), some (.sh (.int 12)), some (oI ds)] = .ok (decide (1 < v) && decide ((ds.length : Int) < 12)) := by
      subst hcd
      simp -implicitDefEqProofs only [condF, xs_nil, xs_cons, then_nx, then_rt, then_bk, x_asg, oAsg_1, oAsg_t2, oAsg_s2, x_ret, oRet_ok, x_ite, oIte_t, oIte_f, x_pass, x_brk, kO_int, kO_bool, kO_none, kO_str, o_var, o_con, o_bin, o_neg, o_cmp, o_chain, o_not, o_and, o_or, o_idx, o_cut, o_call, o_bi, o_mt, o_isi, o_comp, o_dnew, os_nil, os_cons, oSeq_ok, oPre_ok, o_lst, o_tup, oLst_0, oLst_1, oLst_2, oLst_3, oTup_2, oTup_3, e_var, e_mv, oVar_some, e_con, e_bin, bin_add, bin_sub, bin_xor, e_neg, oNeg_ok, e_cmp, cmp_lt, cmp_le, cmp_gt, cmp_ge, cmp_eqI, cmp_neI, dec_N, cmp_isN_int, cmp_isN_none, cmp_notN_int, cmp_notN_none, e_chain, chain_lelt, e_not, oNot_ok, oB_ok, e_and, e_or, a_nil, a_cons, r_nil, r_cons, oAnd_f, oAnd_t, oAnd_ok, oOr_f, oOr_t, oOr_ok, e_idx, e_cut, part_t, part_f, s_nil, s_cons, oCons_ok, e_lst, e_tup, oL_0, oL_1, oL_2, oL_3, oL_4, oT_2, oT_3, okB_bind, e_call, oCall_ok, e_calld, oCalld_ok, o_calld, e_revl, o_revl, e_bi, e_mt, e_isi, oIsi_1, e_lset, i_ls, i_rng, oFor_t, oFor_f, x_for, step_1, step_2, fin_rt, isNul, eEnv, List.map_cons, List.map_nil, Option.map_some, Option.map_none, er, ers, getS, setS, Bool.and_true, Bool.true_and, Bool.and_false, Bool.false_and, Bool.or_false, Bool.false_or, Bool.or_true, Bool.true_or, Bool.not_true, Bool.not_false, er_oI, hL, oAnd_ok]
    by_cases hq : (decide (1 < v) && decide ((ds.length : Int) < 12)) = true
    · refine .inr ⟨hcnd.trans (by rw [hq]), ?_⟩
      have hz : (ds.map fun c => O.sh (.int c)).length < sizeLine := by rw [List.length_map]; exact small_sz (by omega)
      simp -implicitDefEqProofs only [Bool.and_eq_true, decide_eq_true_eq] at hq
      subst hbd
      unfold bodyF
      simp -implicitDefEqProofs only [xs_nil, xs_cons, then_nx, then_rt, then_bk, x_asg, oAsg_1, oAsg_t2, oAsg_s2, x_ret, oRet_ok, x_ite, oIte_t, oIte_f, x_pass, x_brk, kO_int, kO_bool, kO_none, kO_str, o_var, o_con, o_bin, o_neg, o_cmp, o_chain, o_not, o_and, o_or, o_idx, o_cut, o_call, o_bi, o_mt, o_isi, o_comp, o_dnew, os_nil, os_cons, oSeq_ok, oPre_ok, o_lst, o_tup, oLst_0, oLst_1, oLst_2, oLst_3, oTup_2, oTup_3, e_var, e_mv, oVar_some, e_con, e_bin, bin_add, bin_sub, bin_xor, e_neg, oNeg_ok, e_cmp, cmp_lt, cmp_le, cmp_gt, cmp_ge, cmp_eqI, cmp_neI, dec_N, cmp_isN_int, cmp_isN_none, cmp_notN_int, cmp_notN_none, e_chain, chain_lelt, e_not, oNot_ok, oB_ok, e_and, e_or, a_nil, a_cons, r_nil, r_cons, oAnd_f, oAnd_t, oAnd_ok, oOr_f, oOr_t, oOr_ok, e_idx, e_cut, part_t, part_f, s_nil, s_cons, oCons_ok, e_lst, e_tup, oL_0, oL_1, oL_2, oL_3, oL_4, oT_2, oT_3, okB_bind, e_call, oCall_ok, e_calld, oCalld_ok, o_calld, e_revl, o_revl, e_bi, e_mt, e_isi, oIsi_1, e_lset, i_ls, i_rng, oFor_t, oFor_f, x_for, step_1, step_2, fin_rt, isNul, eEnv, List.map_cons, List.map_nil, Option.map_some, Option.map_none, er, ers, getS, setS, Bool.and_true, Bool.true_and, Bool.and_false, Bool.false_and, Bool.or_false, Bool.false_or, Bool.or_true, Bool.true_or, Bool.not_true, Bool.not_false, oI, x_app, oMu_lst, bin_mod hb0, bin_fdiv (hd _), oMut_app, oAp_lst hz]
      refine ⟨_, m - 1, rfl, by omega, v / b, ds ++ [v % b], Int.ediv_nonneg hv (Int.le_of_lt hb0), fun d hd => ?_, by simp; omega, by simp [oI]⟩
      rcases List.mem_append.mp hd with z | z
      · exact hpos d z
      · rw [List.mem_singleton.mp z]; exact Int.emod_nonneg _ (by omega)
    · exact .inl ⟨hcnd.trans (by simp -implicitDefEqProofs only [Bool.not_eq_true] at hq; rw [hq]), v, ds, hpos, by omega, rfl⟩) fuelW 11 [some (.sh (.int (v / b))), some (.sh (.int b)), some (.sh (.int 12)), some (.lst [.sh (.int (v % b))])] ⟨v / b, [v % b], Int.ediv_nonneg hv (Int.le_of_lt hb0), fun d hd => by rw [List.mem_singleton.mp hd]; exact Int.emod_nonneg _ (by omega), rfl, rfl⟩ (by rw [fuelW_eq]; omega)
  rw [e]
  refine ⟨ds, hlen, hpos, ?_⟩
  simp -implicitDefEqProofs only [xs_nil, xs_cons, then_nx, then_rt, then_bk, x_asg, oAsg_1, oAsg_t2, oAsg_s2, x_ret, oRet_ok, x_ite, oIte_t, oIte_f, x_pass, x_brk, kO_int, kO_bool, kO_none, kO_str, o_var, o_con, o_bin, o_neg, o_cmp, o_chain, o_not, o_and, o_or, o_idx, o_cut, o_call, o_bi, o_mt, o_isi, o_comp, o_dnew, os_nil, os_cons, oSeq_ok, oPre_ok, o_lst, o_tup, oLst_0, oLst_1, oLst_2, oLst_3, oTup_2, oTup_3, e_var, e_mv, oVar_some, e_con, e_bin, bin_add, bin_sub, bin_xor, e_neg, oNeg_ok, e_cmp, cmp_lt, cmp_le, cmp_gt, cmp_ge, cmp_eqI, cmp_neI, dec_N, cmp_isN_int, cmp_isN_none, cmp_notN_int, cmp_notN_none, e_chain, chain_lelt, e_not, oNot_ok, oB_ok, e_and, e_or, a_nil, a_cons, r_nil, r_cons, oAnd_f, oAnd_t, oAnd_ok, oOr_f, oOr_t, oOr_ok, e_idx, e_cut, part_t, part_f, s_nil, s_cons, oCons_ok, e_lst, e_tup, oL_0, oL_1, oL_2, oL_3, oL_4, oT_2, oT_3, okB_bind, e_call, oCall_ok, e_calld, oCalld_ok, o_calld, e_revl, o_revl, e_bi, e_mt, e_isi, oIsi_1, e_lset, i_ls, i_rng, oFor_t, oFor_f, x_for, step_1, step_2, fin_rt, isNul, eEnv, List.map_cons, List.map_nil, Option.map_some, Option.map_none, er, ers, getS, setS, Bool.and_true, Bool.true_and, Bool.and_false, Bool.false_and, Bool.or_false, Bool.false_or, Bool.or_true, Bool.true_or, Bool.not_true, Bool.not_false, o_mvG, oMv_I]
/-- range(a, n, 2) -/
theorem rng_2 (a n : Nat) (ha : a ≤ 10) (hn : n ≤ 1000) : ∃ m, (∀ k, k < m → a + k * 2 < n) ∧ oRng (.ok [.sh (.int (a : Nat)), .sh (.int (n : Nat)), .sh (.int 2)]) = .ok ((List.range m).map fun (k : Nat) => .int ((a + k * 2 : Nat) : Int), true) := by
  refine ⟨(Builtin.Range.rangeSize a n 2).toNat, fun k hk => ?_, ?_⟩
  · unfold Builtin.Range.rangeSize at hk
    rw [if_pos (by decide)] at hk
    split at hk <;> omega
  · have hs : Builtin.Range.small a n 2 = true := small_two (by omega) (by omega) (by omega) (by omega)
    have h0 : 0 ≤ Builtin.Range.rangeSize a n 2 := by
      unfold Builtin.Range.rangeSize
      rw [if_pos (by decide)]
      split <;> omega
    simp -implicitDefEqProofs only [oRng, Res.bind_ok, ers, er, rngD, hs, h0, decide_true, Bool.and_true, Bool.true_and]
    rw [if_pos (by decide), Res.of_some, Res.bind_ok]
    simp -implicitDefEqProofs only [Int.natCast_add, Int.natCast_mul]
    rfl
theorem flats_I (l : List Int) : flats (l.map PyData.int) = true := flats_ints l
theorem oLsI_oI (l : List Int) : oLsI (.ok (oI l)) = .ok (l.map PyData.int, true) := by
  rw [oLsI_ok (o := oI l) (ds := l.map PyData.int) (by rw [er_oI]; rfl), flats_ints]
  rfl
theorem idx_Ps {ps : Piles} {p : Nat} (h : p < ps.length) : oIdx (.ok (.sh (dPs ps))) (.ok (.sh (.int (p : Nat)))) = .ok (.sh (dN (pile ps p))) := by
  refine idx_ok (dix_LN ?_)
  rw [List.getElem?_eq_getElem h]
  simp [pile, List.getElem?_eq_getElem h]
theorem lenD_N (l : List Nat) : oBi .len (.ok [.sh (dN l)]) = .ok (.sh (.int (l.length : Nat))) := len_N (x := .sh (dN l)) rfl
theorem app_N {l : List Nat} {k : Nat} (h : l.length < sizeLine) : mutO .append (l.map fun (k : Nat) => O.sh (.int k)) [.sh (.int (k : Nat))] = some ((l ++ [k]).map fun (k : Nat) => O.sh (.int k)) := by
  simp -implicitDefEqProofs only [mutO, List.length_map, h, if_true, List.map_append, List.map_cons, List.map_nil]
/-- an arrow beneath a pile -/
def under (ps : Piles) (p e : Nat) : Piles := ps.set p (pile ps p ++ [e])
theorem under_ok {ps : Piles} (ok : POk ps) {p e : Nat} (hp : p < ps.length) (he : e < ps.length) : POk (under ps p e) := fun l hl x hx => by
  unfold under at hl ⊢
  rw [List.length_set]
  rcases List.mem_or_eq_of_mem_set hl with z | z
  · exact ok l z x hx
  · subst z
    rcases List.mem_append.mp hx with w | w
    · exact ok _ (pile_mem hp) x w
    · rw [List.mem_singleton.mp w]; exact he
theorem under_len (ps : Piles) (p e : Nat) : (under ps p e).length = ps.length := List.length_set
theorem under_40 {ps : Piles} (h : ∀ l ∈ ps, l.length ≤ 40) {p e : Nat} (hp : (pile ps p).length < 40) : ∀ l ∈ under ps p e, l.length ≤ 40 := fun l hl => by
  rcases List.mem_or_eq_of_mem_set hl with z | z
  · exact h l z
  · subst z; simp; omega
/-- piles as they are drawn -/
structure PFit (ps : Piles) : Prop where
  ok : POk ps
  one : 1 ≤ ps.length
  most : ps.length ≤ 8
  h40 : ∀ l ∈ ps, l.length ≤ 40
theorem nones_P (m : Nat) : POk ((List.range m).map fun _ => []) ∧ ∀ l ∈ (List.range m).map fun _ => ([] : List Nat), l.length ≤ 40 := by
  refine ⟨fun l hl x hx => ?_, fun l hl => ?_⟩
  · obtain ⟨_, _, rfl⟩ := List.mem_map.mp hl
    exact absurd hx (by simp)
  · obtain ⟨_, _, rfl⟩ := List.mem_map.mp hl
    exact Nat.zero_le _
theorem sum_bound {α : Type} {f : α → Nat} {b : Nat} : ∀ l : List α, (∀ x ∈ l, f x ≤ b) → (l.map f).sum ≤ l.length * b
  | [], _ => by simp
  | x :: l, h => by
    have h1 := h x (by simp)
    have h2 := sum_bound l fun y hy => h y (by simp [hy])
    simp -implicitDefEqProofs only [List.map_cons, List.sum_cons, List.length_cons, Nat.add_mul, Nat.one_mul]
    omega
theorem PFit.size {ps : Piles} (h : PFit ps) : size ps ≤ 320 := by
  have h1 : Rg.size ps ≤ (List.range ps.length).length * 40 := sum_bound _ fun i hi => h.h40 _ (pile_mem (List.mem_range.mp hi))
  have := h.most
  rw [List.length_range] at h1
  omega
theorem any_ok (h : tab 74 = some f74) (h73 : tab 73 = some f73) (n : Nat) {vs : List Int} (hl : vs.length ≤ 63) (hpos : ∀ v ∈ vs, 0 ≤ v) : ∃ ps : Piles, PFit ps ∧ callF tab gt (n + 2) 74 [dI vs] = .ok (oPs ps) := by
  rw [callF_go h _ _ rfl]
  obtain ⟨a, ha, hcat⟩ : ∃ a : Int, 0 ≤ a ∧ oIdx (.ok (oI (vs ++ [0]))) (.ok (.sh (.int 0))) = .ok (.sh (.int a)) := by
    cases vs with
    | nil => exact ⟨0, by decide, idx_ok (by rw [er_oI]; exact dix_I (l := [0]) (j := 0) rfl)⟩
    | cons v vs => exact ⟨v, hpos v (by simp), idx_ok (by rw [er_oI]; exact dix_I (l := v :: vs ++ [0]) (j := 0) rfl)⟩
  have hbin : oBin .add (.ok (.sh (dI vs))) (.ok (.lst [.sh (.int 0)])) = .ok (oI (vs ++ [0])) := by
    rw [bin_cat (x := .sh (dI vs)) (y := .lst [.sh (.int 0)]) (a := vs.map PyData.int) (b := [.int 0]) rfl rfl (by rw [List.length_map, sizeLine_eq]; simp; omega)]
    rw [show vs.map PyData.int ++ [PyData.int 0] = (vs ++ [0]).map PyData.int by simp, oI_shl]
  obtain ⟨m, hm⟩ : ∃ m : Nat, 1 + a / 2 % 8 = (m : Int) := ⟨(1 + a / 2 % 8).toNat, by
    have := Int.emod_nonneg (a / 2) (show (8 : Int) ≠ 0 by decide); omega⟩
  have hm1 : 1 ≤ m ∧ m ≤ 8 := by
    have h1 := Int.emod_nonneg (a / 2) (show (8 : Int) ≠ 0 by decide)
    have h2 := Int.emod_lt_of_pos (a / 2) (show (0 : Int) < 8 by decide)
    omega
  have hmp : (0 : Int) < (m : Int) := by omega
  have d2 : ∀ y : Int, divOk y 2 = true := fun y => divOk_of 64 (by decide) (by decide) (by decide) (by decide)
  have d8 : ∀ y : Int, divOk y 8 = true := fun y => divOk_of 64 (by decide) (by decide) (by decide) (by decide)
  have hc1 : ∀ γ : Env0, 4 < γ.length → oComp (cT (callO tab gt (n + 1)) gt γ [4] .nil (.lst .nil) [4]) (.ok ((List.range m).map fun (k : Nat) => .int k, true)) = .ok (oPs ((List.range m).map fun _ => [])) := fun γ _ => by
    rw [oComp_ok (os := (List.range m).map fun _ => oN []) (compL_map _ _ _ fun k _ => ?_) (by rw [List.length_map, List.length_range]; exact small_sz (by omega))]
    · rw [oPs, List.map_map]; rfl
    · rw [cT_1]; simp -implicitDefEqProofs only [xs_nil, xs_cons, then_nx, then_rt, then_bk, x_asg, oAsg_1, oAsg_t2, oAsg_s2, x_ret, oRet_ok, x_ite, oIte_t, oIte_f, x_pass, x_brk, kO_int, kO_bool, kO_none, kO_str, o_var, o_con, o_bin, o_neg, o_cmp, o_chain, o_not, o_and, o_or, o_idx, o_cut, o_call, o_bi, o_mt, o_isi, o_comp, o_dnew, os_nil, os_cons, oSeq_ok, oPre_ok, o_lst, o_tup, oLst_0, oLst_1, oLst_2, oLst_3, oTup_2, oTup_3, e_var, e_mv, oVar_some, e_con, e_bin, bin_add, bin_sub, bin_xor, e_neg, oNeg_ok, e_cmp, cmp_lt, cmp_le, cmp_gt, cmp_ge, cmp_eqI, cmp_neI, dec_N, cmp_isN_int, cmp_isN_none, cmp_notN_int, cmp_notN_none, e_chain, chain_lelt, e_not, oNot_ok, oB_ok, e_and, e_or, a_nil, a_cons, r_nil, r_cons, oAnd_f, oAnd_t, oAnd_ok, oOr_f, oOr_t, oOr_ok, e_idx, e_cut, part_t, part_f, s_nil, s_cons, oCons_ok, e_lst, e_tup, oL_0, oL_1, oL_2, oL_3, oL_4, oT_2, oT_3, okB_bind, e_call, oCall_ok, e_calld, oCalld_ok, o_calld, e_revl, o_revl, e_bi, e_mt, e_isi, oIsi_1, e_lset, i_ls, i_rng, oFor_t, oFor_f, x_for, step_1, step_2, fin_rt, isNul, eEnv, List.map_cons, List.map_nil, Option.map_some, Option.map_none, er, ers, getS, setS, Bool.and_true, Bool.true_and, Bool.and_false, Bool.false_and, Bool.or_false, Bool.false_or, Bool.or_true, Bool.true_or, Bool.not_true, Bool.not_false, Res.bind_ok]; rfl
  let bare : List Nat := (List.range m).filter fun (k : Nat) => decide (a % 2 = 0) && decide (a / (16 + 77 * (k : Int)) % 5 = 1)
  have hbl : bare.length ≤ m := by
    have := List.length_filter_le (fun (k : Nat) => decide (a % 2 = 0) && decide (a / (16 + 77 * (k : Int)) % 5 = 1)) (List.range m)
    rw [List.length_range] at this
    exact this
  have hc2 : oComp (cT (callO tab gt (n + 1)) gt [some (dI vs), some (.int a), some (.int (m : Int)), some (dPs ((List.range m).map fun _ => [])), none, none, none, none] [4] (.cons (.and (.cons (.cmp .eq (.bin .mod (.var 1) (.con (.int 2))) (.con (.int 0))) (.cons (.cmp .eq (.bin .mod (.bin .fdiv (.var 1) (.bin .add (.con (.int 16)) (.bin .mul (.con (.int 77)) (.var 4)))) (.con (.int 5))) (.con (.int 1))) .nil))) .nil) (.var 4) [4]) (.ok ((List.range m).map fun (k : Nat) => .int k, true)) = .ok (oN bare) := by
    rw [oComp_ok (os := bare.map fun (k : Nat) => O.sh (.int k)) (compL_filter _ _ _ _ fun k hk => ?_) (by
      rw [List.length_map]
      exact small_sz (by omega))]
    · rfl
    · have hk := List.mem_range.mp hk
      have hmu : mulOk 77 (k : Int) = true := mulOk_of 10 10 (by decide) (by omega) (by decide) (by decide) (by decide)
      have hdv : divOk a (16 + 77 * (k : Int)) = true := divOk_of 20 (by omega) (by omega) (by decide) (by decide)
      rw [cT_1c (b := decide (a % 2 = 0) && decide (a / (16 + 77 * (k : Int)) % 5 = 1)) (h := by
        simp -implicitDefEqProofs only [xs_nil, xs_cons, then_nx, then_rt, then_bk, x_asg, oAsg_1, oAsg_t2, oAsg_s2, x_ret, oRet_ok, x_ite, oIte_t, oIte_f, x_pass, x_brk, kO_int, kO_bool, kO_none, kO_str, o_var, o_con, o_bin, o_neg, o_cmp, o_chain, o_not, o_and, o_or, o_idx, o_cut, o_call, o_bi, o_mt, o_isi, o_comp, o_dnew, os_nil, os_cons, oSeq_ok, oPre_ok, o_lst, o_tup, oLst_0, oLst_1, oLst_2, oLst_3, oTup_2, oTup_3, e_var, e_mv, oVar_some, e_con, e_bin, bin_add, bin_sub, bin_xor, e_neg, oNeg_ok, e_cmp, cmp_lt, cmp_le, cmp_gt, cmp_ge, cmp_eqI, cmp_neI, dec_N, cmp_isN_int, cmp_isN_none, cmp_notN_int, cmp_notN_none, e_chain, chain_lelt, e_not, oNot_ok, oB_ok, e_and, e_or, a_nil, a_cons, r_nil, r_cons, oAnd_f, oAnd_t, oAnd_ok, oOr_f, oOr_t, oOr_ok, e_idx, e_cut, part_t, part_f, s_nil, s_cons, oCons_ok, e_lst, e_tup, oL_0, oL_1, oL_2, oL_3, oL_4, oT_2, oT_3, okB_bind, e_call, oCall_ok, e_calld, oCalld_ok, o_calld, e_revl, o_revl, e_bi, e_mt, e_isi, oIsi_1, e_lset, i_ls, i_rng, oFor_t, oFor_f, x_for, step_1, step_2, fin_rt, isNul, eEnv, List.map_cons, List.map_nil, Option.map_some, Option.map_none, er, ers, getS, setS, Bool.and_true, Bool.true_and, Bool.and_false, Bool.false_and, Bool.or_false, Bool.false_or, Bool.or_true, Bool.true_or, Bool.not_true, Bool.not_false, wipeS, bin_mul hmu, bin_fdiv hdv, bin_mod (show (0 : Int) < 2 by decide), bin_mod (show (0 : Int) < 5 by decide), oAnd_ok])]
      cases (decide (a % 2 = 0) && decide (a / (16 + 77 * (k : Int)) % 5 = 1)) <;> rfl
  obtain ⟨mr, hmr, hrng⟩ := rng_2 1 vs.length (by decide) (by omega)
  simp -implicitDefEqProofs only [Int.natCast_one] at hrng
  have hdl : oBi .len (.ok [.sh (dI vs)]) = .ok (.sh (.int (vs.length : Nat))) := len_I vs
  simp -implicitDefEqProofs only [f74, start, List.length_cons, List.length_nil, List.replicate, Nat.sub_self, Nat.reduceAdd, Nat.reduceSub, List.cons_append, List.nil_append, xs_nil, xs_cons, then_nx, then_rt, then_bk, x_asg, oAsg_1, oAsg_t2, oAsg_s2, x_ret, oRet_ok, x_ite, oIte_t, oIte_f, x_pass, x_brk, kO_int, kO_bool, kO_none, kO_str, o_var, o_con, o_bin, o_neg, o_cmp, o_chain, o_not, o_and, o_or, o_idx, o_cut, o_call, o_bi, o_mt, o_isi, o_comp, o_dnew, os_nil, os_cons, oSeq_ok, oPre_ok, o_lst, o_tup, oLst_0, oLst_1, oLst_2, oLst_3, oTup_2, oTup_3, e_var, e_mv, oVar_some, e_con, e_bin, bin_add, bin_sub, bin_xor, e_neg, oNeg_ok, e_cmp, cmp_lt, cmp_le, cmp_gt, cmp_ge, cmp_eqI, cmp_neI, dec_N, cmp_isN_int, cmp_isN_none, cmp_notN_int, cmp_notN_none, e_chain, chain_lelt, e_not, oNot_ok, oB_ok, e_and, e_or, a_nil, a_cons, r_nil, r_cons, oAnd_f, oAnd_t, oAnd_ok, oOr_f, oOr_t, oOr_ok, e_idx, e_cut, part_t, part_f, s_nil, s_cons, oCons_ok, e_lst, e_tup, oL_0, oL_1, oL_2, oL_3, oL_4, oT_2, oT_3, okB_bind, e_call, oCall_ok, e_calld, oCalld_ok, o_calld, e_revl, o_revl, e_bi, e_mt, e_isi, oIsi_1, e_lset, i_ls, i_rng, oFor_t, oFor_f, x_for, step_1, step_2, fin_rt, isNul, eEnv, List.map_cons, List.map_nil, Option.map_some, Option.map_none, er, ers, getS, setS, Bool.and_true, Bool.true_and, Bool.and_false, Bool.false_and, Bool.or_false, Bool.false_or, Bool.or_true, Bool.true_or, Bool.not_true, Bool.not_false, hbin, hcat, bin_fdiv (d2 _), bin_mod (show (0 : Int) < 8 by decide), hm, rng_n (show m ≤ 1000000 by omega), e_comp, hc1 _ (show 4 < [some (dI vs), some (PyData.int a), some (.int (m : Int)), none, none, none, none, none].length by simp), kO_oPs, er_oPs, hc2, kO_oN, hdl, hrng]
  generalize hb : stepF (callO tab gt (n + 1)) gt [6] _ = body
  obtain ⟨Γ', e, ps, s4, s6, s7, hok, hlen, h40, rfl⟩ := forL_rel (f := body) (fun (k : Nat) => PyData.int ((1 + k * 2 : Nat) : Int)) (fun i Γ => ∃ (ps : Piles) (s4 s6 s7 : Option O), POk ps ∧ ps.length = m ∧ (∀ l ∈ ps, l.length ≤ 40) ∧ Γ = [some (.sh (dI vs)), some (.sh (.int a)), some (.sh (.int (m : Int))), some (oPs ps), s4, some (oN bare), s6, s7]) (List.range mr) 0 [some (.sh (dI vs)), some (.sh (.int a)), some (.sh (.int (m : Int))), some (oPs ((List.range m).map fun _ => [])), none, some (oN bare), none, none] ⟨(List.range m).map fun _ => [], none, none, none, (nones_P m).1, by simp, (nones_P m).2, rfl⟩ (by
    rintro j Γ k hj ⟨ps, s4, s6, s7, hok, hlen, h40, rfl⟩
    obtain ⟨rfl, hjn⟩ := range_at hj
    have hk := hmr k hjn
    obtain ⟨v, hv⟩ : ∃ v, vs[1 + k * 2]? = some v := ⟨_, List.getElem?_eq_getElem hk⟩
    obtain ⟨ds, hdl, hdp, hds⟩ := digits_ok (gt := gt) h73 n (hpos v (List.mem_of_getElem? hv)) (show (0 : Int) < 64 by decide) (by decide)
    subst hb
    simp -implicitDefEqProofs only [xs_nil, xs_cons, then_nx, then_rt, then_bk, x_asg, oAsg_1, oAsg_t2, oAsg_s2, x_ret, oRet_ok, x_ite, oIte_t, oIte_f, x_pass, x_brk, kO_int, kO_bool, kO_none, kO_str, o_var, o_con, o_bin, o_neg, o_cmp, o_chain, o_not, o_and, o_or, o_idx, o_cut, o_call, o_bi, o_mt, o_isi, o_comp, o_dnew, os_nil, os_cons, oSeq_ok, oPre_ok, o_lst, o_tup, oLst_0, oLst_1, oLst_2, oLst_3, oTup_2, oTup_3, e_var, e_mv, oVar_some, e_con, e_bin, bin_add, bin_sub, bin_xor, e_neg, oNeg_ok, e_cmp, cmp_lt, cmp_le, cmp_gt, cmp_ge, cmp_eqI, cmp_neI, dec_N, cmp_isN_int, cmp_isN_none, cmp_notN_int, cmp_notN_none, e_chain, chain_lelt, e_not, oNot_ok, oB_ok, e_and, e_or, a_nil, a_cons, r_nil, r_cons, oAnd_f, oAnd_t, oAnd_ok, oOr_f, oOr_t, oOr_ok, e_idx, e_cut, part_t, part_f, s_nil, s_cons, oCons_ok, e_lst, e_tup, oL_0, oL_1, oL_2, oL_3, oL_4, oT_2, oT_3, okB_bind, e_call, oCall_ok, e_calld, oCalld_ok, o_calld, e_revl, o_revl, e_bi, e_mt, e_isi, oIsi_1, e_lset, i_ls, i_rng, oFor_t, oFor_f, x_for, step_1, step_2, fin_rt, isNul, eEnv, List.map_cons, List.map_nil, Option.map_some, Option.map_none, er, ers, getS, setS, Bool.and_true, Bool.true_and, Bool.and_false, Bool.false_and, Bool.or_false, Bool.false_or, Bool.or_true, Bool.true_or, Bool.not_true, Bool.not_false, idx_dI hv, hds, oLsI_oI]
    generalize hb2 : stepF (callO tab gt (n + 1)) gt [7] _ = body2
    obtain ⟨Γ2, e2, ps2, s42, s72, hok2, hlen2, h402, rfl⟩ := forL_rel (f := body2) PyData.int (fun i Γ => ∃ (ps : Piles) (s4 s7 : Option O), POk ps ∧ ps.length = m ∧ (∀ l ∈ ps, l.length ≤ 40) ∧ Γ = [some (.sh (dI vs)), some (.sh (.int a)), some (.sh (.int (m : Int))), some (oPs ps), s4, some (oN bare), some (.sh (.int ((1 + k * 2 : Nat) : Int))), s7]) ds 0 [some (.sh (dI vs)), some (.sh (.int a)), some (.sh (.int (m : Int))), some (oPs ps), s4, some (oN bare), some (.sh (.int ((1 + k * 2 : Nat) : Int))), s7] ⟨ps, s4, s7, hok, hlen, h40, rfl⟩ (by
      rintro i Γ d hi ⟨ps, s4, s7, hok, hlen, h40, rfl⟩
      obtain ⟨p, hp⟩ : ∃ p : Nat, d % 8 % (m : Int) = (p : Int) := ⟨(d % 8 % (m : Int)).toNat, by
        have := Int.emod_nonneg (d % 8) (show (m : Int) ≠ 0 by omega); omega⟩
      have hpm : p < ps.length := by
        have := Int.emod_lt_of_pos (d % 8) hmp
        omega
      obtain ⟨q, hq⟩ : ∃ q : Nat, d / 8 % (m : Int) = (q : Int) := ⟨(d / 8 % (m : Int)).toNat, by
        have := Int.emod_nonneg (d / 8) (show (m : Int) ≠ 0 by omega); omega⟩
      have hqm : q < ps.length := by
        have := Int.emod_lt_of_pos (d / 8) hmp
        omega
      have hni := cmp_notin_N p (x := .sh (dN bare)) (l := bare) rfl
      subst hb2
      simp -implicitDefEqProofs only [xs_nil, xs_cons, then_nx, then_rt, then_bk, x_asg, oAsg_1, oAsg_t2, oAsg_s2, x_ret, oRet_ok, x_ite, oIte_t, oIte_f, x_pass, x_brk, kO_int, kO_bool, kO_none, kO_str, o_var, o_con, o_bin, o_neg, o_cmp, o_chain, o_not, o_and, o_or, o_idx, o_cut, o_call, o_bi, o_mt, o_isi, o_comp, o_dnew, os_nil, os_cons, oSeq_ok, oPre_ok, o_lst, o_tup, oLst_0, oLst_1, oLst_2, oLst_3, oTup_2, oTup_3, e_var, e_mv, oVar_some, e_con, e_bin, bin_add, bin_sub, bin_xor, e_neg, oNeg_ok, e_cmp, cmp_lt, cmp_le, cmp_gt, cmp_ge, cmp_eqI, cmp_neI, dec_N, cmp_isN_int, cmp_isN_none, cmp_notN_int, cmp_notN_none, e_chain, chain_lelt, e_not, oNot_ok, oB_ok, e_and, e_or, a_nil, a_cons, r_nil, r_cons, oAnd_f, oAnd_t, oAnd_ok, oOr_f, oOr_t, oOr_ok, e_idx, e_cut, part_t, part_f, s_nil, s_cons, oCons_ok, e_lst, e_tup, oL_0, oL_1, oL_2, oL_3, oL_4, oT_2, oT_3, okB_bind, e_call, oCall_ok, e_calld, oCalld_ok, o_calld, e_revl, o_revl, e_bi, e_mt, e_isi, oIsi_1, e_lset, i_ls, i_rng, oFor_t, oFor_f, x_for, step_1, step_2, fin_rt, isNul, eEnv, List.map_cons, List.map_nil, Option.map_some, Option.map_none, er, ers, getS, setS, Bool.and_true, Bool.true_and, Bool.and_false, Bool.false_and, Bool.or_false, Bool.false_or, Bool.or_true, Bool.true_or, Bool.not_true, Bool.not_false, bin_mod (show (0 : Int) < 8 by decide), bin_mod hmp, hp, er_oN, er_oPs, hni, idx_Ps hpm, lenD_N, oAnd_ok]
      by_cases hcd : (!decide (p ∈ bare) && decide (((pile ps p).length : Int) < 40)) = true
      · have h4 : (pile ps p).length < 40 := by
          simp -implicitDefEqProofs only [Bool.and_eq_true, decide_eq_true_eq] at hcd
          omega
        rw [hcd]
        simp -implicitDefEqProofs only [xs_nil, xs_cons, then_nx, then_rt, then_bk, x_asg, oAsg_1, oAsg_t2, oAsg_s2, x_ret, oRet_ok, x_ite, oIte_t, oIte_f, x_pass, x_brk, kO_int, kO_bool, kO_none, kO_str, o_var, o_con, o_bin, o_neg, o_cmp, o_chain, o_not, o_and, o_or, o_idx, o_cut, o_call, o_bi, o_mt, o_isi, o_comp, o_dnew, os_nil, os_cons, oSeq_ok, oPre_ok, o_lst, o_tup, oLst_0, oLst_1, oLst_2, oLst_3, oTup_2, oTup_3, e_var, e_mv, oVar_some, e_con, e_bin, bin_add, bin_sub, bin_xor, e_neg, oNeg_ok, e_cmp, cmp_lt, cmp_le, cmp_gt, cmp_ge, cmp_eqI, cmp_neI, dec_N, cmp_isN_int, cmp_isN_none, cmp_notN_int, cmp_notN_none, e_chain, chain_lelt, e_not, oNot_ok, oB_ok, e_and, e_or, a_nil, a_cons, r_nil, r_cons, oAnd_f, oAnd_t, oAnd_ok, oOr_f, oOr_t, oOr_ok, e_idx, e_cut, part_t, part_f, s_nil, s_cons, oCons_ok, e_lst, e_tup, oL_0, oL_1, oL_2, oL_3, oL_4, oT_2, oT_3, okB_bind, e_call, oCall_ok, e_calld, oCalld_ok, o_calld, e_revl, o_revl, e_bi, e_mt, e_isi, oIsi_1, e_lset, i_ls, i_rng, oFor_t, oFor_f, x_for, step_1, step_2, fin_rt, isNul, eEnv, List.map_cons, List.map_nil, Option.map_some, Option.map_none, er, ers, getS, setS, Bool.and_true, Bool.true_and, Bool.and_false, Bool.false_and, Bool.or_false, Bool.false_or, Bool.or_true, Bool.true_or, Bool.not_true, Bool.not_false]
        rw [mut1_at (by decide) (i := (p : Int)) (j := p) (os := ps.map oN) rfl (by simp -implicitDefEqProofs only [xs_nil, xs_cons, then_nx, then_rt, then_bk, x_asg, oAsg_1, oAsg_t2, oAsg_s2, x_ret, oRet_ok, x_ite, oIte_t, oIte_f, x_pass, x_brk, kO_int, kO_bool, kO_none, kO_str, o_var, o_con, o_bin, o_neg, o_cmp, o_chain, o_not, o_and, o_or, o_idx, o_cut, o_call, o_bi, o_mt, o_isi, o_comp, o_dnew, os_nil, os_cons, oSeq_ok, oPre_ok, o_lst, o_tup, oLst_0, oLst_1, oLst_2, oLst_3, oTup_2, oTup_3, e_var, e_mv, oVar_some, e_con, e_bin, bin_add, bin_sub, bin_xor, e_neg, oNeg_ok, e_cmp, cmp_lt, cmp_le, cmp_gt, cmp_ge, cmp_eqI, cmp_neI, dec_N, cmp_isN_int, cmp_isN_none, cmp_notN_int, cmp_notN_none, e_chain, chain_lelt, e_not, oNot_ok, oB_ok, e_and, e_or, a_nil, a_cons, r_nil, r_cons, oAnd_f, oAnd_t, oAnd_ok, oOr_f, oOr_t, oOr_ok, e_idx, e_cut, part_t, part_f, s_nil, s_cons, oCons_ok, e_lst, e_tup, oL_0, oL_1, oL_2, oL_3, oL_4, oT_2, oT_3, okB_bind, e_call, oCall_ok, e_calld, oCalld_ok, o_calld, e_revl, o_revl, e_bi, e_mt, e_isi, oIsi_1, e_lset, i_ls, i_rng, oFor_t, oFor_f, x_for, step_1, step_2, fin_rt, isNul, eEnv, List.map_cons, List.map_nil, Option.map_some, Option.map_none, er, ers, getS, setS, Bool.and_true, Bool.true_and, Bool.and_false, Bool.false_and, Bool.or_false, Bool.false_or, Bool.or_true, Bool.true_or, Bool.not_true, Bool.not_false]) (pix_nat (by rw [List.length_map]; exact hpm)) (oN_at hpm)]
        simp -implicitDefEqProofs only [xs_nil, xs_cons, then_nx, then_rt, then_bk, x_asg, oAsg_1, oAsg_t2, oAsg_s2, x_ret, oRet_ok, x_ite, oIte_t, oIte_f, x_pass, x_brk, kO_int, kO_bool, kO_none, kO_str, o_var, o_con, o_bin, o_neg, o_cmp, o_chain, o_not, o_and, o_or, o_idx, o_cut, o_call, o_bi, o_mt, o_isi, o_comp, o_dnew, os_nil, os_cons, oSeq_ok, oPre_ok, o_lst, o_tup, oLst_0, oLst_1, oLst_2, oLst_3, oTup_2, oTup_3, e_var, e_mv, oVar_some, e_con, e_bin, bin_add, bin_sub, bin_xor, e_neg, oNeg_ok, e_cmp, cmp_lt, cmp_le, cmp_gt, cmp_ge, cmp_eqI, cmp_neI, dec_N, cmp_isN_int, cmp_isN_none, cmp_notN_int, cmp_notN_none, e_chain, chain_lelt, e_not, oNot_ok, oB_ok, e_and, e_or, a_nil, a_cons, r_nil, r_cons, oAnd_f, oAnd_t, oAnd_ok, oOr_f, oOr_t, oOr_ok, e_idx, e_cut, part_t, part_f, s_nil, s_cons, oCons_ok, e_lst, e_tup, oL_0, oL_1, oL_2, oL_3, oL_4, oT_2, oT_3, okB_bind, e_call, oCall_ok, e_calld, oCalld_ok, o_calld, e_revl, o_revl, e_bi, e_mt, e_isi, oIsi_1, e_lset, i_ls, i_rng, oFor_t, oFor_f, x_for, step_1, step_2, fin_rt, isNul, eEnv, List.map_cons, List.map_nil, Option.map_some, Option.map_none, er, ers, getS, setS, Bool.and_true, Bool.true_and, Bool.and_false, Bool.false_and, Bool.or_false, Bool.false_or, Bool.or_true, Bool.true_or, Bool.not_true, Bool.not_false, bin_fdiv (d8 _), bin_mod hmp, hq]
        rw [oMut1_ok (os := ps.map oN) rfl (pix_nat (by rw [List.length_map]; exact hpm)) (oN_at hpm) (app_N (small_sz (by omega)))]
        simp -implicitDefEqProofs only [xs_nil, xs_cons, then_nx, then_rt, then_bk, x_asg, oAsg_1, oAsg_t2, oAsg_s2, x_ret, oRet_ok, x_ite, oIte_t, oIte_f, x_pass, x_brk, kO_int, kO_bool, kO_none, kO_str, o_var, o_con, o_bin, o_neg, o_cmp, o_chain, o_not, o_and, o_or, o_idx, o_cut, o_call, o_bi, o_mt, o_isi, o_comp, o_dnew, os_nil, os_cons, oSeq_ok, oPre_ok, o_lst, o_tup, oLst_0, oLst_1, oLst_2, oLst_3, oTup_2, oTup_3, e_var, e_mv, oVar_some, e_con, e_bin, bin_add, bin_sub, bin_xor, e_neg, oNeg_ok, e_cmp, cmp_lt, cmp_le, cmp_gt, cmp_ge, cmp_eqI, cmp_neI, dec_N, cmp_isN_int, cmp_isN_none, cmp_notN_int, cmp_notN_none, e_chain, chain_lelt, e_not, oNot_ok, oB_ok, e_and, e_or, a_nil, a_cons, r_nil, r_cons, oAnd_f, oAnd_t, oAnd_ok, oOr_f, oOr_t, oOr_ok, e_idx, e_cut, part_t, part_f, s_nil, s_cons, oCons_ok, e_lst, e_tup, oL_0, oL_1, oL_2, oL_3, oL_4, oT_2, oT_3, okB_bind, e_call, oCall_ok, e_calld, oCalld_ok, o_calld, e_revl, o_revl, e_bi, e_mt, e_isi, oIsi_1, e_lset, i_ls, i_rng, oFor_t, oFor_f, x_for, step_1, step_2, fin_rt, isNul, eEnv, List.map_cons, List.map_nil, Option.map_some, Option.map_none, er, ers, getS, setS, Bool.and_true, Bool.true_and, Bool.and_false, Bool.false_and, Bool.or_false, Bool.false_or, Bool.or_true, Bool.true_or, Bool.not_true, Bool.not_false]
        refine ⟨_, rfl, under ps p q, some (.sh (.int (p : Int))), some (.sh (.int d)), under_ok hok hpm hqm, by rw [under_len]; exact hlen, under_40 h40 h4, ?_⟩
        rw [under, ← oPs_set]
        rfl
      · simp -implicitDefEqProofs only [Bool.not_eq_true] at hcd
        rw [hcd]
        simp -implicitDefEqProofs only [xs_nil, xs_cons, then_nx, then_rt, then_bk, x_asg, oAsg_1, oAsg_t2, oAsg_s2, x_ret, oRet_ok, x_ite, oIte_t, oIte_f, x_pass, x_brk, kO_int, kO_bool, kO_none, kO_str, o_var, o_con, o_bin, o_neg, o_cmp, o_chain, o_not, o_and, o_or, o_idx, o_cut, o_call, o_bi, o_mt, o_isi, o_comp, o_dnew, os_nil, os_cons, oSeq_ok, oPre_ok, o_lst, o_tup, oLst_0, oLst_1, oLst_2, oLst_3, oTup_2, oTup_3, e_var, e_mv, oVar_some, e_con, e_bin, bin_add, bin_sub, bin_xor, e_neg, oNeg_ok, e_cmp, cmp_lt, cmp_le, cmp_gt, cmp_ge, cmp_eqI, cmp_neI, dec_N, cmp_isN_int, cmp_isN_none, cmp_notN_int, cmp_notN_none, e_chain, chain_lelt, e_not, oNot_ok, oB_ok, e_and, e_or, a_nil, a_cons, r_nil, r_cons, oAnd_f, oAnd_t, oAnd_ok, oOr_f, oOr_t, oOr_ok, e_idx, e_cut, part_t, part_f, s_nil, s_cons, oCons_ok, e_lst, e_tup, oL_0, oL_1, oL_2, oL_3, oL_4, oT_2, oT_3, okB_bind, e_call, oCall_ok, e_calld, oCalld_ok, o_calld, e_revl, o_revl, e_bi, e_mt, e_isi, oIsi_1, e_lset, i_ls, i_rng, oFor_t, oFor_f, x_for, step_1, step_2, fin_rt, isNul, eEnv, List.map_cons, List.map_nil, Option.map_some, Option.map_none, er, ers, getS, setS, Bool.and_true, Bool.true_and, Bool.and_false, Bool.false_and, Bool.or_false, Bool.false_or, Bool.or_true, Bool.true_or, Bool.not_true, Bool.not_false]
        exact ⟨_, rfl, ps, some (.sh (.int (p : Int))), some (.sh (.int d)), hok, hlen, h40, rfl⟩)
    rw [e2]
    exact ⟨_, rfl, ps2, s42, _, s72, hok2, hlen2, h402, rfl⟩)
  rw [e]
  refine ⟨ps, ⟨hok, by omega, by omega, h40⟩, ?_⟩
  simp -implicitDefEqProofs only [xs_nil, xs_cons, then_nx, then_rt, then_bk, x_asg, oAsg_1, oAsg_t2, oAsg_s2, x_ret, oRet_ok, x_ite, oIte_t, oIte_f, x_pass, x_brk, kO_int, kO_bool, kO_none, kO_str, o_var, o_con, o_bin, o_neg, o_cmp, o_chain, o_not, o_and, o_or, o_idx, o_cut, o_call, o_bi, o_mt, o_isi, o_comp, o_dnew, os_nil, os_cons, oSeq_ok, oPre_ok, o_lst, o_tup, oLst_0, oLst_1, oLst_2, oLst_3, oTup_2, oTup_3, e_var, e_mv, oVar_some, e_con, e_bin, bin_add, bin_sub, bin_xor, e_neg, oNeg_ok, e_cmp, cmp_lt, cmp_le, cmp_gt, cmp_ge, cmp_eqI, cmp_neI, dec_N, cmp_isN_int, cmp_isN_none, cmp_notN_int, cmp_notN_none, e_chain, chain_lelt, e_not, oNot_ok, oB_ok, e_and, e_or, a_nil, a_cons, r_nil, r_cons, oAnd_f, oAnd_t, oAnd_ok, oOr_f, oOr_t, oOr_ok, e_idx, e_cut, part_t, part_f, s_nil, s_cons, oCons_ok, e_lst, e_tup, oL_0, oL_1, oL_2, oL_3, oL_4, oT_2, oT_3, okB_bind, e_call, oCall_ok, e_calld, oCalld_ok, o_calld, e_revl, o_revl, e_bi, e_mt, e_isi, oIsi_1, e_lset, i_ls, i_rng, oFor_t, oFor_f, x_for, step_1, step_2, fin_rt, isNul, eEnv, List.map_cons, List.map_nil, Option.map_some, Option.map_none, er, ers, getS, setS, Bool.and_true, Bool.true_and, Bool.and_false, Bool.false_and, Bool.or_false, Bool.false_or, Bool.or_true, Bool.true_or, Bool.not_true, Bool.not_false, o_mvG, oMv_Ps]
theorem order_ok (h : tab 75 = some f75) (h73 : tab 73 = some f73) (n : Nat) {vs : List Int} (hl : vs.length ≤ 63) (hpos : ∀ v ∈ vs, 0 ≤ v) : ∃ os : List Int, (∀ o ∈ os, 0 ≤ o) ∧ callF tab gt (n + 2) 75 [dI vs] = .ok (oI os) := by
  rw [callF_go h _ _ rfl]
  obtain ⟨mr, hmr, hrng⟩ := rng_2 2 vs.length (by decide) (by omega)
  simp -implicitDefEqProofs only [show ((2 : Nat) : Int) = 2 from rfl] at hrng
  have hdl : oBi .len (.ok [.sh (dI vs)]) = .ok (.sh (.int (vs.length : Nat))) := len_I vs
  simp -implicitDefEqProofs only [f75, start, List.length_cons, List.length_nil, List.replicate, Nat.sub_self, Nat.reduceAdd, Nat.reduceSub, List.cons_append, List.nil_append, xs_nil, xs_cons, then_nx, then_rt, then_bk, x_asg, oAsg_1, oAsg_t2, oAsg_s2, x_ret, oRet_ok, x_ite, oIte_t, oIte_f, x_pass, x_brk, kO_int, kO_bool, kO_none, kO_str, o_var, o_con, o_bin, o_neg, o_cmp, o_chain, o_not, o_and, o_or, o_idx, o_cut, o_call, o_bi, o_mt, o_isi, o_comp, o_dnew, os_nil, os_cons, oSeq_ok, oPre_ok, o_lst, o_tup, oLst_0, oLst_1, oLst_2, oLst_3, oTup_2, oTup_3, e_var, e_mv, oVar_some, e_con, e_bin, bin_add, bin_sub, bin_xor, e_neg, oNeg_ok, e_cmp, cmp_lt, cmp_le, cmp_gt, cmp_ge, cmp_eqI, cmp_neI, dec_N, cmp_isN_int, cmp_isN_none, cmp_notN_int, cmp_notN_none, e_chain, chain_lelt, e_not, oNot_ok, oB_ok, e_and, e_or, a_nil, a_cons, r_nil, r_cons, oAnd_f, oAnd_t, oAnd_ok, oOr_f, oOr_t, oOr_ok, e_idx, e_cut, part_t, part_f, s_nil, s_cons, oCons_ok, e_lst, e_tup, oL_0, oL_1, oL_2, oL_3, oL_4, oT_2, oT_3, okB_bind, e_call, oCall_ok, e_calld, oCalld_ok, o_calld, e_revl, o_revl, e_bi, e_mt, e_isi, oIsi_1, e_lset, i_ls, i_rng, oFor_t, oFor_f, x_for, step_1, step_2, fin_rt, isNul, eEnv, List.map_cons, List.map_nil, Option.map_some, Option.map_none, er, ers, getS, setS, Bool.and_true, Bool.true_and, Bool.and_false, Bool.false_and, Bool.or_false, Bool.false_or, Bool.or_true, Bool.true_or, Bool.not_true, Bool.not_false, hdl, hrng]
  generalize hb : stepF (callO tab gt (n + 1)) gt [2] _ = body
  obtain ⟨Γ', e, os, s2, hop, hol, rfl⟩ := forL_rel (f := body) (fun (k : Nat) => PyData.int ((2 + k * 2 : Nat) : Int)) (fun i Γ => ∃ (os : List Int) (s2 : Option O), (∀ o ∈ os, 0 ≤ o) ∧ os.length ≤ 12 * i ∧ Γ = [some (.sh (dI vs)), some (oI os), s2]) (List.range mr) 0 [some (.sh (dI vs)), some (.lst []), none] ⟨[], none, fun _ h => (by cases h), Nat.zero_le _, rfl⟩ (by
    rintro j Γ k hj ⟨os, s2, hop, hol, rfl⟩
    obtain ⟨rfl, hjn⟩ := range_at hj
    rw [Nat.zero_add] at hol ⊢
    have hk := hmr k hjn
    obtain ⟨v, hv⟩ : ∃ v, vs[2 + k * 2]? = some v := ⟨_, List.getElem?_eq_getElem hk⟩
    obtain ⟨ds, hdl, hdp, hds⟩ := digits_ok (gt := gt) h73 n (hpos v (List.mem_of_getElem? hv)) (show (0 : Int) < 840 by decide) (by decide)
    have hbin : oBin .add (.ok (.sh (dI os))) (.ok (oI ds)) = .ok (oI (os ++ ds)) := by
      rw [bin_cat (x := .sh (dI os)) (y := oI ds) (a := os.map PyData.int) (b := ds.map PyData.int) rfl (er_oI ds) (by rw [List.length_map, List.length_map, sizeLine_eq]; omega)]
      rw [← List.map_append, oI_shl]
    subst hb
    simp -implicitDefEqProofs only [xs_nil, xs_cons, then_nx, then_rt, then_bk, x_asg, oAsg_1, oAsg_t2, oAsg_s2, x_ret, oRet_ok, x_ite, oIte_t, oIte_f, x_pass, x_brk, kO_int, kO_bool, kO_none, kO_str, o_var, o_con, o_bin, o_neg, o_cmp, o_chain, o_not, o_and, o_or, o_idx, o_cut, o_call, o_bi, o_mt, o_isi, o_comp, o_dnew, os_nil, os_cons, oSeq_ok, oPre_ok, o_lst, o_tup, oLst_0, oLst_1, oLst_2, oLst_3, oTup_2, oTup_3, e_var, e_mv, oVar_some, e_con, e_bin, bin_add, bin_sub, bin_xor, e_neg, oNeg_ok, e_cmp, cmp_lt, cmp_le, cmp_gt, cmp_ge, cmp_eqI, cmp_neI, dec_N, cmp_isN_int, cmp_isN_none, cmp_notN_int, cmp_notN_none, e_chain, chain_lelt, e_not, oNot_ok, oB_ok, e_and, e_or, a_nil, a_cons, r_nil, r_cons, oAnd_f, oAnd_t, oAnd_ok, oOr_f, oOr_t, oOr_ok, e_idx, e_cut, part_t, part_f, s_nil, s_cons, oCons_ok, e_lst, e_tup, oL_0, oL_1, oL_2, oL_3, oL_4, oT_2, oT_3, okB_bind, e_call, oCall_ok, e_calld, oCalld_ok, o_calld, e_revl, o_revl, e_bi, e_mt, e_isi, oIsi_1, e_lset, i_ls, i_rng, oFor_t, oFor_f, x_for, step_1, step_2, fin_rt, isNul, eEnv, List.map_cons, List.map_nil, Option.map_some, Option.map_none, er, ers, getS, setS, Bool.and_true, Bool.true_and, Bool.and_false, Bool.false_and, Bool.or_false, Bool.false_or, Bool.or_true, Bool.true_or, Bool.not_true, Bool.not_false, er_oI, idx_dI hv, hds, hbin, kO_oI]
    refine ⟨_, rfl, os ++ ds, some (.sh (.int ((2 + k * 2 : Nat) : Int))), fun o ho => ?_, by rw [List.length_append]; omega, rfl⟩
    rcases List.mem_append.mp ho with z | z
    · exact hop o z
    · exact hdp o z)
  rw [e]
  refine ⟨os, hop, ?_⟩
  simp -implicitDefEqProofs only [xs_nil, xs_cons, then_nx, then_rt, then_bk, x_asg, oAsg_1, oAsg_t2, oAsg_s2, x_ret, oRet_ok, x_ite, oIte_t, oIte_f, x_pass, x_brk, kO_int, kO_bool, kO_none, kO_str, o_var, o_con, o_bin, o_neg, o_cmp, o_chain, o_not, o_and, o_or, o_idx, o_cut, o_call, o_bi, o_mt, o_isi, o_comp, o_dnew, os_nil, os_cons, oSeq_ok, oPre_ok, o_lst, o_tup, oLst_0, oLst_1, oLst_2, oLst_3, oTup_2, oTup_3, e_var, e_mv, oVar_some, e_con, e_bin, bin_add, bin_sub, bin_xor, e_neg, oNeg_ok, e_cmp, cmp_lt, cmp_le, cmp_gt, cmp_ge, cmp_eqI, cmp_neI, dec_N, cmp_isN_int, cmp_isN_none, cmp_notN_int, cmp_notN_none, e_chain, chain_lelt, e_not, oNot_ok, oB_ok, e_and, e_or, a_nil, a_cons, r_nil, r_cons, oAnd_f, oAnd_t, oAnd_ok, oOr_f, oOr_t, oOr_ok, e_idx, e_cut, part_t, part_f, s_nil, s_cons, oCons_ok, e_lst, e_tup, oL_0, oL_1, oL_2, oL_3, oL_4, oT_2, oT_3, okB_bind, e_call, oCall_ok, e_calld, oCalld_ok, o_calld, e_revl, o_revl, e_bi, e_mt, e_isi, oIsi_1, e_lset, i_ls, i_rng, oFor_t, oFor_f, x_for, step_1, step_2, fin_rt, isNul, eEnv, List.map_cons, List.map_nil, Option.map_some, Option.map_none, er, ers, getS, setS, Bool.and_true, Bool.true_and, Bool.and_false, Bool.false_and, Bool.or_false, Bool.false_or, Bool.or_true, Bool.true_or, Bool.not_true, Bool.not_false, o_mvG, oMv_I]
end
end Rp

set_option Elab.async false
set_option linter.all false
set_option maxRecDepth 100000
set_option maxHeartbeats 4000000
/-! RpK17: popped out in any order. -/
namespace Rp
open PySem Rp.T Rg

theorem cut_take {α : Type} (xs : List α) (k : Nat) : cutD xs none (some (k : Int)) = xs.take k := by
  unfold cutD
  rw [HT.sIx_none, HT.sIx_nat, List.drop_zero, Nat.sub_zero, ← List.take_eq_take_min]
theorem cut_drop {α : Type} (xs : List α) (k : Nat) : cutD xs (some (k : Int)) none = xs.drop k := by
  unfold cutD
  rw [HT.sIx_none, HT.sIx_nat]
  by_cases h : k ≤ xs.length
  · rw [Nat.min_eq_left h, List.take_of_length_le (by rw [List.length_drop]; exact Nat.le_refl _)]
  · rw [Nat.min_eq_right (by omega), List.drop_of_length_le (Nat.le_refl _), List.drop_of_length_le (by omega)]
    simp
/-- whom a place of a ring leads to -/
def sc (r : List Nat) (i : Nat) : Nat := ((r ++ r.take 1)[r.idxOf i + 1]?).getD 0
def sucs (i : Nat) (rs : List (List Nat)) : List Nat := rs.flatMap fun r => if i ∈ r then [sc r i] else []
theorem sc_at {r : List Nat} {i : Nat} (h : i ∈ r) : (r ++ r.take 1)[r.idxOf i + 1]? = some (sc r i) := by
  have hl : r.idxOf i < r.length := List.idxOf_lt_length_of_mem h
  have : r.idxOf i + 1 < (r ++ r.take 1).length := by
    rw [List.length_append, List.length_take]
    omega
  unfold sc
  rw [List.getElem?_eq_getElem this]
  rfl
theorem sc_nx {ts : Tops} (ok : Ok ts) {r : List Nat} (hr : r ∈ rings ts) {i : Nat} (h : i ∈ r) : nx ts i = some (sc r i) := by
  obtain ⟨h1, h2, h3, h4⟩ := ring_facts ok hr
  have hl : r.idxOf i < r.length := List.idxOf_lt_length_of_mem h
  have e1 : (r.map (nx ts))[r.idxOf i]? = some (nx ts i) := by
    rw [List.getElem?_map, List.getElem?_eq_getElem hl]
    simp
  rw [h4, List.getElem?_map] at e1
  have e2 : (r.drop 1 ++ r.take 1)[r.idxOf i]? = (r ++ r.take 1)[r.idxOf i + 1]? := by
    obtain ⟨a, l, rfl⟩ := List.exists_cons_of_ne_nil h1
    simp
  rw [e2, sc_at h] at e1
  simpa using e1.symm
theorem top_pile {ps : Piles} (ok : POk ps) {r : List Nat} (hr : r ∈ rings (tops ps)) {i : Nat} (h : i ∈ r) : pile ps i = sc r i :: (pile ps i).tail := by
  have := sc_nx ok.tops hr h
  rw [nx_tops] at this
  cases q : pile ps i with
  | nil => rw [q] at this; cases this
  | cons a l =>
    rw [q] at this
    simp at this
    subst this
    rfl
/-- what went off a pile is what its rings tell -/
theorem sucs_pile : ∀ (rs : List (List Nat)) {ps : Piles}, POk ps → Legal ps rs → ∀ i, sucs i rs ++ pile (after ps rs) i = pile ps i
  | [], ps, _, _, i => rfl
  | r :: rs, ps, ok, h, i => by
    have ih := sucs_pile rs (ok.pop r) h.2 i
    show (sucs i (r :: rs)) ++ pile (after (popR ps r) rs) i = _
    have e : sucs i (r :: rs) = (if i ∈ r then [sc r i] else []) ++ sucs i rs := rfl
    rw [e, List.append_assoc, ih, pop_pile]
    by_cases hi : i ∈ r
    · rw [if_pos hi, if_pos hi]
      exact (top_pile ok h.1 hi).symm
    · rw [if_neg hi, if_neg hi]
      rfl
theorem sucs_len (i : Nat) (rs : List (List Nat)) : (sucs i rs).length ≤ rs.length := by
  induction rs with
  | nil => exact Nat.le_refl _
  | cons r rs ih =>
    have e : sucs i (r :: rs) = (if i ∈ r then [sc r i] else []) ++ sucs i rs := rfl
    rw [e, List.length_append, List.length_cons]
    split <;> simp <;> omega
theorem find_N {l : List Nat} {i : Nat} (h : i ∈ l) : find (.int (i : Nat)) (l.map fun (k : Nat) => PyData.int k) = some (l.idxOf i) := by
  induction l with
  | nil => cases h
  | cons a l ih =>
    simp -implicitDefEqProofs only [List.map_cons, find, eqv_int, dec_N, List.idxOf_cons]
    by_cases e : a = i
    · subst e; simp
    · have : i ∈ l := by
        rcases List.mem_cons.mp h with z | z
        · exact absurd z.symm e
        · exact z
      rw [ih this]
      have hb : (a == i) = false := by simpa using e
      simp [e, hb]
section
variable {tab : Tab} {gt : Nat → Option D} {Γ : En} {γ : Env0} {Φ : Nat → List O → Res O}
theorem oCut_take1 (r : List Nat) : oCut (.ok (.sh (dN r))) (.ok none) (.ok (some 1)) = .ok (oN (r.take 1)) := by
  rw [oCut_ok (x := .sh (dN r)) (ds := r.map fun (k : Nat) => PyData.int k) rfl, show (some 1 : Option Int) = some ((1 : Nat) : Int) from rfl, cut_take, ← List.map_take, oN_shl]
theorem oCut_drop1 (r : List Nat) : oCut (.ok (.sh (dN r))) (.ok (some 1)) (.ok none) = .ok (oN (r.drop 1)) := by
  rw [oCut_ok (x := .sh (dN r)) (ds := r.map fun (k : Nat) => PyData.int k) rfl, show (some 1 : Option Int) = some ((1 : Nat) : Int) from rfl, cut_drop, ← List.map_drop, oN_shl]
theorem cat_N {x y : O} {a b : List Nat} (hx : er x = dN a) (hy : er y = dN b) (h : a.length + b.length ≤ sizeLine) : oBin .add (.ok x) (.ok y) = .ok (oN (a ++ b)) := by
  rw [bin_cat (a := a.map fun (k : Nat) => PyData.int k) (b := b.map fun (k : Nat) => PyData.int k) hx hy (by rw [List.length_map, List.length_map]; exact h), ← List.map_append, oN_shl]
theorem idx_N {x : O} {l : List Nat} {j k : Nat} (hx : er x = dN l) (h : l[j]? = some k) : oIdx (.ok x) (.ok (.sh (.int (j : Nat)))) = .ok (.sh (.int (k : Nat))) := by
  have hl := (List.getElem?_eq_some_iff.mp h)
  refine idx_ok ?_
  rw [hx]
  have := dix_N (l := l) (j := j) hl.1
  rw [hl.2] at this
  exact this
theorem mt_index {l : List Nat} {i : Nat} (h : i ∈ l) : oMt .index (.ok (.sh (dN l))) (.ok [.sh (.int (i : Nat))]) = .ok (.sh (.int (l.idxOf i : Nat))) := by
  have hs := sh_N l
  simp -implicitDefEqProofs only [dN] at hs ⊢
  simp -implicitDefEqProofs only [oMt, Res.bind_ok, er, ers, mtOk, if_true, mtf, sh_int, hs, Bool.and_self, find_N h, Option.map_some, Res.of_some]
theorem oMu_N (m : Mu) (x : Nat) (l : List Nat) (s : Res (List O × En)) : oMu m x (some (oN l)) s = oMut m x [] s := rfl
theorem oAp_N {x k : Nat} {l : List Nat} (h : l.length < sizeLine) : oAp x (.sh (.int (k : Nat))) (some (oN l)) Γ = .nx (setS Γ x (some (oN (l ++ [k])))) := by
  unfold oN
  rw [oAp_lst (by rw [List.length_map]; exact h)]
  simp
theorem cmp_neN_self {x y : O} {l : List Nat} (hx : er x = dN l) (hy : er y = dN l) : oCmp .ne (.ok x) (.ok y) = .ok (.sh (.bool false)) := by
  refine cmp_ok ?_
  rw [hx, hy]
  simp -implicitDefEqProofs only [cop, sh_N, Bool.and_self, if_true, eqv_N, Bool.not_true]
theorem gone_ok (h : tab 77 = some f77) (n : Nat) {ps : Piles} {rs : List (List Nat)} (ok : POk ps) (hl : ps.length ≤ 1000) (lg : Legal ps rs) (hr : rs.length ≤ 1000) (hp : ∀ i, (pile ps i).length ≤ 1000) : callF tab gt (n + 1) 77 [dPs ps, .list (rs.map dN), dPs (after ps rs)] = .ok (.sh (.bool true)) := by
  rw [callF_go h _ _ rfl]
  have hlp : oBi .len (.ok [.sh (dPs ps)]) = .ok (.sh (.int (ps.length : Nat))) := len_LN ps
  simp -implicitDefEqProofs only [f77, start, List.length_cons, List.length_nil, List.replicate, Nat.sub_self, Nat.reduceAdd, Nat.reduceSub, List.cons_append, List.nil_append, xs_nil, xs_cons, then_nx, then_rt, then_bk, x_asg, oAsg_1, oAsg_t2, oAsg_s2, x_ret, oRet_ok, x_ite, oIte_t, oIte_f, x_pass, x_brk, kO_int, kO_bool, kO_none, kO_str, o_var, o_con, o_bin, o_neg, o_cmp, o_chain, o_not, o_and, o_or, o_idx, o_cut, o_call, o_bi, o_mt, o_isi, o_comp, o_dnew, os_nil, os_cons, oSeq_ok, oPre_ok, o_lst, o_tup, oLst_0, oLst_1, oLst_2, oLst_3, oTup_2, oTup_3, e_var, e_mv, oVar_some, e_con, e_bin, bin_add, bin_sub, bin_xor, e_neg, oNeg_ok, e_cmp, cmp_lt, cmp_le, cmp_gt, cmp_ge, cmp_eqI, cmp_neI, dec_N, cmp_isN_int, cmp_isN_none, cmp_notN_int, cmp_notN_none, e_chain, chain_lelt, e_not, oNot_ok, oB_ok, e_and, e_or, a_nil, a_cons, r_nil, r_cons, oAnd_f, oAnd_t, oAnd_ok, oOr_f, oOr_t, oOr_ok, e_idx, e_cut, part_t, part_f, s_nil, s_cons, oCons_ok, e_lst, e_tup, oL_0, oL_1, oL_2, oL_3, oL_4, oT_2, oT_3, okB_bind, e_call, oCall_ok, e_calld, oCalld_ok, o_calld, e_revl, o_revl, e_bi, e_mt, e_isi, oIsi_1, e_lset, i_ls, i_rng, oFor_t, oFor_f, x_for, step_1, step_2, fin_rt, isNul, eEnv, List.map_cons, List.map_nil, Option.map_some, Option.map_none, er, ers, getS, setS, Bool.and_true, Bool.true_and, Bool.and_false, Bool.false_and, Bool.or_false, Bool.false_or, Bool.or_true, Bool.true_or, Bool.not_true, Bool.not_false, hlp, rng_n (show ps.length ≤ 1000000 by omega)]
  generalize hb : stepF (callO tab gt n) gt [3] _ = body
  obtain ⟨Γ', e, s3, s4, s5, rfl⟩ := forL_rel (f := body) (fun (k : Nat) => PyData.int k) (fun i Γ => ∃ (s3 s4 s5 : Option O), Γ = [some (.sh (dPs ps)), some (.sh (.list (rs.map dN))), some (.sh (dPs (after ps rs))), s3, s4, s5]) (List.range ps.length) 0 [some (.sh (dPs ps)), some (.sh (.list (rs.map dN))), some (.sh (dPs (after ps rs))), none, none, none] ⟨none, none, none, rfl⟩ (by
    rintro j Γ i hj ⟨s3, s4, s5, rfl⟩
    obtain ⟨rfl, hjn⟩ := range_at hj
    have hls : oLsI (.ok (.sh (.list (rs.map dN)))) = .ok (rs.map dN, false) := oLsI_ok rfl
    subst hb
    simp -implicitDefEqProofs only [xs_nil, xs_cons, then_nx, then_rt, then_bk, x_asg, oAsg_1, oAsg_t2, oAsg_s2, x_ret, oRet_ok, x_ite, oIte_t, oIte_f, x_pass, x_brk, kO_int, kO_bool, kO_none, kO_str, o_var, o_con, o_bin, o_neg, o_cmp, o_chain, o_not, o_and, o_or, o_idx, o_cut, o_call, o_bi, o_mt, o_isi, o_comp, o_dnew, os_nil, os_cons, oSeq_ok, oPre_ok, o_lst, o_tup, oLst_0, oLst_1, oLst_2, oLst_3, oTup_2, oTup_3, e_var, e_mv, oVar_some, e_con, e_bin, bin_add, bin_sub, bin_xor, e_neg, oNeg_ok, e_cmp, cmp_lt, cmp_le, cmp_gt, cmp_ge, cmp_eqI, cmp_neI, dec_N, cmp_isN_int, cmp_isN_none, cmp_notN_int, cmp_notN_none, e_chain, chain_lelt, e_not, oNot_ok, oB_ok, e_and, e_or, a_nil, a_cons, r_nil, r_cons, oAnd_f, oAnd_t, oAnd_ok, oOr_f, oOr_t, oOr_ok, e_idx, e_cut, part_t, part_f, s_nil, s_cons, oCons_ok, e_lst, e_tup, oL_0, oL_1, oL_2, oL_3, oL_4, oT_2, oT_3, okB_bind, e_call, oCall_ok, e_calld, oCalld_ok, o_calld, e_revl, o_revl, e_bi, e_mt, e_isi, oIsi_1, e_lset, i_ls, i_rng, oFor_t, oFor_f, x_for, step_1, step_2, fin_rt, isNul, eEnv, List.map_cons, List.map_nil, Option.map_some, Option.map_none, er, ers, getS, setS, Bool.and_true, Bool.true_and, Bool.and_false, Bool.false_and, Bool.or_false, Bool.false_or, Bool.or_true, Bool.true_or, Bool.not_true, Bool.not_false, hls, frz, srcsI, srcs]
    generalize hb2 : stepF (callO tab gt n) gt [5] _ = body2
    obtain ⟨Γ2, e2, s52, rfl⟩ := forL_rel (f := body2) dN (fun k Γ => ∃ (s5 : Option O), Γ = [some (.sh (dPs ps)), some (.sh (.list (rs.map dN))), some (.sh (dPs (after ps rs))), some (.sh (.int (i : Nat))), some (oN (sucs i (rs.take k))), s5]) rs 0 [some (.sh (dPs ps)), some (.sh (.list (rs.map dN))), some (.sh (dPs (after ps rs))), some (.sh (.int (i : Nat))), some (.lst []), s5] ⟨s5, rfl⟩ (by
      rintro k Γ r hk ⟨s5, rfl⟩
      rw [Nat.zero_add]
      have hkl := (List.getElem?_eq_some_iff.mp hk).1
      have hin := cmp_in_N i (x := .sh (dN r)) (l := r) rfl
      have hstep : sucs i (rs.take (k + 1)) = sucs i (rs.take k) ++ (if i ∈ r then [sc r i] else []) := by
        rw [List.take_add_one, hk]
        simp [sucs]
      have hz : (sucs i (rs.take k)).length < sizeLine := by
        have := sucs_len i (rs.take k)
        rw [List.length_take] at this
        exact small_sz (by omega)
      obtain ⟨ndr, hlr, hnr⟩ := Legal.nodup ok lg r (List.mem_of_getElem? hk)
      have hrl : r.length ≤ 1000 := by
        have := nodup_le ndr hlr
        omega
      subst hb2
      simp -implicitDefEqProofs only [xs_nil, xs_cons, then_nx, then_rt, then_bk, x_asg, oAsg_1, oAsg_t2, oAsg_s2, x_ret, oRet_ok, x_ite, oIte_t, oIte_f, x_pass, x_brk, kO_int, kO_bool, kO_none, kO_str, o_var, o_con, o_bin, o_neg, o_cmp, o_chain, o_not, o_and, o_or, o_idx, o_cut, o_call, o_bi, o_mt, o_isi, o_comp, o_dnew, os_nil, os_cons, oSeq_ok, oPre_ok, o_lst, o_tup, oLst_0, oLst_1, oLst_2, oLst_3, oTup_2, oTup_3, e_var, e_mv, oVar_some, e_con, e_bin, bin_add, bin_sub, bin_xor, e_neg, oNeg_ok, e_cmp, cmp_lt, cmp_le, cmp_gt, cmp_ge, cmp_eqI, cmp_neI, dec_N, cmp_isN_int, cmp_isN_none, cmp_notN_int, cmp_notN_none, e_chain, chain_lelt, e_not, oNot_ok, oB_ok, e_and, e_or, a_nil, a_cons, r_nil, r_cons, oAnd_f, oAnd_t, oAnd_ok, oOr_f, oOr_t, oOr_ok, e_idx, e_cut, part_t, part_f, s_nil, s_cons, oCons_ok, e_lst, e_tup, oL_0, oL_1, oL_2, oL_3, oL_4, oT_2, oT_3, okB_bind, e_call, oCall_ok, e_calld, oCalld_ok, o_calld, e_revl, o_revl, e_bi, e_mt, e_isi, oIsi_1, e_lset, i_ls, i_rng, oFor_t, oFor_f, x_for, step_1, step_2, fin_rt, isNul, eEnv, List.map_cons, List.map_nil, Option.map_some, Option.map_none, er, ers, getS, setS, Bool.and_true, Bool.true_and, Bool.and_false, Bool.false_and, Bool.or_false, Bool.false_or, Bool.or_true, Bool.true_or, Bool.not_true, Bool.not_false, hin]
      by_cases hi : i ∈ r
      · have hcat : oBin .add (.ok (.sh (dN r))) (.ok (oN (r.take 1))) = .ok (oN (r ++ r.take 1)) := cat_N rfl (er_oN _) (by rw [sizeLine_eq, List.length_take]; omega)
        have hix : oIdx (.ok (oN (r ++ r.take 1))) (.ok (.sh (.int ((r.idxOf i : Nat) + 1)))) = .ok (.sh (.int (sc r i : Nat))) := by
          have := idx_N (x := oN (r ++ r.take 1)) (j := r.idxOf i + 1) (er_oN _) (sc_at hi)
          simpa using this
        simp -implicitDefEqProofs only [hi, decide_true, xs_nil, xs_cons, then_nx, then_rt, then_bk, x_asg, oAsg_1, oAsg_t2, oAsg_s2, x_ret, oRet_ok, x_ite, oIte_t, oIte_f, x_pass, x_brk, kO_int, kO_bool, kO_none, kO_str, o_var, o_con, o_bin, o_neg, o_cmp, o_chain, o_not, o_and, o_or, o_idx, o_cut, o_call, o_bi, o_mt, o_isi, o_comp, o_dnew, os_nil, os_cons, oSeq_ok, oPre_ok, o_lst, o_tup, oLst_0, oLst_1, oLst_2, oLst_3, oTup_2, oTup_3, e_var, e_mv, oVar_some, e_con, e_bin, bin_add, bin_sub, bin_xor, e_neg, oNeg_ok, e_cmp, cmp_lt, cmp_le, cmp_gt, cmp_ge, cmp_eqI, cmp_neI, dec_N, cmp_isN_int, cmp_isN_none, cmp_notN_int, cmp_notN_none, e_chain, chain_lelt, e_not, oNot_ok, oB_ok, e_and, e_or, a_nil, a_cons, r_nil, r_cons, oAnd_f, oAnd_t, oAnd_ok, oOr_f, oOr_t, oOr_ok, e_idx, e_cut, part_t, part_f, s_nil, s_cons, oCons_ok, e_lst, e_tup, oL_0, oL_1, oL_2, oL_3, oL_4, oT_2, oT_3, okB_bind, e_call, oCall_ok, e_calld, oCalld_ok, o_calld, e_revl, o_revl, e_bi, e_mt, e_isi, oIsi_1, e_lset, i_ls, i_rng, oFor_t, oFor_f, x_for, step_1, step_2, fin_rt, isNul, eEnv, List.map_cons, List.map_nil, Option.map_some, Option.map_none, er, ers, getS, setS, Bool.and_true, Bool.true_and, Bool.and_false, Bool.false_and, Bool.or_false, Bool.false_or, Bool.or_true, Bool.true_or, Bool.not_true, Bool.not_false, x_app, oMu_N, oCut_take1, hcat, mt_index hi, hix, oMut_app, oAp_N hz]
        refine ⟨_, rfl, some (.sh (dN r)), ?_⟩
        rw [hstep, if_pos hi]
      · simp -implicitDefEqProofs only [hi, decide_false, xs_nil, xs_cons, then_nx, then_rt, then_bk, x_asg, oAsg_1, oAsg_t2, oAsg_s2, x_ret, oRet_ok, x_ite, oIte_t, oIte_f, x_pass, x_brk, kO_int, kO_bool, kO_none, kO_str, o_var, o_con, o_bin, o_neg, o_cmp, o_chain, o_not, o_and, o_or, o_idx, o_cut, o_call, o_bi, o_mt, o_isi, o_comp, o_dnew, os_nil, os_cons, oSeq_ok, oPre_ok, o_lst, o_tup, oLst_0, oLst_1, oLst_2, oLst_3, oTup_2, oTup_3, e_var, e_mv, oVar_some, e_con, e_bin, bin_add, bin_sub, bin_xor, e_neg, oNeg_ok, e_cmp, cmp_lt, cmp_le, cmp_gt, cmp_ge, cmp_eqI, cmp_neI, dec_N, cmp_isN_int, cmp_isN_none, cmp_notN_int, cmp_notN_none, e_chain, chain_lelt, e_not, oNot_ok, oB_ok, e_and, e_or, a_nil, a_cons, r_nil, r_cons, oAnd_f, oAnd_t, oAnd_ok, oOr_f, oOr_t, oOr_ok, e_idx, e_cut, part_t, part_f, s_nil, s_cons, oCons_ok, e_lst, e_tup, oL_0, oL_1, oL_2, oL_3, oL_4, oT_2, oT_3, okB_bind, e_call, oCall_ok, e_calld, oCalld_ok, o_calld, e_revl, o_revl, e_bi, e_mt, e_isi, oIsi_1, e_lset, i_ls, i_rng, oFor_t, oFor_f, x_for, step_1, step_2, fin_rt, isNul, eEnv, List.map_cons, List.map_nil, Option.map_some, Option.map_none, er, ers, getS, setS, Bool.and_true, Bool.true_and, Bool.and_false, Bool.false_and, Bool.or_false, Bool.false_or, Bool.or_true, Bool.true_or, Bool.not_true, Bool.not_false]
        refine ⟨_, rfl, some (.sh (dN r)), ?_⟩
        rw [hstep, if_neg hi, List.append_nil])
    rw [e2, Nat.zero_add, List.take_length]
    have hla : i < (after ps rs).length := by rw [after_len]; exact hjn
    have hsp := sucs_pile rs ok lg i
    have hcat : oBin .add (.ok (.sh (dN (sucs i rs)))) (.ok (.sh (dN (pile (after ps rs) i)))) = .ok (oN (pile ps i)) := by
      rw [cat_N (x := .sh (dN (sucs i rs))) (y := .sh (dN (pile (after ps rs) i))) rfl rfl (by rw [← List.length_append, hsp, sizeLine_eq]; have := hp i; omega), hsp]
    have hne : oCmp .ne (.ok (oN (pile ps i))) (.ok (.sh (dN (pile ps i)))) = .ok (.sh (.bool false)) := cmp_neN_self (er_oN _) rfl
    simp -implicitDefEqProofs only [xs_nil, xs_cons, then_nx, then_rt, then_bk, x_asg, oAsg_1, oAsg_t2, oAsg_s2, x_ret, oRet_ok, x_ite, oIte_t, oIte_f, x_pass, x_brk, kO_int, kO_bool, kO_none, kO_str, o_var, o_con, o_bin, o_neg, o_cmp, o_chain, o_not, o_and, o_or, o_idx, o_cut, o_call, o_bi, o_mt, o_isi, o_comp, o_dnew, os_nil, os_cons, oSeq_ok, oPre_ok, o_lst, o_tup, oLst_0, oLst_1, oLst_2, oLst_3, oTup_2, oTup_3, e_var, e_mv, oVar_some, e_con, e_bin, bin_add, bin_sub, bin_xor, e_neg, oNeg_ok, e_cmp, cmp_lt, cmp_le, cmp_gt, cmp_ge, cmp_eqI, cmp_neI, dec_N, cmp_isN_int, cmp_isN_none, cmp_notN_int, cmp_notN_none, e_chain, chain_lelt, e_not, oNot_ok, oB_ok, e_and, e_or, a_nil, a_cons, r_nil, r_cons, oAnd_f, oAnd_t, oAnd_ok, oOr_f, oOr_t, oOr_ok, e_idx, e_cut, part_t, part_f, s_nil, s_cons, oCons_ok, e_lst, e_tup, oL_0, oL_1, oL_2, oL_3, oL_4, oT_2, oT_3, okB_bind, e_call, oCall_ok, e_calld, oCalld_ok, o_calld, e_revl, o_revl, e_bi, e_mt, e_isi, oIsi_1, e_lset, i_ls, i_rng, oFor_t, oFor_f, x_for, step_1, step_2, fin_rt, isNul, eEnv, List.map_cons, List.map_nil, Option.map_some, Option.map_none, er, ers, getS, setS, Bool.and_true, Bool.true_and, Bool.and_false, Bool.false_and, Bool.or_false, Bool.false_or, Bool.or_true, Bool.true_or, Bool.not_true, Bool.not_false, er_oN, idx_Ps hjn, idx_Ps hla, hcat, hne]
    exact ⟨_, rfl, _, _, _, rfl⟩)
  rw [e]
  simp -implicitDefEqProofs only [xs_nil, xs_cons, then_nx, then_rt, then_bk, x_asg, oAsg_1, oAsg_t2, oAsg_s2, x_ret, oRet_ok, x_ite, oIte_t, oIte_f, x_pass, x_brk, kO_int, kO_bool, kO_none, kO_str, o_var, o_con, o_bin, o_neg, o_cmp, o_chain, o_not, o_and, o_or, o_idx, o_cut, o_call, o_bi, o_mt, o_isi, o_comp, o_dnew, os_nil, os_cons, oSeq_ok, oPre_ok, o_lst, o_tup, oLst_0, oLst_1, oLst_2, oLst_3, oTup_2, oTup_3, e_var, e_mv, oVar_some, e_con, e_bin, bin_add, bin_sub, bin_xor, e_neg, oNeg_ok, e_cmp, cmp_lt, cmp_le, cmp_gt, cmp_ge, cmp_eqI, cmp_neI, dec_N, cmp_isN_int, cmp_isN_none, cmp_notN_int, cmp_notN_none, e_chain, chain_lelt, e_not, oNot_ok, oB_ok, e_and, e_or, a_nil, a_cons, r_nil, r_cons, oAnd_f, oAnd_t, oAnd_ok, oOr_f, oOr_t, oOr_ok, e_idx, e_cut, part_t, part_f, s_nil, s_cons, oCons_ok, e_lst, e_tup, oL_0, oL_1, oL_2, oL_3, oL_4, oT_2, oT_3, okB_bind, e_call, oCall_ok, e_calld, oCalld_ok, o_calld, e_revl, o_revl, e_bi, e_mt, e_isi, oIsi_1, e_lset, i_ls, i_rng, oFor_t, oFor_f, x_for, step_1, step_2, fin_rt, isNul, eEnv, List.map_cons, List.map_nil, Option.map_some, Option.map_none, er, ers, getS, setS, Bool.and_true, Bool.true_and, Bool.and_false, Bool.false_and, Bool.or_false, Bool.false_or, Bool.or_true, Bool.true_or, Bool.not_true, Bool.not_false]
/-! the law -/
def oRevI (r : Res O) : Res (List D × Bool) := r.bind fun x => (Res.of (revD (er x))).bind fun ds => .ok (ds, false)
theorem i_rev (a : Ex) : evI Φ gt γ (.rev a) = oRevI (ev Φ gt γ a) := by simp -implicitDefEqProofs only [evI]; rfl
theorem oRevI_ok {x : O} {ds : List D} (h : er x = .list ds) : oRevI (.ok x) = .ok (ds.reverse, false) := by simp -implicitDefEqProofs only [oRevI, Res.bind_ok, h, revD, Res.of_some]
theorem clean_pop (rs : List (List Nat)) (qs : Piles) : clean (.tup [.lst (rs.map oN), oPs qs]) = true := by
  simp -implicitDefEqProofs only [clean, cleans, cleans_N, clean_oPs, Bool.and_true]
theorem kO_pop (e : Ex) (rs : List (List Nat)) (qs : Piles) : kO e Γ (.ok (.tup [.lst (rs.map oN), oPs qs])) = .ok (.tup [.lst (rs.map oN), oPs qs], Γ) := kO_ok e (clean_pop rs qs)
theorem cleans_Ms (ls : List (List (Nat × Nat))) : cleans (ls.map oMs) = true := by
  induction ls with
  | nil => rfl
  | cons l ls ih => simp -implicitDefEqProofs only [List.map_cons, cleans, clean_oMs, ih, Bool.and_true]
theorem kO_MM (e : Ex) (ls : List (List (Nat × Nat))) : kO e Γ (.ok (.lst (ls.map oMs))) = .ok (.lst (ls.map oMs), Γ) := kO_ok e (by simp -implicitDefEqProofs only [clean, cleans_Ms])
theorem lay_MM (ls : List (List (Nat × Nat))) : PyData.canLayAll0 (ls.map dMs) = true := by
  induction ls with
  | nil => simp [PyData.canLayAll0]
  | cons l ls ih => rw [List.map_cons, PyData.canLayAll0, ih, dMs, PyData.canLay0, lay_Ms]; rfl
theorem depth_MM (ls : List (List (Nat × Nat))) : PyData.depthAll (ls.map dMs) ≤ 2 := by
  induction ls with
  | nil => simp [PyData.depthAll]
  | cons l ls ih =>
    rw [List.map_cons, PyData.depthAll, dMs, PyData.depth]
    have := depth_Ms l
    omega
theorem sh_MM (ls : List (List (Nat × Nat))) : shaped (.list (ls.map dMs)) = true := by
  have := depth_MM ls
  unfold shaped SeqAt.shaped
  rw [PyData.canLay0, lay_MM, PyData.depth, Bool.true_and, decide_eq_true_eq]
  omega
theorem alike_MM (ls : List (List (Nat × Nat))) : PySem.W.alikeAll (ls.map dMs) (ls.map dMs) = true := by
  induction ls with
  | nil => simp [PySem.W.alikeAll]
  | cons l ls ih => rw [List.map_cons, PySem.W.alikeAll, alike_dMs, ih]; rfl
theorem eqv_MM (ls : List (List (Nat × Nat))) : PyData.eqv (.list (ls.map dMs)) (.list (ls.map dMs)) = true := eqv_self (by rw [PySem.W.alike]; exact alike_MM ls)
theorem cmp_neMM {x y : O} {ls : List (List (Nat × Nat))} (hx : er x = .list (ls.map dMs)) (hy : er y = .list (ls.map dMs)) : oCmp .ne (.ok x) (.ok y) = .ok (.sh (.bool false)) := by
  refine cmp_ok ?_
  rw [hx, hy]
  simp -implicitDefEqProofs only [cop, sh_MM, Bool.and_self, if_true, eqv_MM, Bool.not_true]
theorem er_MM (ls : List (List (Nat × Nat))) : er (.lst (ls.map oMs)) = .list (ls.map dMs) := by simp -implicitDefEqProofs only [er, ers_Ms]
/-- facts of legal pops of drawn piles -/
theorem PFit.rs {ps : Piles} (h : PFit ps) {rs : List (List Nat)} (lg : Legal ps rs) : rs.length ≤ 1000 ∧ ∀ r ∈ rs, r.Nodup ∧ r.length ≤ 100 := by
  have h1 := legal_size rs h.ok lg
  have h2 := h.size
  refine ⟨by omega, fun r hr => ?_⟩
  obtain ⟨a, b, c⟩ := Legal.nodup h.ok lg r hr
  have := nodup_le a b
  have := h.most
  exact ⟨a, by omega⟩
theorem PFit.pile40 {ps : Piles} (h : PFit ps) (i : Nat) : (pile ps i).length ≤ 40 := by
  by_cases hi : i < ps.length
  · exact h.h40 _ (pile_mem hi)
  · rw [pile_out (by omega)]
    exact Nat.zero_le _
theorem law17 (h78 : tab 78 = some f78) (h72 : tab 72 = some f72) (h74 : tab 74 = some f74) (h75 : tab 75 = some f75) (h73 : tab 73 = some f73) (h76 : tab 76 = some f76) (h77 : tab 77 = some f77) (h67 : tab 67 = some f67) (h58 : tab 58 = some f58) (h50 : tab 50 = some f50) (h0 : tab 0 = some f0) (h35 : tab 35 = some f35) (h43 : tab 43 = some f43) (h49 : tab 49 = some f49) (h5 : tab 5 = some f5) (h6 : tab 6 = some f6) (n : Nat) {cs : List Int} (hl : cs.length ≤ 63) :
    callF tab gt (n + 4) 78 [.list (cs.map PyData.int)] = .ok (.sh (.bool true)) := by
  rw [callF_go h78 _ _ rfl]
  have p1 : oBin .pow (.ok (.sh (.int 2))) (.ok (.sh (.int 61))) = .ok (.sh (.int 2305843009213693952)) := by rw [bin_pow (by decide)]; rfl
  have i1 : I64 4354685564936845 := ⟨by decide, by decide⟩
  have i2 : I64 1442695040888963407 := ⟨by decide, by decide⟩
  obtain ⟨vs, hvl, hvp, hvs⟩ := numbers_ok (gt := gt) h72 h5 h6 (n + 1) i1 hl
  obtain ⟨ps, fit, hps⟩ := any_ok (gt := gt) h74 h73 (n + 1) (show vs.length ≤ 63 by omega) hvp
  obtain ⟨os, hop, hos⟩ := order_ok (gt := gt) h75 h73 (n + 1) (show vs.length ≤ 63 by omega) hvp
  have hrev : oRevI (.ok (.sh (.list (cs.map PyData.int)))) = .ok (cs.reverse.map PyData.int, false) := by rw [oRevI_ok (x := .sh (.list (cs.map PyData.int))) rfl, ← List.map_reverse]
  simp -implicitDefEqProofs only [f78, start, List.length_cons, List.length_nil, List.replicate, Nat.sub_self, Nat.reduceAdd, Nat.reduceSub, List.cons_append, List.nil_append, xs_nil, xs_cons, then_nx, then_rt, then_bk, x_asg, oAsg_1, oAsg_t2, oAsg_s2, x_ret, oRet_ok, x_ite, oIte_t, oIte_f, x_pass, x_brk, kO_int, kO_bool, kO_none, kO_str, o_var, o_con, o_bin, o_neg, o_cmp, o_chain, o_not, o_and, o_or, o_idx, o_cut, o_call, o_bi, o_mt, o_isi, o_comp, o_dnew, os_nil, os_cons, oSeq_ok, oPre_ok, o_lst, o_tup, oLst_0, oLst_1, oLst_2, oLst_3, oTup_2, oTup_3, e_var, e_mv, oVar_some, e_con, e_bin, bin_add, bin_sub, bin_xor, e_neg, oNeg_ok, e_cmp, cmp_lt, cmp_le, cmp_gt, cmp_ge, cmp_eqI, cmp_neI, dec_N, cmp_isN_int, cmp_isN_none, cmp_notN_int, cmp_notN_none, e_chain, chain_lelt, e_not, oNot_ok, oB_ok, e_and, e_or, a_nil, a_cons, r_nil, r_cons, oAnd_f, oAnd_t, oAnd_ok, oOr_f, oOr_t, oOr_ok, e_idx, e_cut, part_t, part_f, s_nil, s_cons, oCons_ok, e_lst, e_tup, oL_0, oL_1, oL_2, oL_3, oL_4, oT_2, oT_3, okB_bind, e_call, oCall_ok, e_calld, oCalld_ok, o_calld, e_revl, o_revl, e_bi, e_mt, e_isi, oIsi_1, e_lset, i_ls, i_rng, oFor_t, oFor_f, x_for, step_1, step_2, fin_rt, isNul, eEnv, List.map_cons, List.map_nil, Option.map_some, Option.map_none, er, ers, getS, setS, Bool.and_true, Bool.true_and, Bool.and_false, Bool.false_and, Bool.or_false, Bool.false_or, Bool.or_true, Bool.true_or, Bool.not_true, Bool.not_false, hvs, kO_oI, er_oI, hps, kO_oPs, er_oPs, hos, fold_ok h5 (n + 2) i2, i_rev, hrev, frz, srcsI, srcs]
  generalize hb : stepF (callO tab gt (n + 3)) gt [6] _ = body
  obtain ⟨Γ', e, y, ot, s6, hy, hol, rfl⟩ := forL_rel (f := body) PyData.int (fun i Γ => ∃ (y : Int) (ot : List Int) (s6 : Option O), I64 y ∧ ot.length = i ∧ Γ = [some (.sh (.list (cs.map PyData.int))), some (oI vs), some (oPs ps), some (oI os), some (.sh (.int y)), some (oI ot), s6, none, none, none, none, none, none, none, none]) cs.reverse 0
    [some (.sh (.list (cs.map PyData.int))), some (oI vs), some (oPs ps), some (oI os), some (.sh (.int (foldI cs 1442695040888963407))), some (.lst []), none, none, none, none, none, none, none, none, none] ⟨_, [], none, foldI64 cs i2, rfl, rfl⟩ (by
    rintro j Γ c hj ⟨y, ot, s6, hy, hol, rfl⟩
    have hjl := (List.getElem?_eq_some_iff.mp hj).1
    rw [List.length_reverse] at hjl
    have hz : (ot.map fun c => O.sh (.int c)).length < sizeLine := by rw [List.length_map]; exact small_sz (by omega)
    subst hb
    simp -implicitDefEqProofs only [xs_nil, xs_cons, then_nx, then_rt, then_bk, x_asg, oAsg_1, oAsg_t2, oAsg_s2, x_ret, oRet_ok, x_ite, oIte_t, oIte_f, x_pass, x_brk, kO_int, kO_bool, kO_none, kO_str, o_var, o_con, o_bin, o_neg, o_cmp, o_chain, o_not, o_and, o_or, o_idx, o_cut, o_call, o_bi, o_mt, o_isi, o_comp, o_dnew, os_nil, os_cons, oSeq_ok, oPre_ok, o_lst, o_tup, oLst_0, oLst_1, oLst_2, oLst_3, oTup_2, oTup_3, e_var, e_mv, oVar_some, e_con, e_bin, bin_add, bin_sub, bin_xor, e_neg, oNeg_ok, e_cmp, cmp_lt, cmp_le, cmp_gt, cmp_ge, cmp_eqI, cmp_neI, dec_N, cmp_isN_int, cmp_isN_none, cmp_notN_int, cmp_notN_none, e_chain, chain_lelt, e_not, oNot_ok, oB_ok, e_and, e_or, a_nil, a_cons, r_nil, r_cons, oAnd_f, oAnd_t, oAnd_ok, oOr_f, oOr_t, oOr_ok, e_idx, e_cut, part_t, part_f, s_nil, s_cons, oCons_ok, e_lst, e_tup, oL_0, oL_1, oL_2, oL_3, oL_4, oT_2, oT_3, okB_bind, e_call, oCall_ok, e_calld, oCalld_ok, o_calld, e_revl, o_revl, e_bi, e_mt, e_isi, oIsi_1, e_lset, i_ls, i_rng, oFor_t, oFor_f, x_for, step_1, step_2, fin_rt, isNul, eEnv, List.map_cons, List.map_nil, Option.map_some, Option.map_none, er, ers, getS, setS, Bool.and_true, Bool.true_and, Bool.and_false, Bool.false_and, Bool.or_false, Bool.false_or, Bool.or_true, Bool.true_or, Bool.not_true, Bool.not_false, oI, p1, bin_mod (show (0 : Int) < 2305843009213693952 by decide), next_okB h6 (n + 2) (small2 hy c), x_app, oMu_lst, oMut_app, oAp_lst hz]
    exact ⟨_, rfl, nextI (y + c % 2305843009213693952), ot ++ [nextI (y + c % 2305843009213693952)], some (.sh (.int c)), next64 _, by simp [hol], by simp [oI]⟩)
  rw [e]
  rw [Nat.zero_add, List.length_reverse] at hol
  have hpl : ps.length ≤ 1000 := by have := fit.most; omega
  have hsz : size ps ≤ 100000 := by have := fit.size; omega
  have hpop : ∀ l : List Int, ∃ rs, Full ps rs ∧ callF tab gt (n + 3) 58 [dPs ps, dI l] = .ok (.tup [.lst (rs.map oN), oPs (after ps rs)]) := fun l => by
    obtain ⟨rs, a, b, c⟩ := popout_ok (gt := gt) h58 h50 h0 h35 h43 h49 n fit.ok hpl hsz (some l)
    exact ⟨rs, a, c⟩
  obtain ⟨rs, full, hrs⟩ := hpop os
  obtain ⟨hrl, hrn⟩ := fit.rs full.1
  have hm76 : ∀ {rs : List (List Nat)}, Legal ps rs → callF tab gt (n + 3) 76 [.list (rs.map dN)] = .ok (.lst ((sortM (marks (fun _ => 0) rs)).map oMs)) := fun {rs} lg => marked_ok (gt := gt) (show tab 76 = some f67 from h76) (n + 2) (fit.rs lg).2 (fit.rs lg).1
  have hm67 : ∀ {rs : List (List Nat)}, Legal ps rs → callF tab gt (n + 3) 67 [.list (rs.map dN)] = .ok (.lst ((sortM (marks (fun _ => 0) rs)).map oMs)) := fun {rs} lg => marked_ok (gt := gt) h67 (n + 2) (fit.rs lg).2 (fit.rs lg).1
  have hg := gone_ok (gt := gt) h77 (n + 2) fit.ok hpl full.1 hrl (fun i => by have := fit.pile40 i; omega)
  have hmm : oCmp .ne (.ok (.lst ((sortM (marks (fun _ => 0) rs)).map oMs))) (.ok (.sh (.list ((sortM (marks (fun _ => 0) rs)).map dMs)))) = .ok (.sh (.bool false)) := cmp_neMM (er_MM _) rfl
  have hlsr : oLsI (.ok (.sh (.list (rs.map dN)))) = .ok (rs.map dN, false) := oLsI_ok rfl
  have hlps : oLsI (.ok (.sh (dPs ps))) = .ok (ps.map dN, false) := oLsI_ok rfl
  have hc839 : ∀ γ : Env0, oComp (cT (callO tab gt (n + 3)) gt γ [11] .nil (.con (.int 839)) [11]) (.ok (rs.map dN, false)) = .ok (oI (rs.map fun _ => 839)) := fun γ => by
    rw [oComp_ok (os := rs.map fun _ => O.sh (.int 839)) (compL_map _ _ _ fun r _ => ?_) (by rw [List.length_map]; exact small_sz (by omega))]
    · rw [oI, List.map_map]; rfl
    · rw [cT_1]; simp -implicitDefEqProofs only [xs_nil, xs_cons, then_nx, then_rt, then_bk, x_asg, oAsg_1, oAsg_t2, oAsg_s2, x_ret, oRet_ok, x_ite, oIte_t, oIte_f, x_pass, x_brk, kO_int, kO_bool, kO_none, kO_str, o_var, o_con, o_bin, o_neg, o_cmp, o_chain, o_not, o_and, o_or, o_idx, o_cut, o_call, o_bi, o_mt, o_isi, o_comp, o_dnew, os_nil, os_cons, oSeq_ok, oPre_ok, o_lst, o_tup, oLst_0, oLst_1, oLst_2, oLst_3, oTup_2, oTup_3, e_var, e_mv, oVar_some, e_con, e_bin, bin_add, bin_sub, bin_xor, e_neg, oNeg_ok, e_cmp, cmp_lt, cmp_le, cmp_gt, cmp_ge, cmp_eqI, cmp_neI, dec_N, cmp_isN_int, cmp_isN_none, cmp_notN_int, cmp_notN_none, e_chain, chain_lelt, e_not, oNot_ok, oB_ok, e_and, e_or, a_nil, a_cons, r_nil, r_cons, oAnd_f, oAnd_t, oAnd_ok, oOr_f, oOr_t, oOr_ok, e_idx, e_cut, part_t, part_f, s_nil, s_cons, oCons_ok, e_lst, e_tup, oL_0, oL_1, oL_2, oL_3, oL_4, oT_2, oT_3, okB_bind, e_call, oCall_ok, e_calld, oCalld_ok, o_calld, e_revl, o_revl, e_bi, e_mt, e_isi, oIsi_1, e_lset, i_ls, i_rng, oFor_t, oFor_f, x_for, step_1, step_2, fin_rt, isNul, eEnv, List.map_cons, List.map_nil, Option.map_some, Option.map_none, er, ers, getS, setS, Bool.and_true, Bool.true_and, Bool.and_false, Bool.false_and, Bool.or_false, Bool.false_or, Bool.or_true, Bool.true_or, Bool.not_true, Bool.not_false, Res.bind_ok]
  have hlist : oLsI (.ok (.lst [.sh (dI ot), oI (rs.map fun _ => 839), .lst []])) = .ok ([ot, rs.map fun _ => 839, []].map dI, false) := by
    rw [oLsI_ok (o := .lst [.sh (dI ot), oI (rs.map fun _ => 839), .lst []]) (ds := [ot, rs.map fun _ => 839, []].map dI) (by simp -implicitDefEqProofs only [er, ers, er_oI, List.map_cons, List.map_nil]; rfl)]
    simp [isFresh, flats, flat, dI]
  simp -implicitDefEqProofs only [xs_nil, xs_cons, then_nx, then_rt, then_bk, x_asg, oAsg_1, oAsg_t2, oAsg_s2, x_ret, oRet_ok, x_ite, oIte_t, oIte_f, x_pass, x_brk, kO_int, kO_bool, kO_none, kO_str, o_var, o_con, o_bin, o_neg, o_cmp, o_chain, o_not, o_and, o_or, o_idx, o_cut, o_call, o_bi, o_mt, o_isi, o_comp, o_dnew, os_nil, os_cons, oSeq_ok, oPre_ok, o_lst, o_tup, oLst_0, oLst_1, oLst_2, oLst_3, oTup_2, oTup_3, e_var, e_mv, oVar_some, e_con, e_bin, bin_add, bin_sub, bin_xor, e_neg, oNeg_ok, e_cmp, cmp_lt, cmp_le, cmp_gt, cmp_ge, cmp_eqI, cmp_neI, dec_N, cmp_isN_int, cmp_isN_none, cmp_notN_int, cmp_notN_none, e_chain, chain_lelt, e_not, oNot_ok, oB_ok, e_and, e_or, a_nil, a_cons, r_nil, r_cons, oAnd_f, oAnd_t, oAnd_ok, oOr_f, oOr_t, oOr_ok, e_idx, e_cut, part_t, part_f, s_nil, s_cons, oCons_ok, e_lst, e_tup, oL_0, oL_1, oL_2, oL_3, oL_4, oT_2, oT_3, okB_bind, e_call, oCall_ok, e_calld, oCalld_ok, o_calld, e_revl, o_revl, e_bi, e_mt, e_isi, oIsi_1, e_lset, i_ls, i_rng, oFor_t, oFor_f, x_for, step_1, step_2, fin_rt, isNul, eEnv, List.map_cons, List.map_nil, Option.map_some, Option.map_none, er, ers, getS, setS, Bool.and_true, Bool.true_and, Bool.and_false, Bool.false_and, Bool.or_false, Bool.false_or, Bool.or_true, Bool.true_or, Bool.not_true, Bool.not_false, hrs, kO_pop, er_oPs, er_oI, ers_N, hm76 full.1, kO_MM, ers_Ms, hg, hm67 full.1, hmm, e_comp, hlsr, hc839, hlist, frz, srcsI, srcs, srcss, List.append_nil, List.nil_append, List.cons_append]
  generalize hb2 : stepF (callO tab gt (n + 3)) gt [10] _ = body2
  obtain ⟨Γ2, e2, t10, t12, t13, rfl⟩ := forL_rel (f := body2) dI (fun i Γ => ∃ (t10 t12 t13 : Option O), Γ = [some (.sh (.list (cs.map PyData.int))), some (oI vs), some (oPs ps), some (oI os), some (.sh (.int y)), some (.sh (dI ot)), s6, some (.sh (.list (rs.map dN))), some (oPs (after ps rs)), some (.lst ((sortM (marks (fun _ => 0) rs)).map oMs)), t10, none, t12, t13, none]) [ot, rs.map fun _ => 839, []] 0
    [some (.sh (.list (cs.map PyData.int))), some (oI vs), some (oPs ps), some (oI os), some (.sh (.int y)), some (.sh (dI ot)), s6, some (.sh (.list (rs.map dN))), some (oPs (after ps rs)), some (.lst ((sortM (marks (fun _ => 0) rs)).map oMs)), none, none, none, none, none] ⟨none, none, none, rfl⟩ (by
    rintro j Γ l hj ⟨t10, t12, t13, rfl⟩
    obtain ⟨rs2, full2, hrs2⟩ := hpop l
    obtain ⟨q1, q2⟩ := confl _ (fun _ => 0) fit.ok (Nat.le_refl _) full2 full
    have hs := sortM_perm q1
    have hcp : oCmp .ne (.ok (.sh (dPs (after ps rs)))) (.ok (.sh (dPs (after ps rs)))) = .ok (.sh (.bool false)) := cmp_neNN rfl rfl
    subst hb2
    simp -implicitDefEqProofs only [xs_nil, xs_cons, then_nx, then_rt, then_bk, x_asg, oAsg_1, oAsg_t2, oAsg_s2, x_ret, oRet_ok, x_ite, oIte_t, oIte_f, x_pass, x_brk, kO_int, kO_bool, kO_none, kO_str, o_var, o_con, o_bin, o_neg, o_cmp, o_chain, o_not, o_and, o_or, o_idx, o_cut, o_call, o_bi, o_mt, o_isi, o_comp, o_dnew, os_nil, os_cons, oSeq_ok, oPre_ok, o_lst, o_tup, oLst_0, oLst_1, oLst_2, oLst_3, oTup_2, oTup_3, e_var, e_mv, oVar_some, e_con, e_bin, bin_add, bin_sub, bin_xor, e_neg, oNeg_ok, e_cmp, cmp_lt, cmp_le, cmp_gt, cmp_ge, cmp_eqI, cmp_neI, dec_N, cmp_isN_int, cmp_isN_none, cmp_notN_int, cmp_notN_none, e_chain, chain_lelt, e_not, oNot_ok, oB_ok, e_and, e_or, a_nil, a_cons, r_nil, r_cons, oAnd_f, oAnd_t, oAnd_ok, oOr_f, oOr_t, oOr_ok, e_idx, e_cut, part_t, part_f, s_nil, s_cons, oCons_ok, e_lst, e_tup, oL_0, oL_1, oL_2, oL_3, oL_4, oT_2, oT_3, okB_bind, e_call, oCall_ok, e_calld, oCalld_ok, o_calld, e_revl, o_revl, e_bi, e_mt, e_isi, oIsi_1, e_lset, i_ls, i_rng, oFor_t, oFor_f, x_for, step_1, step_2, fin_rt, isNul, eEnv, List.map_cons, List.map_nil, Option.map_some, Option.map_none, er, ers, getS, setS, Bool.and_true, Bool.true_and, Bool.and_false, Bool.false_and, Bool.or_false, Bool.false_or, Bool.or_true, Bool.true_or, Bool.not_true, Bool.not_false, er_oPs, hlps, e_comp, oComp_copy (show 14 < [some (.list (cs.map PyData.int)), some (er (oI vs)), some (dPs ps), some (er (oI os)), some (.int y), some (dI ot), s6.map er, some (.list (rs.map dN)), some (dPs (after ps rs)), some (.list (ers ((sortM (marks (fun _ => 0) rs)).map oMs))), some (dI l), none, t12.map er, t13.map er, none].length by simp) (small_sz (show ps.length ≤ 1000000 by omega)), ers_N]
    have hrs3 : callF tab gt (n + 3) 58 [.list (ps.map dN), dI l] = .ok (.tup [.lst (rs2.map oN), oPs (after ps rs2)]) := hrs2
    rw [hrs3]
    simp -implicitDefEqProofs only [xs_nil, xs_cons, then_nx, then_rt, then_bk, x_asg, oAsg_1, oAsg_t2, oAsg_s2, x_ret, oRet_ok, x_ite, oIte_t, oIte_f, x_pass, x_brk, kO_int, kO_bool, kO_none, kO_str, o_var, o_con, o_bin, o_neg, o_cmp, o_chain, o_not, o_and, o_or, o_idx, o_cut, o_call, o_bi, o_mt, o_isi, o_comp, o_dnew, os_nil, os_cons, oSeq_ok, oPre_ok, o_lst, o_tup, oLst_0, oLst_1, oLst_2, oLst_3, oTup_2, oTup_3, e_var, e_mv, oVar_some, e_con, e_bin, bin_add, bin_sub, bin_xor, e_neg, oNeg_ok, e_cmp, cmp_lt, cmp_le, cmp_gt, cmp_ge, cmp_eqI, cmp_neI, dec_N, cmp_isN_int, cmp_isN_none, cmp_notN_int, cmp_notN_none, e_chain, chain_lelt, e_not, oNot_ok, oB_ok, e_and, e_or, a_nil, a_cons, r_nil, r_cons, oAnd_f, oAnd_t, oAnd_ok, oOr_f, oOr_t, oOr_ok, e_idx, e_cut, part_t, part_f, s_nil, s_cons, oCons_ok, e_lst, e_tup, oL_0, oL_1, oL_2, oL_3, oL_4, oT_2, oT_3, okB_bind, e_call, oCall_ok, e_calld, oCalld_ok, o_calld, e_revl, o_revl, e_bi, e_mt, e_isi, oIsi_1, e_lset, i_ls, i_rng, oFor_t, oFor_f, x_for, step_1, step_2, fin_rt, isNul, eEnv, List.map_cons, List.map_nil, Option.map_some, Option.map_none, er, ers, getS, setS, Bool.and_true, Bool.true_and, Bool.and_false, Bool.false_and, Bool.or_false, Bool.false_or, Bool.or_true, Bool.true_or, Bool.not_true, Bool.not_false, kO_pop, ers_N, hm76 full2.1, hs, hmm, er_oPs, q2, hcp, hm67 full2.1, ers_Ms]
    exact ⟨_, rfl, _, _, _, rfl⟩)
  simp -implicitDefEqProofs only [List.map_cons, List.map_nil] at e2
  rw [e2]
  simp -implicitDefEqProofs only [xs_nil, xs_cons, then_nx, then_rt, then_bk, x_asg, oAsg_1, oAsg_t2, oAsg_s2, x_ret, oRet_ok, x_ite, oIte_t, oIte_f, x_pass, x_brk, kO_int, kO_bool, kO_none, kO_str, o_var, o_con, o_bin, o_neg, o_cmp, o_chain, o_not, o_and, o_or, o_idx, o_cut, o_call, o_bi, o_mt, o_isi, o_comp, o_dnew, os_nil, os_cons, oSeq_ok, oPre_ok, o_lst, o_tup, oLst_0, oLst_1, oLst_2, oLst_3, oTup_2, oTup_3, e_var, e_mv, oVar_some, e_con, e_bin, bin_add, bin_sub, bin_xor, e_neg, oNeg_ok, e_cmp, cmp_lt, cmp_le, cmp_gt, cmp_ge, cmp_eqI, cmp_neI, dec_N, cmp_isN_int, cmp_isN_none, cmp_notN_int, cmp_notN_none, e_chain, chain_lelt, e_not, oNot_ok, oB_ok, e_and, e_or, a_nil, a_cons, r_nil, r_cons, oAnd_f, oAnd_t, oAnd_ok, oOr_f, oOr_t, oOr_ok, e_idx, e_cut, part_t, part_f, s_nil, s_cons, oCons_ok, e_lst, e_tup, oL_0, oL_1, oL_2, oL_3, oL_4, oT_2, oT_3, okB_bind, e_call, oCall_ok, e_calld, oCalld_ok, o_calld, e_revl, o_revl, e_bi, e_mt, e_isi, oIsi_1, e_lset, i_ls, i_rng, oFor_t, oFor_f, x_for, step_1, step_2, fin_rt, isNul, eEnv, List.map_cons, List.map_nil, Option.map_some, Option.map_none, er, ers, getS, setS, Bool.and_true, Bool.true_and, Bool.and_false, Bool.false_and, Bool.or_false, Bool.false_or, Bool.or_true, Bool.true_or, Bool.not_true, Bool.not_false]
end
end Rp

set_option Elab.async false
set_option linter.all false
set_option maxRecDepth 100000
set_option maxHeartbeats 4000000
/-! law_k17_whole_any_order: the table, the match with the text, the head (printed by mk.py). -/
namespace K17
open PySem PySem.Spec PyProof.Rows L2 Rp
def topS (i : Nat) : Stmt := PySem.Challenge.pw_ringpop_k17_whole_any_order.main.body.getD i (.Pass ⟨0, 0, 0, 0⟩)
abbrev s4 : Stmt := topS 4
abbrev s6 : Stmt := topS 6
abbrev s7 : Stmt := topS 7
abbrev s8 : Stmt := topS 8
abbrev s9 : Stmt := topS 9
abbrev s11 : Stmt := topS 11
abbrev s12 : Stmt := topS 12
abbrev s14 : Stmt := topS 14
abbrev s15 : Stmt := topS 15
abbrev s16 : Stmt := topS 16
abbrev s17 : Stmt := topS 17
abbrev s18 : Stmt := topS 18
abbrev s19 : Stmt := topS 19
abbrev s20 : Stmt := topS 20
abbrev s21 : Stmt := topS 21
abbrev s22 : Stmt := topS 22
def d4 : Df := ⟨"is_number", s4, ["thing"], ["thing"], Rp.T.f0, false⟩
def d6 : Df := ⟨"copied_piles", s6, ["piles", "pile"], ["piles"], Rp.T.f49, false⟩
def d7 : Df := ⟨"tops_of", s7, ["piles", "found", "pile"], ["piles"], Rp.T.f35, false⟩
def d8 : Df := ⟨"rings_of", s8, ["tops", "found", "place", "ring", "here"], ["tops"], Rp.T.f43, false⟩
def d9 : Df := ⟨"pop_ring", s9, ["piles", "ring", "place", "found"], ["piles", "ring"], Rp.T.f50, false⟩
def d11 : Df := ⟨"pop_out", s11, ["piles", "order", "rest", "popped", "rings", "which"], ["piles", "order"], Rp.T.f58, true⟩
def d12 : Df := ⟨"marked_rings", s12, ["rings", "depths", "found", "ring", "place"], ["rings"], Rp.T.f67, false⟩
def d14 : Df := ⟨"_law_fold", s14, ["_law_script", "_law_number", "_law_cell"], ["_law_script", "_law_number"], Rp.T.f5, false⟩
def d15 : Df := ⟨"_law_next", s15, ["_law_number"], ["_law_number"], Rp.T.f6, false⟩
def d16 : Df := ⟨"_law_numbers", s16, ["_law_script", "_law_seed", "_law_number", "_law_found", "_law_k"], ["_law_script", "_law_seed"], Rp.T.f72, false⟩
def d17 : Df := ⟨"_law_digits", s17, ["_law_number", "_law_base", "_law_most", "_law_found"], ["_law_number", "_law_base", "_law_most"], Rp.T.f73, false⟩
def d18 : Df := ⟨"_law_any", s18, ["_law_numbers_here", "_law_first", "_law_many", "_law_piles", "_law_place", "_law_bare", "_law_k", "_law_digit"], ["_law_numbers_here"], Rp.T.f74, false⟩
def d19 : Df := ⟨"_law_order", s19, ["_law_numbers_here", "_law_found", "_law_k"], ["_law_numbers_here"], Rp.T.f75, false⟩
def d20 : Df := ⟨"_law_marks", s20, ["_law_rings", "_law_depths", "_law_found", "_law_ring", "_law_place"], ["_law_rings"], Rp.T.f76, false⟩
def d21 : Df := ⟨"_law_gone", s21, ["_law_piles", "_law_rings", "_law_rest", "_law_place", "_law_ends", "_law_ring"], ["_law_piles", "_law_rings", "_law_rest"], Rp.T.f77, false⟩
def d22 : Df := ⟨"law", s22, ["_law_script", "_law_numbers_here", "_law_piles", "_law_one", "_law_number", "_law_other", "_law_cell", "_law_rings", "_law_rest", "_law_marks_here", "_law_order_here", "_law_ring", "_law_again", "_law_left", "_law_pile"], ["_law_script"], Rp.T.f78, false⟩
def ds : Dfs := [(0, d4), (49, d6), (35, d7), (43, d8), (50, d9), (58, d11), (67, d12), (5, d14), (6, d15), (72, d16), (73, d17), (74, d18), (75, d19), (76, d20), (77, d21), (78, d22)]
theorem ds_ok : (ds.all fun p => okDf ds [] p.2) = true := by decide +kernel
abbrev tab : Tab := tabOf ds
theorem t0 : tab 0 = some Rp.T.f0 := rfl
theorem t49 : tab 49 = some Rp.T.f49 := rfl
theorem t35 : tab 35 = some Rp.T.f35 := rfl
theorem t43 : tab 43 = some Rp.T.f43 := rfl
theorem t50 : tab 50 = some Rp.T.f50 := rfl
theorem t58 : tab 58 = some Rp.T.f58 := rfl
theorem t67 : tab 67 = some Rp.T.f67 := rfl
theorem t5 : tab 5 = some Rp.T.f5 := rfl
theorem t6 : tab 6 = some Rp.T.f6 := rfl
theorem t72 : tab 72 = some Rp.T.f72 := rfl
theorem t73 : tab 73 = some Rp.T.f73 := rfl
theorem t74 : tab 74 = some Rp.T.f74 := rfl
theorem t75 : tab 75 = some Rp.T.f75 := rfl
theorem t76 : tab 76 = some Rp.T.f76 := rfl
theorem t77 : tab 77 = some Rp.T.f77 := rfl
theorem t78 : tab 78 = some Rp.T.f78 := rfl
/-- what is left for plain Lean -/
def Law : Prop := ∀ ns : List Int, ns.length ≤ 63 → callF tab gt0 12 78 [.list (ns.map PyData.int)] = .ok (.sh (.bool true))
open PySem.W in
theorem all_mk {P : Program} {w : World} {K : PySem.W.Frag} {h : Heap} {mg : Str → Option Value} {fa p4 p6 p7 p8 p9 p11 p12 p14 p15 p16 p17 p18 p19 p20 p21 p22 : Addr} (X : K.In h) (G : h.Ns mainGlobals mg) (hfa : mg "law" = some (.ref fa))
    {od4 an4 : Option Addr} {sl4 : Array (Option Value)} {oc4 kV4 dc4 pm4 cd4 ct4 : Value}
    {od6 an6 : Option Addr} {sl6 : Array (Option Value)} {oc6 kV6 dc6 pm6 cd6 ct6 : Value}
    {od7 an7 : Option Addr} {sl7 : Array (Option Value)} {oc7 kV7 dc7 pm7 cd7 ct7 : Value}
    {od8 an8 : Option Addr} {sl8 : Array (Option Value)} {oc8 kV8 dc8 pm8 cd8 ct8 : Value}
    {od9 an9 : Option Addr} {sl9 : Array (Option Value)} {oc9 kV9 dc9 pm9 cd9 ct9 : Value}
    {od11 an11 : Option Addr} {sl11 : Array (Option Value)} {oc11 kV11 dc11 pm11 cd11 ct11 : Value} {T11 : Addr} {oT11 : Obj} {nT11 : Nat}
    {od12 an12 : Option Addr} {sl12 : Array (Option Value)} {oc12 kV12 dc12 pm12 cd12 ct12 : Value}
    {od14 an14 : Option Addr} {sl14 : Array (Option Value)} {oc14 kV14 dc14 pm14 cd14 ct14 : Value}
    {od15 an15 : Option Addr} {sl15 : Array (Option Value)} {oc15 kV15 dc15 pm15 cd15 ct15 : Value}
    {od16 an16 : Option Addr} {sl16 : Array (Option Value)} {oc16 kV16 dc16 pm16 cd16 ct16 : Value}
    {od17 an17 : Option Addr} {sl17 : Array (Option Value)} {oc17 kV17 dc17 pm17 cd17 ct17 : Value}
    {od18 an18 : Option Addr} {sl18 : Array (Option Value)} {oc18 kV18 dc18 pm18 cd18 ct18 : Value}
    {od19 an19 : Option Addr} {sl19 : Array (Option Value)} {oc19 kV19 dc19 pm19 cd19 ct19 : Value}
    {od20 an20 : Option Addr} {sl20 : Array (Option Value)} {oc20 kV20 dc20 pm20 cd20 ct20 : Value}
    {od21 an21 : Option Addr} {sl21 : Array (Option Value)} {oc21 kV21 dc21 pm21 cd21 ct21 : Value}
    {od22 an22 : Option Addr} {sl22 : Array (Option Value)} {oc22 kV22 dc22 pm22 cd22 ct22 : Value}
    (a4 : PySem.W.nsIn K mainGlobals "is_number" = some (some (.ref p4))) (l4 : K.lookup p4 = some ⟨oc4, od4, .func (PySem.W.fnOf "is_number" "is_number" (defArgs s4) (defBody s4) (defScope s4) .none kV4 dc4 pm4 an4 cd4 ct4), sl4⟩) (c4 : PySem.W.codeIn K cd4 "is_number" = true) (k4 : PySem.W.keepIn K (.ref p4) = true)
    (a6 : PySem.W.nsIn K mainGlobals "copied_piles" = some (some (.ref p6))) (l6 : K.lookup p6 = some ⟨oc6, od6, .func (PySem.W.fnOf "copied_piles" "copied_piles" (defArgs s6) (defBody s6) (defScope s6) .none kV6 dc6 pm6 an6 cd6 ct6), sl6⟩) (c6 : PySem.W.codeIn K cd6 "copied_piles" = true) (k6 : PySem.W.keepIn K (.ref p6) = true)
    (a7 : PySem.W.nsIn K mainGlobals "tops_of" = some (some (.ref p7))) (l7 : K.lookup p7 = some ⟨oc7, od7, .func (PySem.W.fnOf "tops_of" "tops_of" (defArgs s7) (defBody s7) (defScope s7) .none kV7 dc7 pm7 an7 cd7 ct7), sl7⟩) (c7 : PySem.W.codeIn K cd7 "tops_of" = true) (k7 : PySem.W.keepIn K (.ref p7) = true)
    (a8 : PySem.W.nsIn K mainGlobals "rings_of" = some (some (.ref p8))) (l8 : K.lookup p8 = some ⟨oc8, od8, .func (PySem.W.fnOf "rings_of" "rings_of" (defArgs s8) (defBody s8) (defScope s8) .none kV8 dc8 pm8 an8 cd8 ct8), sl8⟩) (c8 : PySem.W.codeIn K cd8 "rings_of" = true) (k8 : PySem.W.keepIn K (.ref p8) = true)
    (a9 : PySem.W.nsIn K mainGlobals "pop_ring" = some (some (.ref p9))) (l9 : K.lookup p9 = some ⟨oc9, od9, .func (PySem.W.fnOf "pop_ring" "pop_ring" (defArgs s9) (defBody s9) (defScope s9) .none kV9 dc9 pm9 an9 cd9 ct9), sl9⟩) (c9 : PySem.W.codeIn K cd9 "pop_ring" = true) (k9 : PySem.W.keepIn K (.ref p9) = true)
    (a11 : PySem.W.nsIn K mainGlobals "pop_out" = some (some (.ref p11))) (l11 : K.lookup p11 = some ⟨oc11, od11, .func (PySem.W.fnOf "pop_out" "pop_out" (defArgs s11) (defBody s11) (defScope s11) (.ref T11) kV11 dc11 pm11 an11 cd11 ct11), sl11⟩) (c11 : PySem.W.codeIn K cd11 "pop_out" = true) (k11 : PySem.W.keepIn K (.ref p11) = true) (u11 : K.lookup T11 = some oT11) (v11 : oT11.data = .seq #[.none] nT11)
    (a12 : PySem.W.nsIn K mainGlobals "marked_rings" = some (some (.ref p12))) (l12 : K.lookup p12 = some ⟨oc12, od12, .func (PySem.W.fnOf "marked_rings" "marked_rings" (defArgs s12) (defBody s12) (defScope s12) .none kV12 dc12 pm12 an12 cd12 ct12), sl12⟩) (c12 : PySem.W.codeIn K cd12 "marked_rings" = true) (k12 : PySem.W.keepIn K (.ref p12) = true)
    (a14 : PySem.W.nsIn K mainGlobals "_law_fold" = some (some (.ref p14))) (l14 : K.lookup p14 = some ⟨oc14, od14, .func (PySem.W.fnOf "_law_fold" "_law_fold" (defArgs s14) (defBody s14) (defScope s14) .none kV14 dc14 pm14 an14 cd14 ct14), sl14⟩) (c14 : PySem.W.codeIn K cd14 "_law_fold" = true) (k14 : PySem.W.keepIn K (.ref p14) = true)
    (a15 : PySem.W.nsIn K mainGlobals "_law_next" = some (some (.ref p15))) (l15 : K.lookup p15 = some ⟨oc15, od15, .func (PySem.W.fnOf "_law_next" "_law_next" (defArgs s15) (defBody s15) (defScope s15) .none kV15 dc15 pm15 an15 cd15 ct15), sl15⟩) (c15 : PySem.W.codeIn K cd15 "_law_next" = true) (k15 : PySem.W.keepIn K (.ref p15) = true)
    (a16 : PySem.W.nsIn K mainGlobals "_law_numbers" = some (some (.ref p16))) (l16 : K.lookup p16 = some ⟨oc16, od16, .func (PySem.W.fnOf "_law_numbers" "_law_numbers" (defArgs s16) (defBody s16) (defScope s16) .none kV16 dc16 pm16 an16 cd16 ct16), sl16⟩) (c16 : PySem.W.codeIn K cd16 "_law_numbers" = true) (k16 : PySem.W.keepIn K (.ref p16) = true)
    (a17 : PySem.W.nsIn K mainGlobals "_law_digits" = some (some (.ref p17))) (l17 : K.lookup p17 = some ⟨oc17, od17, .func (PySem.W.fnOf "_law_digits" "_law_digits" (defArgs s17) (defBody s17) (defScope s17) .none kV17 dc17 pm17 an17 cd17 ct17), sl17⟩) (c17 : PySem.W.codeIn K cd17 "_law_digits" = true) (k17 : PySem.W.keepIn K (.ref p17) = true)
    (a18 : PySem.W.nsIn K mainGlobals "_law_any" = some (some (.ref p18))) (l18 : K.lookup p18 = some ⟨oc18, od18, .func (PySem.W.fnOf "_law_any" "_law_any" (defArgs s18) (defBody s18) (defScope s18) .none kV18 dc18 pm18 an18 cd18 ct18), sl18⟩) (c18 : PySem.W.codeIn K cd18 "_law_any" = true) (k18 : PySem.W.keepIn K (.ref p18) = true)
    (a19 : PySem.W.nsIn K mainGlobals "_law_order" = some (some (.ref p19))) (l19 : K.lookup p19 = some ⟨oc19, od19, .func (PySem.W.fnOf "_law_order" "_law_order" (defArgs s19) (defBody s19) (defScope s19) .none kV19 dc19 pm19 an19 cd19 ct19), sl19⟩) (c19 : PySem.W.codeIn K cd19 "_law_order" = true) (k19 : PySem.W.keepIn K (.ref p19) = true)
    (a20 : PySem.W.nsIn K mainGlobals "_law_marks" = some (some (.ref p20))) (l20 : K.lookup p20 = some ⟨oc20, od20, .func (PySem.W.fnOf "_law_marks" "_law_marks" (defArgs s20) (defBody s20) (defScope s20) .none kV20 dc20 pm20 an20 cd20 ct20), sl20⟩) (c20 : PySem.W.codeIn K cd20 "_law_marks" = true) (k20 : PySem.W.keepIn K (.ref p20) = true)
    (a21 : PySem.W.nsIn K mainGlobals "_law_gone" = some (some (.ref p21))) (l21 : K.lookup p21 = some ⟨oc21, od21, .func (PySem.W.fnOf "_law_gone" "_law_gone" (defArgs s21) (defBody s21) (defScope s21) .none kV21 dc21 pm21 an21 cd21 ct21), sl21⟩) (c21 : PySem.W.codeIn K cd21 "_law_gone" = true) (k21 : PySem.W.keepIn K (.ref p21) = true)
    (a22 : PySem.W.nsIn K mainGlobals "law" = some (some (.ref p22))) (l22 : K.lookup p22 = some ⟨oc22, od22, .func (PySem.W.fnOf "law" "law" (defArgs s22) (defBody s22) (defScope s22) .none kV22 dc22 pm22 an22 cd22 ct22), sl22⟩) (c22 : PySem.W.codeIn K cd22 "law" = true) (k22 : PySem.W.keepIn K (.ref p22) = true)
    (B : Bis K) :
    ∃ fd : FuncData, (∀ (s : Shared) (v : Value), BindsTo s fd ⟨[v], []⟩ [("_law_script", v)]) ∧ ∀ base : Heap, K.In base → base.Ns mainGlobals mg → FnOk P w K mg base (L2.CX P w) 12 fa fd ["_law_script"] (spF xr0 (callF tab gt0 12) 78) := by
  have e := hfa.symm.trans (PySem.W.mg_of X G a22)
  cases e
  have F4 := fund_plain (st := s4) l4 c4 k4
  have b4 := F4.bindsN (ps := ["thing"]) fun _ _ _ _ _ _ us hl => match us, hl with | [_], _ => rfl
  have F6 := fund_plain (st := s6) l6 c6 k6
  have b6 := F6.bindsN (ps := ["piles"]) fun _ _ _ _ _ _ us hl => match us, hl with | [_], _ => rfl
  have F7 := fund_plain (st := s7) l7 c7 k7
  have b7 := F7.bindsN (ps := ["piles"]) fun _ _ _ _ _ _ us hl => match us, hl with | [_], _ => rfl
  have F8 := fund_plain (st := s8) l8 c8 k8
  have b8 := F8.bindsN (ps := ["tops"]) fun _ _ _ _ _ _ us hl => match us, hl with | [_], _ => rfl
  have F9 := fund_plain (st := s9) l9 c9 k9
  have b9 := F9.bindsN (ps := ["piles", "ring"]) fun _ _ _ _ _ _ us hl => match us, hl with | [_, _], _ => rfl
  have F11 := fund_none (st := s11) l11 c11 k11 u11 v11
  have b11 := binds_none (ps := ["piles", "order"]) F11 1 rfl (fun _ _ _ _ _ _ _ us its hu hi => match us, hu, its, hi with | [_, _], _, [_], _ => ⟨_, rfl, rfl⟩) (fun _ _ _ _ _ _ _ us its hu hi => match us, hu, its, hi with | [_], _, [_], _ => ⟨_, rfl, rfl⟩)
  have F12 := fund_plain (st := s12) l12 c12 k12
  have b12 := F12.bindsN (ps := ["rings"]) fun _ _ _ _ _ _ us hl => match us, hl with | [_], _ => rfl
  have F14 := fund_plain (st := s14) l14 c14 k14
  have b14 := F14.bindsN (ps := ["_law_script", "_law_number"]) fun _ _ _ _ _ _ us hl => match us, hl with | [_, _], _ => rfl
  have F15 := fund_plain (st := s15) l15 c15 k15
  have b15 := F15.bindsN (ps := ["_law_number"]) fun _ _ _ _ _ _ us hl => match us, hl with | [_], _ => rfl
  have F16 := fund_plain (st := s16) l16 c16 k16
  have b16 := F16.bindsN (ps := ["_law_script", "_law_seed"]) fun _ _ _ _ _ _ us hl => match us, hl with | [_, _], _ => rfl
  have F17 := fund_plain (st := s17) l17 c17 k17
  have b17 := F17.bindsN (ps := ["_law_number", "_law_base", "_law_most"]) fun _ _ _ _ _ _ us hl => match us, hl with | [_, _, _], _ => rfl
  have F18 := fund_plain (st := s18) l18 c18 k18
  have b18 := F18.bindsN (ps := ["_law_numbers_here"]) fun _ _ _ _ _ _ us hl => match us, hl with | [_], _ => rfl
  have F19 := fund_plain (st := s19) l19 c19 k19
  have b19 := F19.bindsN (ps := ["_law_numbers_here"]) fun _ _ _ _ _ _ us hl => match us, hl with | [_], _ => rfl
  have F20 := fund_plain (st := s20) l20 c20 k20
  have b20 := F20.bindsN (ps := ["_law_rings"]) fun _ _ _ _ _ _ us hl => match us, hl with | [_], _ => rfl
  have F21 := fund_plain (st := s21) l21 c21 k21
  have b21 := F21.bindsN (ps := ["_law_piles", "_law_rings", "_law_rest"]) fun _ _ _ _ _ _ us hl => match us, hl with | [_, _, _], _ => rfl
  have F22 := fund_plain (st := s22) l22 c22 k22
  have b22 := F22.bindsN (ps := ["_law_script"]) fun _ _ _ _ _ _ us hl => match us, hl with | [_], _ => rfl
  have A : AllFn K mg ds [(0, p4, PySem.W.fnOf "is_number" "is_number" (defArgs s4) (defBody s4) (defScope s4) .none kV4 dc4 pm4 an4 cd4 ct4), (49, p6, PySem.W.fnOf "copied_piles" "copied_piles" (defArgs s6) (defBody s6) (defScope s6) .none kV6 dc6 pm6 an6 cd6 ct6), (35, p7, PySem.W.fnOf "tops_of" "tops_of" (defArgs s7) (defBody s7) (defScope s7) .none kV7 dc7 pm7 an7 cd7 ct7), (43, p8, PySem.W.fnOf "rings_of" "rings_of" (defArgs s8) (defBody s8) (defScope s8) .none kV8 dc8 pm8 an8 cd8 ct8), (50, p9, PySem.W.fnOf "pop_ring" "pop_ring" (defArgs s9) (defBody s9) (defScope s9) .none kV9 dc9 pm9 an9 cd9 ct9), (58, p11, PySem.W.fnOf "pop_out" "pop_out" (defArgs s11) (defBody s11) (defScope s11) (.ref T11) kV11 dc11 pm11 an11 cd11 ct11), (67, p12, PySem.W.fnOf "marked_rings" "marked_rings" (defArgs s12) (defBody s12) (defScope s12) .none kV12 dc12 pm12 an12 cd12 ct12), (5, p14, PySem.W.fnOf "_law_fold" "_law_fold" (defArgs s14) (defBody s14) (defScope s14) .none kV14 dc14 pm14 an14 cd14 ct14), (6, p15, PySem.W.fnOf "_law_next" "_law_next" (defArgs s15) (defBody s15) (defScope s15) .none kV15 dc15 pm15 an15 cd15 ct15), (72, p16, PySem.W.fnOf "_law_numbers" "_law_numbers" (defArgs s16) (defBody s16) (defScope s16) .none kV16 dc16 pm16 an16 cd16 ct16), (73, p17, PySem.W.fnOf "_law_digits" "_law_digits" (defArgs s17) (defBody s17) (defScope s17) .none kV17 dc17 pm17 an17 cd17 ct17), (74, p18, PySem.W.fnOf "_law_any" "_law_any" (defArgs s18) (defBody s18) (defScope s18) .none kV18 dc18 pm18 an18 cd18 ct18), (75, p19, PySem.W.fnOf "_law_order" "_law_order" (defArgs s19) (defBody s19) (defScope s19) .none kV19 dc19 pm19 an19 cd19 ct19), (76, p20, PySem.W.fnOf "_law_marks" "_law_marks" (defArgs s20) (defBody s20) (defScope s20) .none kV20 dc20 pm20 an20 cd20 ct20), (77, p21, PySem.W.fnOf "_law_gone" "_law_gone" (defArgs s21) (defBody s21) (defScope s21) .none kV21 dc21 pm21 an21 cd21 ct21), (78, fa, PySem.W.fnOf "law" "law" (defArgs s22) (defBody s22) (defScope s22) .none kV22 dc22 pm22 an22 cd22 ct22)] := (.cons (PySem.W.mg_of X G a4) ⟨_, F4⟩ ⟨b4, fun h => nomatch h⟩ (.cons (PySem.W.mg_of X G a6) ⟨_, F6⟩ ⟨b6, fun h => nomatch h⟩ (.cons (PySem.W.mg_of X G a7) ⟨_, F7⟩ ⟨b7, fun h => nomatch h⟩ (.cons (PySem.W.mg_of X G a8) ⟨_, F8⟩ ⟨b8, fun h => nomatch h⟩ (.cons (PySem.W.mg_of X G a9) ⟨_, F9⟩ ⟨b9, fun h => nomatch h⟩ (.cons (PySem.W.mg_of X G a11) ⟨_, F11⟩ ⟨b11.1, fun _ => b11.2⟩ (.cons (PySem.W.mg_of X G a12) ⟨_, F12⟩ ⟨b12, fun h => nomatch h⟩ (.cons (PySem.W.mg_of X G a14) ⟨_, F14⟩ ⟨b14, fun h => nomatch h⟩ (.cons (PySem.W.mg_of X G a15) ⟨_, F15⟩ ⟨b15, fun h => nomatch h⟩ (.cons (PySem.W.mg_of X G a16) ⟨_, F16⟩ ⟨b16, fun h => nomatch h⟩ (.cons (PySem.W.mg_of X G a17) ⟨_, F17⟩ ⟨b17, fun h => nomatch h⟩ (.cons (PySem.W.mg_of X G a18) ⟨_, F18⟩ ⟨b18, fun h => nomatch h⟩ (.cons (PySem.W.mg_of X G a19) ⟨_, F19⟩ ⟨b19, fun h => nomatch h⟩ (.cons (PySem.W.mg_of X G a20) ⟨_, F20⟩ ⟨b20, fun h => nomatch h⟩ (.cons (PySem.W.mg_of X G a21) ⟨_, F21⟩ ⟨b21, fun h => nomatch h⟩ (.cons (PySem.W.mg_of X G a22) ⟨_, F22⟩ ⟨b22, fun h => nomatch h⟩ .nil))))))))))))))))
  exact ⟨PySem.W.fnOf "law" "law" (defArgs s22) (defBody s22) (defScope s22) .none kV22 dc22 pm22 an22 cd22 ct22, fun s v => .of_eq rfl, fun base _ _ => fn_head (d := d22) A ds_ok B X G rfl rfl 12⟩
end K17
theorem K17.law_ok : K17.Law := fun ns h => Rp.law17 K17.t78 K17.t72 K17.t74 K17.t75 K17.t73 K17.t76 K17.t77 K17.t67 K17.t58 K17.t50 K17.t0 K17.t35 K17.t43 K17.t49 K17.t5 K17.t6 8 h
open PySem PySem.W PyProof.Rows
set_option maxHeartbeats 0 in
theorem PySem.Challenge.cw_ringpop_k17_whole_any_order_holds : PySem.Challenge.rw_ringpop_k17_whole_any_order.Holds := by
  w_on; o_law; k_head; (case hw => w_witness2)
  k_fill
  refine L2.walk_of (l := PySem.Challenge.rw_ringpop_k17_whole_any_order) (n := 63) (k := 12) (x := "_law_script") (CX := fun w => L2.CX PySem.Challenge.rw_ringpop_k17_whole_any_order.prog w) (sp := fun w => Rp.spF Rp.xr0 (Rp.callF K17.tab Rp.gt0 12) 78) rfl (by decide) rfl ⟨rfl, by decide, by decide⟩ (fun w h Y => PySem.W.kIn_of Y) ?F (fun _ _ a ns hl _ hS => Rp.law_sp (by rfl) hS (K17.law_ok ns hl)) (fun _ _ _ _ _ h => Rp.cx_none h)
  case F =>
    intro w mg fa h KX G hmg
    refine' K17.all_mk KX G hmg ?a4 ?l4 ?c4 ?k4 ?a6 ?l6 ?c6 ?k6 ?a7 ?l7 ?c7 ?k7 ?a8 ?l8 ?c8 ?k8 ?a9 ?l9 ?c9 ?k9 ?a11 ?l11 ?c11 ?k11 ?u11 ?v11 ?a12 ?l12 ?c12 ?k12 ?a14 ?l14 ?c14 ?k14 ?a15 ?l15 ?c15 ?k15 ?a16 ?l16 ?c16 ?k16 ?a17 ?l17 ?c17 ?k17 ?a18 ?l18 ?c18 ?k18 ?a19 ?l19 ?c19 ?k19 ?a20 ?l20 ?c20 ?k20 ?a21 ?l21 ?c21 ?k21 ?a22 ?l22 ?c22 ?k22 ⟨?b1, ?b2, ?b3, ?b4, ?b5, ?b6, ?b7, ?b8, ?b9, ?b10, ?b11, ?b12, ?b13, ?b14, ?b15, ?b16, ?b17, ?b18⟩
    (case a4 => k_is); (case l4 => k_is); (case c4 => k_is); (case k4 => k_is); (case a6 => k_is); (case l6 => k_is); (case c6 => k_is); (case k6 => k_is); (case a7 => k_is); (case l7 => k_is); (case c7 => k_is); (case k7 => k_is); (case a8 => k_is); (case l8 => k_is); (case c8 => k_is); (case k8 => k_is); (case a9 => k_is); (case l9 => k_is); (case c9 => k_is); (case k9 => k_is); (case a11 => k_is); (case l11 => k_is); (case c11 => k_is); (case k11 => k_is); (case u11 => k_is); (case v11 => exact rfl); (case a12 => k_is); (case l12 => k_is); (case c12 => k_is); (case k12 => k_is); (case a14 => k_is); (case l14 => k_is); (case c14 => k_is); (case k14 => k_is); (case a15 => k_is); (case l15 => k_is); (case c15 => k_is); (case k15 => k_is); (case a16 => k_is); (case l16 => k_is); (case c16 => k_is); (case k16 => k_is); (case a17 => k_is); (case l17 => k_is); (case c17 => k_is); (case k17 => k_is); (case a18 => k_is); (case l18 => k_is); (case c18 => k_is); (case k18 => k_is); (case a19 => k_is); (case l19 => k_is); (case c19 => k_is); (case k19 => k_is); (case a20 => k_is); (case l20 => k_is); (case c20 => k_is); (case k20 => k_is); (case a21 => k_is); (case l21 => k_is); (case c21 => k_is); (case k21 => k_is); (case a22 => k_is); (case l22 => k_is); (case c22 => k_is); (case k22 => k_is)
    (case b1 => k_is); (case b2 => k_is); (case b3 => k_is); (case b4 => k_is); (case b5 => k_is); (case b6 => k_is); (case b7 => k_is); (case b8 => k_is); (case b9 => k_is); (case b10 => k_is); (case b11 => k_is); (case b12 => k_is); (case b13 => k_is); (case b14 => k_is); (case b15 => k_is); (case b16 => k_is); (case b17 => k_is); (case b18 => k_is)
