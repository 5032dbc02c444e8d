import PyProof.Rows.All
import HandS.ForMost
import HandS.ForExc
import HandS.Wide
import HandS.IsInst
import HandS.ExcIs
import HandS.CallLocal
import HandS.CallSlots
import HandS.Rev
import HandS.SortKw
import HandS.TupAny
import HandS.SortInts
import HandS.More
import HandS.Text
import HandS.HotCalls
import HandS.Comp
import HandS.ExcCtx
import HandS.ReplaceLit
import HandS.SuiteRaise
import PySem.Challenge.RW_curvehouse_k51_no_curves_texts
set_option pp.maxSteps 400
set_option Elab.async false
set_option linter.all false
set_option maxRecDepth 100000
set_option maxHeartbeats 4000000

/-! A small language (MP) for the pure part of the programs: its syntax, its evaluator. -/
namespace MP
open PySem

/-- a value -/
inductive D where
  | non | bl (b : Bool) | int (i : Int) | str (x : Str) | tup (xs : List D) | ref (n : Nat) | fn (f : Str) | exc (c : Str)
deriving Inhabited
/-- an object that may change -/
inductive Cell where
  | lst (xs : List D)
abbrev Hd := List Cell
inductive R (α : Type) where
  | ok (a : α) (L : Hd) | exc (c : Str) (L : Hd) | bad
def R.bind {α β : Type} (r : R α) (f : α → Hd → R β) : R β := match r with
  | .ok a L => f a L
  | .exc c L => .exc c L
  | .bad => .bad
@[simp] theorem R.bind_ok {α β : Type} (a : α) (L : Hd) (f : α → Hd → R β) : (R.ok a L).bind f = f a L := rfl
@[simp] theorem R.bind_exc {α β : Type} (c : Str) (L : Hd) (f : α → Hd → R β) : (R.exc c L : R α).bind f = .exc c L := rfl
@[simp] theorem R.bind_bad {α β : Type} (f : α → Hd → R β) : (R.bad : R α).bind f = .bad := rfl

inductive Bop where | add | sub | mul | fdiv | mod | pow
deriving DecidableEq
inductive Cop where | lt | le | gt | ge | eq | ne | in_ | nin
deriving DecidableEq
inductive Bi where | abs | len | max | min | int | str | list | tuple | sorted | sortedR
deriving DecidableEq
inductive Ty where | int | bool | str | tuple | list
deriving DecidableEq
inductive Me where | append | pop | popAt | clear | insert | reverse | partition | replace | split | startswith | join
deriving DecidableEq

/-- methods of a text -/
inductive Tm where | partition | split | startswith | join | replace
deriving DecidableEq

inductive Ex where
  | bad | non | bl (b : Bool) | int (i : Int) | str (x : Str)
  | v (i : Nat)
  | k (x : Str) (e : Ex)
  | f (x : Str)
  | nil | cons (a b : Ex) | absent
  | tup (a : Ex) | lst (a : Ex)
  | bin (o : Bop) (a b : Ex)
  | neg (a : Ex) | not (a : Ex)
  | and (a b : Ex) | or (a b : Ex)
  | cmp (o : Cop) (a b : Ex)
  | isn (a : Ex) | notn (a : Ex)
  | ix (a i : Ex)
  | sl (a lo hi : Ex)
  | call (f : Str) (as : Ex)
  | callv (i : Nat) (as : Ex)
  | bi (b : Bi) (as : Ex)
  | isi (a : Ex) (t : Ty)
  | ise (i : Nat) (c : Str)
  | me (m : Me) (o as : Ex)
  | tm (m : Tm) (o as : Ex)
  | lc (s : Nat) (it c e : Ex)
  | rng (as : Ex)
  | rev (a : Ex)
deriving DecidableEq
inductive Sm where
  | bad | pass
  | seq (a b : Sm)
  | set (i : Nat) (e : Ex)
  | setix (a i e : Ex)
  | aug (i : Nat) (o : Bop) (e : Ex)
  | ex (e : Ex)
  | ite (c : Ex) (a b : Sm)
  | wh (c : Ex) (b : Sm)
  | for_ (s : Nat) (it : Ex) (b : Sm)
  | for2 (i j : Nat) (it : Ex) (b : Sm)
  | ret (e : Ex) | retn
  | brk | cnt
  | raise (c : Str)
  | try_ (b : Sm) (c : Str) (s : Option Nat) (h : Sm)
  | setlc (i s : Nat) (it c e : Ex)
  | tryR (b : Sm) (c d : Str)
  | try2 (b : Sm) (c1 : Str) (h1 : Sm) (c2 : Str) (h2 : Sm)
deriving DecidableEq
/-- a def: its parameters' count, its names' count, its body -/
structure Fd where
  np : Nat
  n : Nat
  body : Sm
deriving DecidableEq

abbrev Env := List (Option D)
def LIM : Nat := 16700000

def getL (L : Hd) (n : Nat) : Option (List D) := match L[n]? with
  | some (.lst xs) => some xs
  | none => none
def setL (L : Hd) (n : Nat) (xs : List D) : Hd := L.set n (.lst xs)
def alloc (xs : List D) (L : Hd) : R D := if xs.length ≤ LIM then .ok (.ref L.length) (L ++ [.lst xs]) else .bad

/-! ### operators -/
def mulOk (i j : Int) : Prop := (-(2 ^ 64) < i ∧ i < 2 ^ 64) ∨ (-(2 ^ 64) < j ∧ j < 2 ^ 64) ∨ i.natAbs.log2 + j.natAbs.log2 < 1000000
noncomputable instance (i j : Int) : Decidable (mulOk i j) := Classical.propDecidable _
def divOk (i j : Int) : Prop := j ≠ 0 ∧ Builtin.divisionGoesByPylong i j = false
noncomputable instance (i j : Int) : Decidable (divOk i j) := Classical.propDecidable _
def powOk (i j : Int) : Prop := 0 ≤ j ∧ j ≤ 1000000 ∧ i.natAbs < 2 ^ 64
instance (i j : Int) : Decidable (powOk i j) := by unfold powOk; infer_instance
noncomputable def binop (o : Bop) (x y : D) (L : Hd) : R D := match o, x, y with
  | .add, .int i, .int j => .ok (.int (i + j)) L
  | .add, .str a, .str b => if a.length + b.length ≤ LIM then .ok (.str (a ++ b)) L else .bad
  | .add, .tup a, .tup b => if a.length + b.length ≤ LIM then .ok (.tup (a ++ b)) L else .bad
  | .add, .ref n, .ref m => if n = 0 ∨ m = 0 then .bad else match getL L n, getL L m with
    | some a, some b => if a.length + b.length ≤ LIM then alloc (a ++ b) L else .bad
    | _, _ => .bad
  | .sub, .int i, .int j => .ok (.int (i - j)) L
  | .mul, .int i, .int j => if mulOk i j then .ok (.int (i * j)) L else .bad
  | .fdiv, .int i, .int j => if divOk i j then .ok (.int (i.fdiv j)) L else .bad
  | .mod, .int i, .int j => if j ≠ 0 then .ok (.int (i.fmod j)) L else .bad
  | .pow, .int i, .int j => if powOk i j then .ok (.int (i ^ j.toNat)) L else .bad
  | _, _, _ => .bad

def pyAll (f : D → Option PyData) : List D → Option (List PyData)
  | [] => some []
  | x :: xs => match f x, pyAll f xs with
    | some p, some ps => some (p :: ps)
    | _, _ => none
/-- a value as data, its lists as they stand -/
def pyOf (L : Hd) : Nat → D → Option PyData
  | 0, _ => none
  | _ + 1, .non => some .none
  | _ + 1, .bl b => some (.bool b)
  | _ + 1, .int i => some (.int i)
  | _ + 1, .str x => some (.str x)
  | n + 1, .tup xs => (pyAll (pyOf L n) xs).map PyData.tuple
  | n + 1, .ref r => match getL L r with
    | some xs => (pyAll (pyOf L n) xs).map PyData.list
    | none => none
  | _ + 1, _ => none
/-- how deep data may lie where it is compared -/
def DEEP : Nat := 12
def eqop (x y : D) (L : Hd) (f : Bool → Bool) : R D := match pyOf L DEEP x, pyOf L DEEP y with
  | some p, some q => if SeqAt.shaped p = true ∧ SeqAt.shaped q = true then .ok (.bl (f (PyData.eqv p q))) L else .bad
  | _, _ => .bad
def strsOf : List D → Option (List Str)
  | [] => some []
  | .str x :: xs => (strsOf xs).map (x :: ·)
  | _ :: _ => none
def cmpop (o : Cop) (x y : D) (L : Hd) : R D := match o, x, y with
  | .lt, .int i, .int j => .ok (.bl (decide (i < j))) L
  | .le, .int i, .int j => .ok (.bl (decide (i ≤ j))) L
  | .gt, .int i, .int j => .ok (.bl (decide (j < i))) L
  | .ge, .int i, .int j => .ok (.bl (decide (j ≤ i))) L
  | .eq, x, y => eqop x y L id
  | .ne, x, y => eqop x y L not
  | .in_, .str a, .str b => match a.cps.toList with
    | [c] => .ok (.bl (decide (c ∈ b.cps.toList))) L
    | _ => .bad
  | .nin, .str a, .str b => match a.cps.toList with
    | [c] => .ok (.bl (!decide (c ∈ b.cps.toList))) L
    | _ => .bad
  | .in_, .str a, .tup xs => match strsOf xs with
    | some ys => .ok (.bl (decide (a ∈ ys))) L
    | none => .bad
  | .nin, .str a, .tup xs => match strsOf xs with
    | some ys => .ok (.bl (!decide (a ∈ ys))) L
    | none => .bad
  | _, _, _ => .bad

/-! ### places, slices -/
def ixop (x i : D) (L : Hd) : R D := match x, i with
  | .tup xs, .int i => match L2.atI xs i with
    | some v => .ok v L
    | none => .bad
  | .ref n, .int i => match getL L n with
    | some xs => (match L2.atI xs i with
      | some v => .ok v L
      | none => .bad)
    | none => .bad
  | .str z, .int i => if z.length ≤ LIM then (match L2.atI z.cps.toList i with
    | some c => .ok (.str ⟨#[c]⟩) L
    | none => .bad) else .bad
  | _, _ => .bad
def cut {α : Type} (xs : List α) (lo hi : Option Int) : List α := (xs.drop (HT.sIx xs.length 0 lo)).take (HT.sIx xs.length xs.length hi - HT.sIx xs.length 0 lo)
def part : D → Option (Option Int)
  | .exc _ => some none
  | .int i => some (some i)
  | _ => none
/-- a slice of a value, its bounds known -/
def slop (x : D) (lo hi : Option Int) (L : Hd) : R D := match x with
  | .tup xs => .ok (.tup (cut xs lo hi)) L
  | .ref n => match getL L n with
    | some xs => alloc (cut xs lo hi) L
    | none => .bad
  | .str z => if z.length ≤ LIM then .ok (.str (L2.cutS z lo hi)) L else .bad
  | _ => .bad
def onPart (d : D) (f : Option Int → R D) : R D := match part d with
  | some o => f o
  | none => .bad

/-! ### built-in functions, methods -/
def intsOf : List D → Option (List Int)
  | [] => some []
  | .int x :: xs => (intsOf xs).map (x :: ·)
  | _ :: _ => none
def up (ns : List Int) : List Int := ns.mergeSort (fun a b => decide (a ≤ b))
def biop (b : Bi) (ds : List D) (L : Hd) : R D := match b, ds with
  | .abs, [.int i] => .ok (.int (if i < 0 then -i else i)) L
  | .len, [.tup xs] => .ok (.int xs.length) L
  | .len, [.ref n] => (match getL L n with
    | some xs => .ok (.int xs.length) L
    | none => .bad)
  | .len, [.str z] => if z.length ≤ LIM then .ok (.int z.length) L else .bad
  | .max, [.int i, .int j] => .ok (.int (if j > i then j else i)) L
  | .min, [.int i, .int j] => .ok (.int (if j < i then j else i)) L
  | .int, [.int i] => .ok (.int i) L
  | .int, [.bl k] => .ok (.int (if k then 1 else 0)) L
  | .int, [.str z] => (match intText? z with
    | some n => if z.length ≤ 640 then .ok (.int n) L else .bad
    | none => .bad)
  | .str, [.int i] => if i.natAbs.log2 < 1920 then .ok (.str (Str.ofString (toString i))) L else .bad
  | .list, [.tup xs] => alloc xs L
  | .list, [.ref n] => (match getL L n with
    | some xs => alloc xs L
    | none => .bad)
  | .tuple, [.tup xs] => .ok (.tup xs) L
  | .tuple, [.ref n] => (match getL L n with
    | some xs => .ok (.tup xs) L
    | none => .bad)
  | .sorted, [.ref n] => (match (getL L n).bind intsOf with
    | some ns => alloc ((up ns).map D.int) L
    | none => .bad)
  | .sortedR, [.ref n] => (match (getL L n).bind intsOf with
    | some ns => alloc ((up ns).reverse.map D.int) L
    | none => .bad)
  | _, _ => .bad
def tyop (x : D) (t : Ty) (L : Hd) : R D := match x with
  | .non => .ok (.bl false) L
  | .bl _ => .ok (.bl (t == .bool || t == .int)) L
  | .int _ => .ok (.bl (t == .int)) L
  | .str _ => .ok (.bl (t == .str)) L
  | .tup _ => .ok (.bl (t == .tuple)) L
  | .ref n => (match getL L n with
    | some _ => .ok (.bl (t == .list)) L
    | none => .bad)
  | _ => .bad
def popOk (i : Int) : Prop := -(2 ^ 63) ≤ i ∧ i < 2 ^ 63
noncomputable instance (i : Int) : Decidable (popOk i) := Classical.propDecidable _
noncomputable def meop (m : Me) (x : D) (ds : List D) (L : Hd) : R D := match m, x, ds with
  | .append, .ref n, [y] => if n = 0 then .bad else (match getL L n with
    | some xs => if xs.length < LIM then .ok .non (setL L n (xs ++ [y])) else .bad
    | none => .bad)
  | .pop, .ref n, [] => if n = 0 then .bad else (match getL L n with
    | some xs => (match xs[xs.length - 1]? with
      | some y => .ok y (setL L n xs.dropLast)
      | none => .bad)
    | none => .bad)
  | .popAt, .ref n, [.int i] => if n = 0 then .bad else (match getL L n with
    | some xs => (match L2.ixN xs.length i with
      | some k => (match xs[k]? with
        | some y => if popOk i then .ok y (setL L n (xs.eraseIdx k)) else .bad
        | none => .bad)
      | none => .bad)
    | none => .bad)
  | .clear, .ref n, [] => if n = 0 then .bad else (match getL L n with
    | some _ => .ok .non (setL L n [])
    | none => .bad)
  | .reverse, .ref n, [] => if n = 0 then .bad else (match getL L n with
    | some xs => .ok .non (setL L n xs.reverse)
    | none => .bad)
  | .insert, .ref n, [.int i, y] => if n = 0 then .bad else (match getL L n with
    | some xs => if 0 ≤ i ∧ i ≤ xs.length ∧ xs.length < LIM then .ok .non (setL L n (xs.take i.toNat ++ y :: xs.drop i.toNat)) else .bad
    | none => .bad)
  | _, _, _ => .bad
/-- a walked thing's things, a method of a text -/
def seqOf (d : D) (L : Hd) : Option (List D) := match d with
  | .tup xs => some xs
  | .ref n => getL L n
  | _ => none
def tmop (m : Tm) (x : D) (ds : List D) (L : Hd) : R D := match m, x, ds with
  | .partition, .str a, [.str b] => if (b.length == 0) = false ∧ a.length ≤ LIM then .ok (.tup [.str (Txt.partition a b).1, .str (Txt.partition a b).2.1, .str (Txt.partition a b).2.2]) L else .bad
  | .split, .str a, [.str b] => if (b.length == 0) = false ∧ a.length ≤ LIM then alloc ((Txt.split a b).map D.str) L else .bad
  | .startswith, .str a, [.str b] => .ok (.bl (Txt.startswith a b)) L
  | .replace, .str a, [.str y, .str z] => if (y == z) = false ∧ a.length + (a.length + 1) * z.length ≤ LIM then .ok (.str (Txt.replace a y z)) L else .bad
  | .join, .str a, [d] => (match (seqOf d L).bind strsOf with
    | some ys => if (ys.map (·.length)).sum + ys.length * a.length ≤ LIM then .ok (.str (Txt.join a ys)) L else .bad
    | none => .bad)
  | _, _, _ => .bad
def isStr (x : D) : Bool := match x with
  | .str _ => true
  | _ => false
/-- the receiver's kind -/
def recv (m : Me) (x : D) : Bool := match m, x with
  | .append, .ref _ => true
  | .pop, .ref _ => true
  | .popAt, .ref _ => true
  | .clear, .ref _ => true
  | .reverse, .ref _ => true
  | .insert, .ref _ => true
  | .partition, .str _ => true
  | .replace, .str _ => true
  | .split, .str _ => true
  | .startswith, .str _ => true
  | .join, .str _ => true
  | _, _ => false
/-- the exception classes: all stand straight under CurveError -/
def isSub (a b : Str) : Bool := a == b || b == "CurveError" || b == "ValueError"

/-! ### what is walked -/
/-- the items of a walked thing, and the list that is watched -/
def items (d : D) (L : Hd) : Option (Option Nat × List D) := match d with
  | .tup xs => some (none, xs)
  | .ref n => (getL L n).map fun xs => (some n, xs)
  | .str z => some (none, z.cps.toList.map fun c => D.str ⟨#[c]⟩)
  | _ => none
def small (i : Int) : Prop := -(2 ^ 40) ≤ i ∧ i ≤ 2 ^ 40
noncomputable instance (i : Int) : Decidable (small i) := Classical.propDecidable _
/-- lo, lo + c, .. -/
def steps (lo c : Int) : Nat → List D
  | 0 => []
  | n + 1 => .int lo :: steps (lo + c) c n
def rngOk (i j c : Int) : Prop := c ≠ 0 ∧ c.natAbs < 1073741824 ∧ Builtin.Range.small i j c = true ∧ 0 ≤ Builtin.Range.rangeSize i j c
noncomputable instance (i j c : Int) : Decidable (rngOk i j c) := Classical.propDecidable _
noncomputable def rngop (ds : List D) (L : Hd) : R D := match ds with
  | [.int j] => if small j then .ok (.tup (steps 0 1 j.toNat)) L else .bad
  | [.int i, .int j] => if small i ∧ small j then .ok (.tup (steps i 1 (j - i).toNat)) L else .bad
  | [.int i, .int j, .int c] => if rngOk i j c then .ok (.tup (steps i c (Builtin.Range.rangeSize i j c).toNat)) L else .bad
  | _ => .bad
def revop (d : D) (L : Hd) : R D := match d with
  | .tup xs => .ok (.tup xs.reverse) L
  | _ => .bad
/-- the watched list stands as it did -/
def seen (w : Option Nat) (xs : List D) (L : Hd) : Prop := match w with
  | none => True
  | some n => getL L n = some xs

open Classical in
/-- a comprehension's turns -/
noncomputable def lcGo (c e : D → Hd → R D) (w : Option Nat) (all : List D) : List D → Hd → R (List D)
  | [], L => if seen w all L then .ok [] L else .bad
  | x :: xs, L => if seen w all L then (match c x L with
    | .ok (.bl true) L1 => (match e x L1 with
      | .ok y L2 => (match lcGo c e w all xs L2 with
        | .ok ys L3 => .ok (y :: ys) L3
        | _ => .bad)
      | _ => .bad)
    | .ok (.bl false) L1 => lcGo c e w all xs L1
    | _ => .bad) else .bad

open Classical in
/-- a comprehension's turns, where an exception may leave -/
noncomputable def lcGoX (c e : D → Hd → R D) (w : Option Nat) (all : List D) : List D → Hd → R (List D)
  | [], L => if seen w all L then .ok [] L else .bad
  | x :: xs, L => if seen w all L then (match c x L with
    | .ok (.bl true) L1 => (match e x L1 with
      | .ok y L2 => (match lcGoX c e w all xs L2 with
        | .ok ys L3 => .ok (y :: ys) L3
        | .exc k L3 => .exc k L3
        | .bad => .bad)
      | .exc k L2 => .exc k L2
      | .bad => .bad)
    | .ok (.bl false) L1 => lcGoX c e w all xs L1
    | _ => .bad) else .bad

/-! ### expressions -/
def callOn (Φ : Str → List D → Hd → R D) (f : Str) (d : D) (L : Hd) : R D := match d with
  | .tup ds => Φ f ds L
  | _ => .bad
def onBl (d : D) (t f : R D) : R D := match d with
  | .bl true => t
  | .bl false => f
  | _ => .bad
/-- a name's value -/
def getV (o : Option (Option D)) (L : Hd) : R D := match o with
  | some (some (.exc _)) => .bad
  | some (some d) => .ok d L
  | _ => .bad
noncomputable def evE (Φ : Str → List D → Hd → R D) : Ex → Env → Hd → R D
  | .bad, _, _ => .bad
  | .non, _, L => .ok .non L
  | .bl b, _, L => .ok (.bl b) L
  | .int i, _, L => .ok (.int i) L
  | .str x, _, L => .ok (.str x) L
  | .v i, ρ, L => getV ρ[i]? L
  | .k _ e, _, L => evE Φ e [] L
  | .f x, _, L => .ok (.fn x) L
  | .nil, _, L => .ok (.tup []) L
  | .absent, _, L => .ok (.exc ⟨#[]⟩) L
  | .cons a b, ρ, L => (evE Φ a ρ L).bind fun x L => (evE Φ b ρ L).bind fun y L => (match y with
    | .tup ys => .ok (.tup (x :: ys)) L
    | _ => .bad)
  | .tup a, ρ, L => (evE Φ a ρ L).bind fun x L => (match x with
    | .tup xs => if xs.length ≤ LIM then .ok (.tup xs) L else .bad
    | _ => .bad)
  | .lst a, ρ, L => (evE Φ a ρ L).bind fun x L => (match x with
    | .tup xs => alloc xs L
    | _ => .bad)
  | .bin o a b, ρ, L => (evE Φ a ρ L).bind fun x L => (evE Φ b ρ L).bind fun y L => binop o x y L
  | .neg a, ρ, L => (evE Φ a ρ L).bind fun x L => (match x with
    | .int i => .ok (.int (-i)) L
    | _ => .bad)
  | .not a, ρ, L => (evE Φ a ρ L).bind fun x L => onBl x (.ok (.bl false) L) (.ok (.bl true) L)
  | .and a b, ρ, L => (evE Φ a ρ L).bind fun x L => onBl x (evE Φ b ρ L) (.ok (.bl false) L)
  | .or a b, ρ, L => (evE Φ a ρ L).bind fun x L => onBl x (.ok (.bl true) L) (evE Φ b ρ L)
  | .cmp o a b, ρ, L => (evE Φ a ρ L).bind fun x L => (evE Φ b ρ L).bind fun y L => cmpop o x y L
  | .isn a, ρ, L => (evE Φ a ρ L).bind fun x L => .ok (.bl (match x with | .non => true | _ => false)) L
  | .notn a, ρ, L => (evE Φ a ρ L).bind fun x L => .ok (.bl (match x with | .non => false | _ => true)) L
  | .ix a i, ρ, L => (evE Φ a ρ L).bind fun x L => (evE Φ i ρ L).bind fun y L => ixop x y L
  | .sl a lo hi, ρ, L => (evE Φ a ρ L).bind fun x L => (evE Φ lo ρ L).bind fun l L => onPart l fun l => (evE Φ hi ρ L).bind fun u L => onPart u fun u => slop x l u L
  | .call f as, ρ, L => (evE Φ as ρ L).bind fun d L => callOn Φ f d L
  | .callv i as, ρ, L => (match ρ[i]? with
    | some (some (.fn f)) => (evE Φ as ρ L).bind fun d L => (match callOn Φ f d L with
      | .ok d L => .ok d L
      | _ => .bad)
    | _ => .bad)
  | .bi b as, ρ, L => (evE Φ as ρ L).bind fun d L => (match d with
    | .tup ds => biop b ds L
    | _ => .bad)
  | .isi a t, ρ, L => (evE Φ a ρ L).bind fun x L => tyop x t L
  | .ise i c, ρ, L => (match ρ[i]? with
    | some (some (.exc a)) => .ok (.bl (isSub a c)) L
    | _ => .bad)
  | .me m o as, ρ, L => (evE Φ o ρ L).bind fun x L => if recv m x = true then (evE Φ as ρ L).bind fun d L => (match d with
    | .tup ds => meop m x ds L
    | _ => .bad) else .bad
  | .tm m o as, ρ, L => (evE Φ o ρ L).bind fun x L => if isStr x = true then (evE Φ as ρ L).bind fun d L => (match d with
    | .tup ds => tmop m x ds L
    | _ => .bad) else .bad
  | .lc s it c e, ρ, L => (evE Φ it ρ L).bind fun d L => (match items d L with
    | some (w, xs) => (lcGo (fun x L => evE Φ c (ρ.set s (some x)) L) (fun x L => evE Φ e (ρ.set s (some x)) L) w xs xs L).bind fun ys L => alloc ys L
    | none => .bad)
  | .rng as, ρ, L => (evE Φ as ρ L).bind fun d L => (match d with
    | .tup ds => rngop ds L
    | _ => .bad)
  | .rev a, ρ, L => (evE Φ a ρ L).bind fun d L => revop d L

/-! ### statements -/
inductive O where
  | nx (ρ : Env) (L : Hd) | rt (d : D) (L : Hd) | bk (ρ : Env) (L : Hd) | ct (ρ : Env) (L : Hd) | ex (c : Str) (ρ : Env) (L : Hd) | bad
def R.on {α : Type} (r : R α) (ρ : Env) (f : α → Hd → O) : O := match r with
  | .ok a L => f a L
  | .exc c L => .ex c ρ L
  | .bad => .bad
@[simp] theorem R.on_ok {α : Type} (a : α) (L : Hd) (ρ : Env) (f : α → Hd → O) : (R.ok a L).on ρ f = f a L := rfl
@[simp] theorem R.on_exc {α : Type} (c : Str) (L : Hd) (ρ : Env) (f : α → Hd → O) : (R.exc c L : R α).on ρ f = .ex c ρ L := rfl
@[simp] theorem R.on_bad {α : Type} (ρ : Env) (f : α → Hd → O) : (R.bad : R α).on ρ f = .bad := rfl
def O.then (o : O) (f : Env → Hd → O) : O := match o with
  | .nx ρ L => f ρ L
  | o => o
def ifB (d : D) (t f : O) : O := match d with
  | .bl true => t
  | .bl false => f
  | _ => .bad
/-- a loop's turn is over -/
def O.turn (o : O) (f : Env → Hd → O) : O := match o with
  | .nx ρ L => f ρ L
  | .ct ρ L => f ρ L
  | .bk ρ L => .nx ρ L
  | o => o
def whN (c : Env → Hd → R D) (b : Env → Hd → O) : Nat → Env → Hd → O
  | 0, _, _ => .bad
  | n + 1, ρ, L => (c ρ L).on ρ fun d L => ifB d ((b ρ L).turn fun ρ L => whN c b n ρ L) (.nx ρ L)
open Classical in
noncomputable def whL (c : Env → Hd → R D) (b : Env → Hd → O) (ρ : Env) (L : Hd) : O := if h : ∃ n, whN c b n ρ L ≠ .bad then whN c b (choose h) ρ L else .bad
open Classical in
noncomputable def forGo (b : Env → Hd → O) (s : Nat) (w : Option Nat) (all : List D) : List D → Env → Hd → O
  | [], ρ, L => if seen w all L then .nx ρ L else .bad
  | x :: xs, ρ, L => if seen w all L then (b (ρ.set s (some x)) L).turn fun ρ L => forGo b s w all xs ρ L else .bad
open Classical in
noncomputable def forGo2 (b : Env → Hd → O) (i j : Nat) (w : Option Nat) (all : List D) : List D → Env → Hd → O
  | [], ρ, L => if seen w all L then .nx ρ L else .bad
  | x :: xs, ρ, L => if seen w all L then (match x with
    | .tup [y, z] => (b ((ρ.set i (some y)).set j (some z)) L).turn fun ρ L => forGo2 b i j w all xs ρ L
    | _ => .bad) else .bad
noncomputable def augop (o : Bop) (x : Int) (y : D) : Option Int := match o, y with
  | .add, .int y => some (x + y)
  | .sub, .int y => some (x - y)
  | _, _ => none
noncomputable def run (Φ : Str → List D → Hd → R D) : Sm → Env → Hd → O
  | .bad, _, _ => .bad
  | .pass, ρ, L => .nx ρ L
  | .seq a b, ρ, L => (run Φ a ρ L).then fun ρ L => run Φ b ρ L
  | .set i e, ρ, L => (evE Φ e ρ L).on ρ fun d L => .nx (ρ.set i (some d)) L
  | .setix a i e, ρ, L => (evE Φ e ρ L).on ρ fun y L => (evE Φ a ρ L).on ρ fun x L => (evE Φ i ρ L).on ρ fun k L => (match x, k with
    | .ref n, .int j => if n = 0 then .bad else (match getL L n with
      | some xs => (match L2.ixN xs.length j with
        | some p => .nx ρ (setL L n (xs.set p y))
        | none => .bad)
      | none => .bad)
    | _, _ => .bad)
  | .aug i o e, ρ, L => (match ρ[i]? with
    | some (some (.int x)) => (evE Φ e ρ L).on ρ fun y L => (match augop o x y with
      | some z => .nx (ρ.set i (some (.int z))) L
      | none => .bad)
    | _ => .bad)
  | .ex e, ρ, L => (evE Φ e ρ L).on ρ fun _ L => .nx ρ L
  | .ite c a b, ρ, L => (evE Φ c ρ L).on ρ fun d L => ifB d (run Φ a ρ L) (run Φ b ρ L)
  | .wh c b, ρ, L => whL (fun ρ L => evE Φ c ρ L) (fun ρ L => run Φ b ρ L) ρ L
  | .for_ s it b, ρ, L => (evE Φ it ρ L).on ρ fun d L => (match items d L with
    | some (w, xs) => forGo (fun ρ L => run Φ b ρ L) s w xs xs ρ L
    | none => .bad)
  | .for2 i j it b, ρ, L => (evE Φ it ρ L).on ρ fun d L => (match items d L with
    | some (w, xs) => forGo2 (fun ρ L => run Φ b ρ L) i j w xs xs ρ L
    | none => .bad)
  | .ret e, ρ, L => (evE Φ e ρ L).on ρ fun d L => .rt d L
  | .retn, _, L => .rt .non L
  | .brk, ρ, L => .bk ρ L
  | .cnt, ρ, L => .ct ρ L
  | .raise c, ρ, L => .ex c ρ L
  | .try_ b c s h, ρ, L => (match run Φ b ρ L with
    | .ex c' ρ' L' => if isSub c' c = true then (match s with
      | none => (match run Φ h ρ' L' with
        | .ex _ _ _ => .bad
        | o => o)
      | some i => (match run Φ h (ρ'.set i (some (.exc c'))) L' with
        | .rt d L2 => .rt d L2
        | _ => .bad)) else .ex c' ρ' L'
    | o => o)
  | .setlc i s it c e, ρ, L => (evE Φ it ρ L).on ρ fun d L => (match items d L with
    | some (w, xs) => if xs.length ≤ LIM then ((lcGoX (fun x L => evE Φ c (ρ.set s (some x)) L) (fun x L => evE Φ e (ρ.set s (some x)) L) w xs xs L).bind fun ys L => alloc ys L).on ρ fun d L => .nx (ρ.set i (some d)) L else .bad
    | none => .bad)
  | .tryR b c d, ρ, L => (match run Φ b ρ L with
    | .ex c' ρ' L' => if isSub c' c = true then .ex d ρ' L' else .ex c' ρ' L'
    | o => o)
  | .try2 b c1 h1 c2 h2, ρ, L => (match run Φ b ρ L with
    | .ex c' ρ' L' => if isSub c' c1 = true then (match run Φ h1 ρ' L' with
        | .ex _ _ _ => .bad
        | o => o) else if isSub c' c2 = true then (match run Φ h2 ρ' L' with
        | .ex _ _ _ => .bad
        | o => o) else .ex c' ρ' L'
    | o => o)
/-- a def's run -/
noncomputable def runF (Φ : Str → List D → Hd → R D) (fd : Fd) (ds : List D) (L : Hd) : R D :=
  if ds.length = fd.np then (match run Φ fd.body (ds.map some ++ List.replicate (fd.n - ds.length) none) L with
    | .nx _ L => .ok .non L
    | .rt d L => .ok d L
    | .ex c _ L => .exc c L
    | _ => .bad) else .bad
/-- a program's defs, run to a depth -/
noncomputable def runT (T : Str → Option Fd) : Nat → Str → List D → Hd → R D
  | 0, _, _, _ => .bad
  | k + 1, f, ds, L => match T f with
    | some fd => runF (runT T k) fd ds L
    | none => .bad
end MP

/-! A comprehension that an exception may leave. -/
namespace MP
open PySem PySem.Spec PyProof.Rows L2

/-- what an exception does behind a comprehension's block: its names go, it flies on -/
def goesOn (M : Model) (A : Around) (E : Value → Shared → Prop) (u : Value) (C : Addr) (fr : Option Addr) (t : Shared) : Prop :=
  ∃ m, t.heap.Ns C m ∧ ∀ g, Heap.SameBut C t.heap g → ∀ ce : PySem.Env, ce.locals = C → ce.frame = fr → wpAny M A (PySem.passOn "comprehension.variables-let-go" u ce : Sem Value) (fun _ _ => False) E { t with heap := g }
def endX (M : Model) (A : Around) (E : Value → Shared → Prop) (use : Option (Value → Sem Unit)) (Q : Value → Shared → Prop) (acc : Value) (C : Addr) (fr : Option Addr) : Result → Shared → Prop
  | .ok f, t => compPost M A E use Q acc C (.ok f) t
  | .error u, t => goesOn M A E u C fr t
theorem noteFrame_congr {x : Value} {e1 e2 : PySem.Env} (h : e1.frame = e2.frame) : noteFrame x e1 = noteFrame x e2 := by
  unfold noteFrame PySem.frameOf
  rw [h]

section
variable {M : Model} {A : Around} {E : Value → Shared → Prop} {t0 : Shared} {env : PySem.Env}
/-- the steps of a comprehension; an exception keeps the frame -/
theorem compr_steps {e : Expr} {scope : Scope} {p0 : Pos} {mk fst : Sem Value} {c0 : Comprehension} {cr : List Comprehension} {clo : List (Str × Addr)} {use : Option (Value → Sem Unit)} {Q : Value → Shared → Prop}
    (k1 : clausesOf e = c0 :: cr) (k2 : ∀ x, foldedSetIterable c0.iter env x = pure x) (k3 : closureFor scope env = pure clo) (k4 : scope.kind = .function) (k5 : ∀ y ∈ scope.names, y.2 = .local → scope.names.lookup y.1 = some .local)
    (k : wpAny M A fst (fun x t1 => wpAny M A (pyIter x) (fun it t2 => wpAny M A mk (fun acc t3 => wpAny M A (newFunctionEnv scope env.globals clo [] env.qual none .none (some env))
        (fun ce t4 => codeAny M A (.compStart e 0 it acc { ce with scope := relabel scope env }) (endX M A E use Q acc ce.locals ce.frame) t4) E t3) E t2) E t1) E t0) :
    wpAny M A (comprehension e scope env p0 mk false fst use) Q E t0 := by
  unfold comprehension
  rw [k3, k1]
  have same : ∀ {α : Type} {m : Sem α} {Q1 Q2 : α → Shared → Prop} {t : Shared}, wpAny M A m Q1 E t → (∀ a t', Q1 a t' → Q2 a t') → wpAny M A m Q2 E t := fun h f => wpAny_mono h f fun _ _ z => z
  apply wpAny_bind
  refine same k fun x t1 q1 => ?_
  apply wpAny_bind
  apply wpAny_standAt
  apply wpAny_bind
  refine wpAny_of_eq (k2 x) ?_
  apply wpAny_bind
  apply wpAny_holding
  refine same q1 fun it t2 q2 => ?_
  apply wpAny_standIf
  apply wpAny_bind
  refine same q2 fun acc t3 q3 => ?_
  apply wpAny_bind
  apply wpAny_pure
  apply wpAny_bind
  refine same q3 fun ce t4 q4 => ?_
  dsimp only
  have loc : ∀ l : List (Str × NameKind), (∀ y ∈ l, y ∈ scope.names) → ∀ y ∈ l, y.2 = .local → ({ ce with scope := relabel scope env } : PySem.Env).kindOf y.1 = some .local := fun l hl y hy e2 => lookup_relabel_local (k5 y (hl y hy) e2)
  have inn : ∀ y ∈ (scope.names.filter fun x => (x.2 == .local || x.2 == .cell) && x.1 != (".0" : Str)).reverse, y ∈ scope.names := fun y hy => (List.mem_filter.mp (List.mem_reverse.mp hy)).1
  have turn : ∀ y ∈ (scope.names.filter fun x => (x.2 == .local || x.2 == .cell) && x.1 != (".0" : Str)).reverse.drop 1 ++ (scope.names.filter fun x => (x.2 == .local || x.2 == .cell) && x.1 != (".0" : Str)).reverse.take 1, y ∈ scope.names := fun y hy =>
    (List.mem_append.mp hy).elim (fun z => inn y (List.mem_of_mem_drop z)) fun z => inn y (List.mem_of_mem_take z)
  apply wpAny_holding
  apply wpAny_bind
  apply wpAny_attempt
  apply wpAny_holding
  refine wpAny_run ?_
  refine codeAny_mono q4 fun r t5 q5 => ?_
  cases r with
  | error u =>
    obtain ⟨m, h1, h2⟩ := q5
    apply wpAny_bind
    apply wpAny_holding
    refine wpAny_comp_letGo (cenv := { ce with scope := relabel scope env }) k4 _ t5 m (loc _ inn) h1 fun g m2 _ sb => ?_
    exact wpAny_mono (h2 g sb _ rfl rfl) (fun _ _ z => z.elim) fun _ _ z => z
  | ok f =>
    cases use with
    | none =>
      obtain ⟨m, h1, h2⟩ := q5
      apply wpAny_bind
      apply wpAny_holding
      exact wpAny_comp_letGo (cenv := { ce with scope := relabel scope env }) k4 _ t5 m (loc _ inn) h1 fun g m2 _ sb => wpAny_pure (h2 g sb)
    | some u =>
      apply wpAny_bind
      apply wpAny_rule
      apply wpAny_bind
      apply wpAny_holding
      refine same q5 fun _ t6 ⟨m, h1, h2⟩ => ?_
      apply wpAny_bind
      exact wpAny_comp_letGo (cenv := { ce with scope := relabel scope env }) k4 _ t6 m (loc _ turn) h1 fun g m2 _ sb => wpAny_pure (h2 g sb)
end

/-! ### out of the block -/
theorem frames_move {h1 h2 B1 B2 : Heap} : ∀ {l : List PySem.Env}, h1.FunFrames B1 l → (∀ b ∈ frs l, B2.get? b = none ∧ h2.get? b = h1.get? b) → h2.FunFrames B2 l
  | [], _, _ => trivial
  | e :: l, ⟨x, ⟨b, o, y1, y2, y3, y4⟩, z⟩, k => by
    have hb : b ∈ frs (e :: l) := List.mem_filterMap.mpr ⟨e, List.mem_cons_self, y1⟩
    refine ⟨x, ⟨b, o, y1, (k b hb).1, (k b hb).2.trans y3, y4⟩, frames_move z fun c hc => k c ?_⟩
    obtain ⟨f, f1, f2⟩ := List.mem_filterMap.mp hc
    exact List.mem_filterMap.mpr ⟨f, List.mem_cons_of_mem _ f1, f2⟩
section
variable {X : Cx} {pins : List (Addr × Obj)} {σ : L2.St} {H H' : Hp} {s t t1 : Shared} {a C : Addr} {B : Heap} {Z : Obj → Prop} {h1 : Heap}
/-- noted already, it goes on -/
theorem goes_on (I : Inv X pins σ H s) (fC : FpOk X pins H C) (nC : ∃ m, s.heap.Ns C m) (ub : UB (frs X.stack) H H' s.heap B t.heap) (hok : HOk X.prog X.w H' B) (na : H' a = none) (os : t.os = s.os) (ag : AllBare t.gens)
    (hl : HandSPX.HeldZ B X.stack a Z X.env.locals h1) (up : t.heap.UpToSlots h1)
    (fin : ∀ (B2 : Heap) (sI : Shared) (h2 : Heap), Inv X pins σ H' sI → (∀ b o, sI.heap.get? b = some o → b ∉ frs X.stack → B2.get? b = some o) → sI.heap.UpToSlots h2 → Sky B2 X.stack a Z X.env.locals h2 → t.os = sI.os → X.xe (.ref a) { t with heap := h2 }) :
    goesOn (model X.prog X.w) X.A X.xe (.ref a) C (some X.env.locals) { t with heap := h1 } := by
  obtain ⟨m, oC, es, ep, n1, n2, n3⟩ := nC
  obtain ⟨f0, f1, f2, f3, f4, f5⟩ := fC
  obtain ⟨l1, l2, l3, l4⟩ := hl
  have notF : C ∉ frs X.stack := fun z => (List.mem_cons.mp (I.stkSub C z)).elim f1 f2
  have inB : B.get? C = some oC := ub.keep C oC n1 f0 notF
  have in1 : h1.get? C = some oC := l1 C oC inB
  have offC : ∀ {b : Addr}, B.get? b = none → b ≠ C := fun {b} z e => by
    rw [e, inB] at z
    cases z
  refine ⟨m, ⟨oC, es, ep, in1, n2, n3⟩, fun g sb ce _ hfr => ?_⟩
  obtain ⟨B2, p1, p0⟩ := L2.restrict g fun b => (B.get? b).isSome
  obtain ⟨G, q1, q0⟩ := L2.restrict g fun b => (B.get? b).isSome || decide (b ∈ frs X.stack)
  have gb : ∀ {b : Addr}, b ≠ C → g.get? b = h1.get? b := fun hb => sb.2 _ hb
  have b2n : ∀ {b : Addr}, B.get? b = none → B2.get? b = none := fun {b} z => p0 b (by rw [z]; rfl)
  have b2s : ∀ {b : Addr} {o : Obj}, B.get? b = some o → B2.get? b = g.get? b := fun {b o} z => p1 b (by rw [z]; rfl)
  have b2g : ∀ b o, B2.get? b = some o → g.get? b = some o ∧ ∃ u, B.get? b = some u := fun b o z => by
    cases q : B.get? b with
    | none =>
      rw [b2n q] at z
      cases z
    | some u => exact ⟨(b2s q).symm.trans z, u, rfl⟩
  have gS : ∀ {b : Addr} {o : Obj}, B.get? b = some o → G.get? b = g.get? b := fun {b o} z => q1 b (by rw [z]; rfl)
  have gF : ∀ {b : Addr}, b ∈ frs X.stack → G.get? b = g.get? b := fun {b} z => q1 b (by simp [z])
  have gI : ∀ b o, G.get? b = some o → g.get? b = some o ∧ ((∃ u, B.get? b = some u) ∨ b ∈ frs X.stack) := fun b o z => by
    cases q : B.get? b with
    | some u => exact ⟨(gS q).symm.trans z, .inl ⟨u, rfl⟩⟩
    | none =>
      by_cases hf : b ∈ frs X.stack
      · exact ⟨(gF hf).symm.trans z, .inr hf⟩
      · rw [q0 b (by rw [q]; simp [hf])] at z
        cases z
  obtain ⟨oe, vs, T, oT, ts, x1, x2, x3, x4, x5, x6, x7, x8, x9⟩ := l4
  have tr : HandSPX.TracedZ g B2 a Z (rawInt X.env.locals) := ⟨oe, vs, T, oT, ts, (gb (offC l2)).trans x1, x2, x3, x4, b2n x5, x6, (gb (offC x5)).trans x7, x8, x9⟩
  have ff : g.FunFrames B2 X.stack := frames_move l3 fun b hb => ⟨b2n (l3.mem hb).1, gb (offC (l3.mem hb).1)⟩
  unfold PySem.passOn
  refine wpAny_bind (wpAny_field ((gb (offC l2)).trans x1) x3 x4 ?_)
  rw [if_neg (by simp)]
  apply wpAny_bind
  refine HandSPX.setFlight_anyZ (fun b o z => (b2g b o z).1) ff tr fun h2 y1 y2 y3 y4 => wpAny_throw ?_
  rw [hfr] at y3
  have stG : ∀ b o, B.get? b = some o → b ≠ C → G.get? b = some o := fun b o z hb => (gS z).trans ((gb hb).trans (l1 b o z))
  refine fin B2 { s with heap := G, gens := t.gens, drawn := t.drawn, toks := t.toks } h2 ?_ (fun b o z hb => ?_) (fun b o z hd => ?_) (.inr (.inr ⟨y1, b2n l2, y2, y3⟩)) os
  · refine I.call (ch := [C]) ⟨fun b o e n hb hc => stG b o (ub.keep b o e n hb) (by simpa using hc), fun b o e n hb hc => ?_, fun b o e n _ => ub.free b o e n, fun b o e hc => ?_, ub.tups, ub.frzs, ub.tbls⟩ (fun b o e => ?_) ag (fun b hb => ?_)
    · obtain ⟨sl, w1⟩ := ub.slot b o e hb
      obtain ⟨_, o2, w2, w3⟩ := I.stack.mem hb
      rw [e] at w2
      cases w2
      obtain ⟨sl2, w4⟩ := up b _ w1 w3
      exact ⟨sl2, (gF hb).trans ((gb (by simpa using hc)).trans w4)⟩
    · by_cases hf : b ∈ frs X.stack
      · obtain ⟨sl, w1⟩ := ub.slot b o e hf
        obtain ⟨_, o2, w2, w3⟩ := I.stack.mem hf
        rw [e] at w2
        cases w2
        obtain ⟨sl2, w4⟩ := up b _ w1 w3
        exact ⟨_, (gF hf).trans ((gb (by simpa using hc)).trans w4)⟩
      · obtain ⟨o2, w1⟩ := ub.there b o e hf
        exact ⟨o2, stG b o2 w1 (by simpa using hc)⟩
    · refine (hok b o e).stay (fun c u hc z => stG c u z fun ec => ?_) (fun _ z => z) fun _ _ z => z
      have hC : H' C = none := ub.free C oC n1 f0
      rcases hc with hc | hc
      · rw [← hc, ec, hC] at e
        cases e
      · rw [ec, hC] at hc
        cases hc
    · obtain rfl : b = C := by simpa using hb
      exact ⟨f3, f1, f4, f5⟩
  · rcases (gI b o z).2 with ⟨u, hu⟩ | hu
    · exact (b2s hu).trans (gI b o z).1
    · exact absurd hu hb
  · exact y4 b o (gI b o z).1 hd
/-- what is in the air of a block -/
def airB (X : Cx) (dty : Bool) (W : WX) (σ : L2.St) (s3 : Shared) (H3 : Hp) (scope : Scope) (ce : PySem.Env) (fp : List Addr) (u : Value) (t : Shared) : Prop :=
  ∃ (pb : List (Addr × Obj)) (σb : L2.St) (Hb : Hp) (s : Shared), Inv (X.blk s3 H3 scope ce fp) pb σb Hb s ∧ (L2N.CX X.prog X.w X.stack Hb s (WE W σ) u t ∨ (dty = true ∧ L2.CX X.prog X.w X.stack Hb s (WE W σ) u t))
theorem air_out {dty : Bool} {W : WX} {s3 : Shared} {H3 : Hp} {scope : Scope} {ce : PySem.Env} {fp : List Addr} {u : Value} {E1 : Value → Shared → Prop} (I : Inv X pins σ H3 s3) (hs : X.stack = X.env :: X.outer) (hf : X.env.frame = some X.env.locals) (tk : L2N.Takes X W) (td : dty = true → Takes X W)
    (c1 : ce.locals = s3.heap.objs.size) (c2 : ce.frame = X.env.frame) (f3 : ∀ b ∈ fp, FpOk X pins H3 b) (x : airB X dty W σ s3 H3 scope ce fp u t) :
    wpAny (model X.prog X.w) X.A (noteFrame u ce) (fun _ t2 => goesOn (model X.prog X.w) X.A X.xe u s3.heap.objs.size X.env.frame t2) E1 t := by
  obtain ⟨pb, σb, Hb, s, Ib, x⟩ := x
  have J : Inv X pins σ Hb s := I.call' (ch := fp) Ib.os Ib.base Ib.hok Ib.bare fun b hb => ⟨(f3 b hb).2.2.2.1, (f3 b hb).2.1, (f3 b hb).2.2.2.2.1, (f3 b hb).2.2.2.2.2⟩
  have free : Hb s3.heap.objs.size = none := by
    have z : Hb ce.locals = none := Ib.free
    rw [c1] at z
    exact z
  have nC : ∃ m, s.heap.Ns s3.heap.objs.size m := by
    obtain ⟨m, z, _⟩ := Ib.loc
    have z : s.heap.Ns ce.locals m := z
    rw [c1] at z
    exact ⟨m, z⟩
  have fC := I.fpOk (Nat.le_refl _) free
  have hfr : X.A.frames = some (X.env :: X.outer) := by rw [I.ok.frames, hs]
  rw [noteFrame_congr c2]
  rcases x with ⟨a, B, H', cls, d, rfl, fl, hok, ub, na, os, ag, w⟩ | ⟨hd, a, B, H', cls, d, rfl, fl, hok, ub, na, os, ag, w⟩
  · refine PXN.looks_onZ L2N.Zn.steady hfr hf (hs ▸ fl) fun h' hh up => ?_
    rw [hf]
    refine goes_on J fC nC ub hok na os ag (hs ▸ hh) up fun B2 sI h2 z1 z2 z3 z4 z5 => ?_
    exact tk _ _ ⟨a, B2, sI, pins, σ, H', cls, d, rfl, z1, z2, z3, z4, na, z5, ag, w⟩
  · refine HandSPX.looks_onZ Zc.steady hfr hf (hs ▸ fl) fun h' hh up => ?_
    rw [hf]
    refine goes_on J fC nC ub hok na os ag (hs ▸ hh) up fun B2 sI h2 z1 z2 z3 z4 z5 => ?_
    exact td hd _ _ ⟨a, B2, sI, pins, σ, H', cls, d, rfl, z1, z2, z3, z4, na, z5, ag, w⟩
end
/-- a block whose exceptions are in the air -/
abbrev blkA (X : Cx) (dty : Bool) (W : WX) (σ : L2.St) (s : Shared) (H : Hp) (scope : Scope) (ce : PySem.Env) (fp : List Addr) : Cx := (X.blk s H scope ce fp).wish (airB X dty W σ s H scope ce fp)
theorem airN {X : Cx} {dty : Bool} {W : WX} {σ σb : L2.St} {s : Shared} {H : Hp} {scope : Scope} {ce : PySem.Env} {fp : List Addr} : PassesAt (L2N.CX X.prog X.w) (blkA X dty W σ s H scope ce fp) σb (WE W σ) := fun pb Hb t u t' I c => ⟨pb, σb, Hb, t, I.unwish, .inl c⟩
theorem airD {X : Cx} {dty : Bool} {W : WX} {σ σb : L2.St} {s : Shared} {H : Hp} {scope : Scope} {ce : PySem.Env} {fp : List Addr} (hd : dty = true) : PassesAt (L2.CX X.prog X.w) (blkA X dty W σ s H scope ce fp) σb (WE W σ) := fun pb Hb t u t' I c => ⟨pb, σb, Hb, t, I.unwish, .inr ⟨hd, c⟩⟩
section
variable {X : Cx}
theorem lc_air {pins : List (Addr × Obj)} {s0 : Shared} {σ : L2.St} {H0 : Hp} {Q : VK} {elt tg iter : Expr} {ifs : List Expr} {scope : Scope} {own : List (Str × Nat)} {p1 p2 : Pos} {wi : TI} {g : TG} {tt : TT} {te : TE} {use : Option (Value → Sem Unit)} {Qf : Value → Shared → Prop} {dty : Bool} {W : WX}
    (hc : X.calm = true) (hN : X.N.Nodup) (I : Inv X pins σ H0 s0) (hst : X.stack = X.env :: X.outer) (hfm : X.env.frame = some X.env.locals) (tk : L2N.Takes X W) (td : dty = true → Takes X W)
    (hi : PI X tg iter wi) (ok : BlkOk X.N X.env.scope scope own)
    (hg : ∀ (s : Shared) (H : Hp) (C : Addr) (cl : List (Str × Addr)) (fp : List Addr), PG (blkA X dty W σ s H scope (compEnvC scope cl C X.env) fp) tg g)
    (ht : ∀ (s : Shared) (H : Hp) (C : Addr) (cl : List (Str × Addr)) (fp : List Addr), PTs (blkA X dty W σ s H scope (compEnvC scope cl C X.env) fp) ifs tt)
    (he : ∀ (s : Shared) (H : Hp) (C : Addr) (cl : List (Str × Addr)) (fp : List Addr), PE (blkA X dty W σ s H scope (compEnvC scope cl C X.env) fp) elt te)
    (hs : ∀ x, foldedSetIterable iter X.env x = pure x) (h : tLc wi g tt te (own.map (·.2)) σ H0 Q)
    (fin : ∀ D C t m H', Inv X pins σ H' t → Q (.ref D) H' → t.heap.Ns C m → FpOk X pins H' C → compPost (model X.prog X.w) X.A X.xe use Qf (.ref D) C (.ok .next) t) :
    wpAny (model X.prog X.w) X.A (comprehension (.ListComp elt [⟨tg, iter, ifs, 0⟩] scope p1) scope X.env p2 (newList []) false (eval iter X.env) use) Qf X.xe s0 := by
  have clo : ∀ y ∈ scope.names, y.2 = .free → ∃ c, X.env.cells.lookup y.1 = some c := fun y hy e =>
    I.ok.has _ (ok.free y hy e)
  refine compr_steps (use := use) rfl hs (closure_ok clo) ok.kind (fun y hy e => (ok.uniq y hy).trans (by rw [e])) ?_
  refine thn (hi.run pins s0 σ H0 _ I h) fun xv t1 hx => thn hx fun itv t2 hit => ?_
  obtain ⟨it, fp, tn, J, H2, rfl, I2, T, st2, f2, q⟩ := hit
  refine wpAny_newObj_type (newEnv_comp ?_) (by show 0 ≤ sizeLine; decide)
  obtain ⟨D, hD⟩ : ∃ D, t2.heap.objs.size = D := ⟨_, rfl⟩
  have dn : H2 D = none := I2.hok.fresh (Nat.le_of_eq hD)
  obtain ⟨V, ⟨m0, v0⟩, turn⟩ := q D dn
  obtain ⟨t3, e3⟩ : ∃ t3 : Shared, t3 = { t2 with heap := t2.heap.push { cls := .type "list", data := .seq ([] : List Value).toArray } } := ⟨_, rfl⟩
  have h3 : t3.heap = t2.heap.push { cls := .type "list", data := .seq ([] : List Value).toArray } := by rw [e3]
  have more : ∀ b o, t2.heap.get? b = some o → t3.heap.get? b = some o := fun b o e => by
    rw [h3]
    exact Heap.get?_push_of_some _ e
  have I3 : Inv X pins σ (upd H2 D (.lst [])) t3 := by
    rw [e3]
    refine I2.laid (t' := t2.toks) (fun b o e => Heap.get?_push_of_some _ e) (Nat.le_of_eq hD) ⟨Nat.zero_le _, [], 0, .nil, ?_⟩
    rw [← hD]
    exact Heap.get?_push_size _ rfl
  obtain ⟨H3, eH⟩ : ∃ H3, upd H2 D (.lst []) = H3 := ⟨_, rfl⟩
  have f3 : ∀ b ∈ fp, FpOk X pins H3 b ∧ b < t3.heap.objs.size := fun b hb => by
    obtain ⟨o, ho, _⟩ := T.obj _ _ st2 b hb
    have lt := Heap.lt_size ho
    refine ⟨⟨?_, (f2 b hb).2⟩, Heap.lt_size (more b o ho)⟩
    rw [← eH, upd_ne (by rw [← hD]; exact Nat.ne_of_lt lt)]
    exact (f2 b hb).1
  rw [eH] at I3 v0
  have st3 : tn 0 t3.heap := T.keep _ _ _ st2 fun b _ o e => more b o e
  have I4 := block_start I3 ok hN f3
  obtain ⟨cl, ecl⟩ : ∃ cl, cellsFrom (t3.heap.objs.size + 1) scope.names (cloFrom X.env.cells scope.names []) = cl := ⟨_, rfl⟩
  obtain ⟨t4, e4⟩ : ∃ t4 : Shared, t4 = { t3 with heap := pushCells (t3.heap.push { cls := .type "dict", data := .dict #[] }) scope.names } := ⟨_, rfl⟩
  rw [ecl, ← e4] at I4
  have st4 : tn 0 t4.heap := T.keep _ _ _ st3 fun b _ o e => by
    rw [e4]
    exact pushCells_keeps _ _ _ _ (Heap.get?_push_of_some _ e)
  obtain ⟨ce, ece⟩ : ∃ ce, compEnvC scope cl t3.heap.objs.size X.env = ce := ⟨_, rfl⟩
  have cL : ce.locals = t3.heap.objs.size := by
    rw [← ece]
    rfl
  have cF : ce.frame = X.env.frame := by
    rw [← ece]
    rfl
  have pg := hg t3 H3 t3.heap.objs.size cl fp
  have pt := ht t3 H3 t3.heap.objs.size cl fp
  have pe := he t3 H3 t3.heap.objs.size cl fp
  rw [ece] at I4 pg pt pe
  have goal : codeAny (model X.prog X.w) X.A (.compStart (.ListComp elt [⟨tg, iter, ifs, 0⟩] scope p1) 0 (.ref it) (.ref D) ce) (endX (model X.prog X.w) X.A X.xe use Qf (.ref D) ce.locals ce.frame) t4 := by
    rw [cL, cF]
    have I4 : Inv (blkA X dty W σ t3 H3 scope ce fp) [] (wipe σ (own.map (·.2))) H3 t4 := I4.wish _
    have n3 : ∀ b ∈ fp, H3 b = none := fun b hb => (f3 b hb).1.1
    have out : ∀ u t, airB X dty W σ t3 H3 scope ce fp u t → notedBy (model X.prog X.w) X.A ce (fun u t => endX (model X.prog X.w) X.A X.xe use Qf (.ref D) t3.heap.objs.size X.env.frame (.error u) t) u t := fun u t x =>
      air_out I3 hst hfm tk td cL cF (fun b hb => (f3 b hb).1) x
    have stat : ∀ {σ' : L2.St} {H' : Hp} {t : Shared}, Inv (blkA X dty W σ t3 H3 scope ce fp) [] σ' H' t → (∀ b ∈ fp, H' b = none) → ∀ b ∈ fp, FpOk (blkA X dty W σ t3 H3 scope ce fp) [] H' b := fun I' n b hb =>
      ⟨n b hb, (I'.ok.exf b hb).1, I'.ok.exfs b hb, .inl hb, (I'.ok.exf b hb).2, fun p hp => absurd hp List.not_mem_nil⟩
    have loop : codeAny (model X.prog X.w) X.A (.compLoop (.ListComp elt [⟨tg, iter, ifs, 0⟩] scope p1) 0 (.ref it) (.ref D) ce) (endX (model X.prog X.w) X.A X.xe use Qf (.ref D) t3.heap.objs.size X.env.frame) t4 := by
      refine compLoop_any (fun n t => ∃ i H', Inv (blkA X dty W σ t3 H3 scope ce fp) [] (wipe σ (own.map (·.2))) H' t ∧ tn i t.heap ∧ (∀ b ∈ fp, H' b = none) ∧ V i n H') ?_ m0 ⟨0, H3, I4, st4, n3, v0⟩
      intro n t5 ⟨i, H5, I5, st5, n5, v5⟩
      rcases turn i n H5 v5 with ⟨stop, qq⟩ | ⟨go, Nx, less, step⟩
      · refine thnF (T.done (blkA X dty W σ t3 H3 scope ce fp) rfl rfl rfl hc i [] t5 _ H5 (fun _ _ => False) I5 (stat I5 n5) st5 stop) fun r t6 hr => ?_
        obtain ⟨rfl, I6⟩ := hr
        have back : Inv X pins σ H5 t6 := I3.call' (ch := fp) I6.os I6.base I6.hok I6.bare fun b hb => ⟨(f3 b hb).1.2.2.2.1, (f3 b hb).1.2.1, (f3 b hb).1.2.2.2.2.1, (f3 b hb).1.2.2.2.2.2⟩
        have z : H5 ce.locals = none := I6.free
        obtain ⟨m, hn, _⟩ := I6.loc
        have hn : t6.heap.Ns ce.locals m := hn
        rw [cL] at z hn
        exact fin D t3.heap.objs.size t6 m H5 back qq hn (I3.fpOk (Nat.le_refl _) z)
      · refine thnF (T.item (blkA X dty W σ t3 H3 scope ce fp) rfl rfl rfl hc i [] t5 _ H5 (fun _ _ => False) I5 (stat I5 n5) st5 go) fun r t6 hr => ?_
        obtain ⟨u, rfl, h6⟩ := hr
        refine thnF h6 fun _ t7 h7 => ?_
        obtain ⟨x, H7, I7, r7, y7, st7, n7⟩ := h7
        have J7 := I7.pinned (stat I7 n7) (T.obj _ _ st7)
        refine wpAny_mono (pg.run _ t7 _ H7 x u _ J7 r7 (step x H7 y7)) (fun _ t8 h8 => ?_) out
        obtain ⟨σ8, H8, I8, w8, q8⟩ := h8
        refine wpAny_mono (pt.run _ t8 σ8 H8 _ I8 q8) (fun b t9 h9 => ?_) out
        obtain ⟨H9, I9, q9⟩ := h9
        have next : ∀ {t : Shared} {H' : Hp}, Inv (blkA X dty W σ t3 H3 scope ce fp) ([] ++ pinsAt fp t7.heap) σ8 H' t → Nx H' → ∃ m, m < n ∧ ∃ i H', Inv (blkA X dty W σ t3 H3 scope ce fp) [] (wipe σ (own.map (·.2))) H' t ∧ tn i t.heap ∧ (∀ b ∈ fp, H' b = none) ∧ V i m H' := fun {t H'} I' nx => by
          obtain ⟨m', hm, v'⟩ := less H' nx
          have kept : ∀ b ∈ fp, ∀ o, t7.heap.get? b = some o → t.heap.get? b = some o ∧ H' b = none := fun b hb o e => by
            have z := I'.pin (b, o) (List.mem_append_right _ (List.mem_append_right _ (mem_pinsAt hb e)))
            exact ⟨z.1, z.2.1⟩
          refine ⟨m', hm, i + 1, H', (I'.unpinned (pins := [])).weak (by rw [← w8, wipe_length]) (fun j v e => ?_), T.keep _ _ _ st7 fun b hb o e => (kept b hb o e).1, fun b hb => ?_, v'⟩
          · rw [← w8] at e
            exact (wipe_some e).1
          · obtain ⟨o, e, _⟩ := T.obj _ _ st7 b hb
            exact (kept b hb o e).2
        cases b with
        | false =>
          rw [if_neg Bool.false_ne_true] at q9 ⊢
          exact next I9 q9
        | true =>
          rw [if_pos rfl] at q9 ⊢
          refine wpAny_mono (pe.run _ t9 σ8 H9 _ I9 q9) (fun z t10 h10 => ?_) out
          obtain ⟨yv, H10, I10, r10, acc, hD10, hz10, nx⟩ := h10
          exact app_ok (X := blkA X dty W σ t3 H3 scope ce fp) I10 hD10 hz10 r10 fun t11 I11 => next I11 nx
    exact codeAny_compStart_list loop (T.self X.A 0 _ _ _ st4 loop)
  rw [← ece, ← ecl, e4, e3, ← hD] at goal
  exact goal
end
end MP

/-! What stands for a value of MP in the heap; operators by values. -/
namespace MP
open PySem PySem.Spec PyProof.Rows L2

section
variable (K : PySem.W.Frag) (fa : Str → Option Addr)
mutual
inductive RV (H : Hp) (α : List Addr) : D → V → Prop
  | non : RV H α .non .non
  | bl (b : Bool) : RV H α (.bl b) (.bl b)
  | int (i : Int) : RV H α (.int i) (.int i)
  | str (x : Str) : RV H α (.str x) (.str x)
  | tup {a : Addr} {ds : List D} {vs : List V} : SqT K H a vs → RVs H α ds vs → RV H α (.tup ds) (.ref a)
  | ref {n : Nat} {a : Addr} : α[n]? = some a → RV H α (.ref n) (.ref a)
  | fn {f : Str} {a : Addr} : fa f = some a → RV H α (.fn f) (.ref a)
inductive RVs (H : Hp) (α : List Addr) : List D → List V → Prop
  | nil : RVs H α [] []
  | cons {d : D} {v : V} {ds : List D} {vs : List V} : RV H α d v → RVs H α ds vs → RVs H α (d :: ds) (v :: vs)
end
def Frz (H : Hp) (a : Addr) (vs : List V) : Prop := (∃ o, H a = some (.frz o (.lst vs))) ∨
  ∃ (o : Obj) (its : Array Value) (n : Nat), K.lookup a = some o ∧ o.cls = .type "list" ∧ o.dict = none ∧ o.data = .seq its n ∧ its.size ≤ sizeLine ∧ Vals vs its.toList
/-- the lists: the script at place 0, the others may change -/
structure RHp (H : Hp) (α : List Addr) (L : Hd) : Prop where
  len : α.length = L.length
  ne : 0 < α.length
  nd : α.tail.Nodup
  zero : ∀ a xs, α[0]? = some a → L[0]? = some (.lst xs) → ∃ vs, RVs K fa H α xs vs ∧ Frz K H a vs
  lst : ∀ n a xs, α[n + 1]? = some a → L[n + 1]? = some (.lst xs) → ∃ vs, RVs K fa H α xs vs ∧ H a = some (.lst vs)
end
/-- from here to there: what stood stands, but the lists -/
structure Ext (H : Hp) (α : List Addr) (H' : Hp) (α' : List Addr) : Prop where
  app : ∃ β, α' = α ++ β ∧ ∀ b ∈ β, H b = none
  keep : ∀ b o, H b = some o → b ∉ α.tail → H' b = some o
  there : ∀ b, H' b = none → H b = none

theorem tail_app {α : Type} {l m : List α} (h : 0 < l.length) : (l ++ m).tail = l.tail ++ m := by
  cases l with
  | nil => simp at h
  | cons x r => rfl
theorem Ext.refl {H : Hp} {α : List Addr} : Ext H α H α := ⟨⟨[], by simp, fun _ h => by cases h⟩, fun _ _ h _ => h, fun _ h => h⟩
theorem Ext.trans {H H1 H2 : Hp} {α α1 α2 : List Addr} (hn : 0 < α.length) (e : Ext H α H1 α1) (f : Ext H1 α1 H2 α2) : Ext H α H2 α2 := by
  obtain ⟨β, rfl, h1⟩ := e.app
  obtain ⟨γ, rfl, h2⟩ := f.app
  refine ⟨⟨β ++ γ, by simp, fun b hb => ?_⟩, fun b o h hb => ?_, fun b h => e.there b (f.there b h)⟩
  · rcases List.mem_append.mp hb with hb | hb
    · exact h1 b hb
    · exact e.there b (h2 b hb)
  · refine f.keep b o (e.keep b o h hb) ?_
    rw [tail_app hn]
    intro hm
    rcases List.mem_append.mp hm with hm | hm
    · exact hb hm
    · rw [h1 b hm] at h
      cases h

section
variable {K : PySem.W.Frag} {fa : Str → Option Addr} {H H' : Hp} {α α' : List Addr} {L : Hd}
theorem RVs.length : ∀ {ds : List D} {vs : List V}, RVs K fa H α ds vs → ds.length = vs.length
  | _, _, .nil => rfl
  | _, _, .cons _ t => by
    rw [List.length_cons, List.length_cons, RVs.length t]
theorem RVs.get : ∀ {ds : List D} {vs : List V} {i : Nat} {d : D}, RVs K fa H α ds vs → ds[i]? = some d → ∃ v, vs[i]? = some v ∧ RV K fa H α d v
  | _, _, _, _, .nil, h => by simp at h
  | _, _, 0, _, .cons r _, h => by
    cases h
    exact ⟨_, rfl, r⟩
  | _, _, i + 1, _, .cons _ t, h => RVs.get (i := i) t h
theorem RVs.append : ∀ {ds es : List D} {vs us : List V}, RVs K fa H α ds vs → RVs K fa H α es us → RVs K fa H α (ds ++ es) (vs ++ us)
  | _, _, _, _, .nil, s => s
  | _, _, _, _, .cons r t, s => .cons r (RVs.append t s)
theorem RVs.take : ∀ {ds : List D} {vs : List V} (n : Nat), RVs K fa H α ds vs → RVs K fa H α (ds.take n) (vs.take n)
  | _, _, 0, _ => by simpa using RVs.nil
  | _, _, _ + 1, .nil => .nil
  | _, _, n + 1, .cons r t => .cons r (RVs.take n t)
theorem RVs.drop : ∀ {ds : List D} {vs : List V} (n : Nat), RVs K fa H α ds vs → RVs K fa H α (ds.drop n) (vs.drop n)
  | _, _, 0, r => r
  | _, _, _ + 1, .nil => .nil
  | _, _, n + 1, .cons _ t => RVs.drop n t
theorem RVs.set : ∀ {ds : List D} {vs : List V} {d : D} {v : V} (n : Nat), RVs K fa H α ds vs → RV K fa H α d v → RVs K fa H α (ds.set n d) (vs.set n v)
  | _, _, _, _, _, .nil, _ => .nil
  | _, _, _, _, 0, .cons _ t, r => .cons r t
  | _, _, _, _, n + 1, .cons q t, r => .cons q (RVs.set n t r)
theorem RVs.rev : ∀ {ds : List D} {vs : List V}, RVs K fa H α ds vs → RVs K fa H α ds.reverse vs.reverse
  | _, _, .nil => .nil
  | _, _, .cons r t => by
    rw [List.reverse_cons, List.reverse_cons]
    exact (RVs.rev t).append (.cons r .nil)
theorem RVs.erase : ∀ {ds : List D} {vs : List V} (n : Nat), RVs K fa H α ds vs → RVs K fa H α (ds.eraseIdx n) (vs.eraseIdx n)
  | _, _, _, .nil => .nil
  | _, _, 0, .cons _ t => t
  | _, _, n + 1, .cons q t => .cons q (RVs.erase n t)
theorem RVs.ints : ∀ {ds : List D} {vs : List V} {ns : List Int}, RVs K fa H α ds vs → intsOf ds = some ns → vs = ns.map V.int
  | _, _, _, .nil, h => by
    cases h
    rfl
  | _, _, ns, .cons (ds := ds) r t, h => by
    cases r with
    | int i =>
      cases q : intsOf ds with
      | none =>
        have h' : (intsOf ds).map (i :: ·) = some ns := h
        rw [q] at h'
        cases h'
      | some ms =>
        have h' : (intsOf ds).map (i :: ·) = some ns := h
        rw [q] at h'
        cases h'
        rw [RVs.ints t q]
        rfl
    | _ => cases h
theorem RVs.ofInts : ∀ (ns : List Int), RVs K fa H α (ns.map D.int) (ns.map V.int)
  | [] => .nil
  | i :: ns => .cons (.int i) (RVs.ofInts ns)

theorem Frz.seq {a : Addr} {vs : List V} (h : Frz K H a vs) : SqL K H a vs := by
  rcases h with ⟨o, h⟩ | h
  · exact .inl (.inr ⟨o, h⟩)
  · exact .inr h
theorem RHp.tl (h : RHp K fa H α L) : ∀ b ∈ α.tail, ∃ vs, H b = some (.lst vs) := fun b hb => by
  obtain ⟨i, hi⟩ := List.mem_iff_getElem?.mp hb
  have hi' : α[i + 1]? = some b := by
    rw [← hi]
    cases α <;> simp
  have hl : i + 1 < α.length := by
    obtain ⟨q, _⟩ := List.getElem?_eq_some_iff.mp hi'
    exact q
  rw [h.len] at hl
  cases q : L[i + 1] with
  | lst xs =>
    obtain ⟨vs, _, e⟩ := h.lst i b xs hi' (by rw [List.getElem?_eq_getElem hl, q])
    exact ⟨vs, e⟩
theorem RHp.seq (h : RHp K fa H α L) {n : Nat} {a : Addr} {xs : List D} (ha : α[n]? = some a) (hx : getL L n = some xs) : ∃ vs, RVs K fa H α xs vs ∧ SqL K H a vs := by
  have hx' : L[n]? = some (.lst xs) := by
    unfold getL at hx
    cases q : L[n]? with
    | none =>
      rw [q] at hx
      cases hx
    | some c =>
      cases c with
      | lst ys =>
        rw [q] at hx
        cases hx
        rfl
  cases n with
  | zero =>
    obtain ⟨vs, r, f⟩ := h.zero a xs ha hx'
    exact ⟨vs, r, f.seq⟩
  | succ n =>
    obtain ⟨vs, r, f⟩ := h.lst n a xs ha hx'
    exact ⟨vs, r, SqL.of f⟩
theorem RHp.mut (h : RHp K fa H α L) {n : Nat} {a : Addr} {xs : List D} (hn : n ≠ 0) (ha : α[n]? = some a) (hx : getL L n = some xs) : ∃ vs, RVs K fa H α xs vs ∧ H a = some (.lst vs) := by
  cases n with
  | zero => exact absurd rfl hn
  | succ n =>
    have hx' : L[n + 1]? = some (.lst xs) := by
      unfold getL at hx
      cases q : L[n + 1]? with
      | none =>
        rw [q] at hx
        cases hx
      | some c =>
        cases c with
        | lst ys =>
          rw [q] at hx
          cases hx
          rfl
    exact h.lst n a xs ha hx'
theorem RHp.has (h : RHp K fa H α L) {n : Nat} {xs : List D} (hx : getL L n = some xs) : ∃ a, α[n]? = some a := by
  have : n < L.length := by
    unfold getL at hx
    cases q : L[n]? with
    | none =>
      rw [q] at hx
      cases hx
    | some c =>
      obtain ⟨h1, _⟩ := List.getElem?_eq_some_iff.mp q
      exact h1
  rw [← h.len] at this
  exact ⟨_, List.getElem?_eq_getElem this⟩

/-! ### from here to there -/
theorem sqtExt {a : Addr} {vs : List V} (h : SqT K H a vs) (e : Ext H α H' α') (ht : ∀ b ∈ α.tail, ∃ vs, H b = some (.lst vs)) : SqT K H' a vs := by
  have no : ∀ o, H a = some o → (∀ vs, o ≠ .lst vs) → H' a = some o := fun o ho hd => e.keep a o ho fun hm => by
    obtain ⟨us, z⟩ := ht a hm
    rw [ho] at z
    cases z
    exact hd us rfl
  rcases h with (h | ⟨o, h⟩) | h
  · exact .inl (.inl (no _ h fun _ z => nomatch z))
  · exact .inl (.inr ⟨o, no _ h fun _ z => nomatch z⟩)
  · exact .inr h
mutual
theorem RV.ext (e : Ext H α H' α') (ht : ∀ b ∈ α.tail, ∃ vs, H b = some (.lst vs)) : ∀ {d : D} {v : V}, RV K fa H α d v → RV K fa H' α' d v
  | _, _, .non => .non
  | _, _, .bl b => .bl b
  | _, _, .int i => .int i
  | _, _, .str x => .str x
  | _, _, .tup h r => .tup (sqtExt h e ht) (RVs.ext e ht r)
  | _, _, .ref h => by
    obtain ⟨β, rfl, _⟩ := e.app
    refine .ref ?_
    rw [List.getElem?_append_left (List.getElem?_eq_some_iff.mp h).1]
    exact h
  | _, _, .fn h => .fn h
theorem RVs.ext (e : Ext H α H' α') (ht : ∀ b ∈ α.tail, ∃ vs, H b = some (.lst vs)) : ∀ {ds : List D} {vs : List V}, RVs K fa H α ds vs → RVs K fa H' α' ds vs
  | _, _, .nil => .nil
  | _, _, .cons r t => .cons (RV.ext e ht r) (RVs.ext e ht t)
end
theorem Frz.ext {a : Addr} {vs : List V} (h : Frz K H a vs) (e : Ext H α H' α') (ht : ∀ b ∈ α.tail, ∃ vs, H b = some (.lst vs)) : Frz K H' a vs := by
  rcases h with ⟨o, h⟩ | h
  · refine .inl ⟨o, e.keep a _ h fun hm => ?_⟩
    obtain ⟨us, z⟩ := ht a hm
    rw [h] at z
    cases z
  · exact .inr h
/-- a new thing that is no list of ours -/
theorem Ext.new {p : Addr} {o : HO} (hp : H p = none) : Ext H α (upd H p o) α := by
  refine ⟨⟨[], by simp, fun _ h => by cases h⟩, fun b u h _ => ?_, fun b h => ?_⟩
  · rw [upd_ne (ne_of_none h hp)]
    exact h
  · by_cases e : b = p
    · subst e
      exact hp
    · rw [upd_ne e] at h
      exact h
theorem RHp.new {p : Addr} {o : HO} (h : RHp K fa H α L) (hp : H p = none) : RHp K fa (upd H p o) α L := by
  have e : Ext H α (upd H p o) α := Ext.new hp
  refine ⟨h.len, h.ne, h.nd, fun a xs h1 h2 => ?_, fun n a xs h1 h2 => ?_⟩
  · obtain ⟨vs, r, f⟩ := h.zero a xs h1 h2
    exact ⟨vs, r.ext e h.tl, f.ext e h.tl⟩
  · obtain ⟨vs, r, f⟩ := h.lst n a xs h1 h2
    refine ⟨vs, r.ext e h.tl, ?_⟩
    rw [upd_ne (ne_of_none f hp)]
    exact f
/-- a new list -/
theorem Ext.alloc {p : Addr} {o : HO} (hp : H p = none) : Ext H α (upd H p o) (α ++ [p]) := by
  refine ⟨⟨[p], rfl, fun b hb => ?_⟩, fun b u h _ => ?_, fun b h => ?_⟩
  · have : b = p := by simpa using hb
    subst this
    exact hp
  · rw [upd_ne (ne_of_none h hp)]
    exact h
  · by_cases e : b = p
    · subst e
      exact hp
    · rw [upd_ne e] at h
      exact h
theorem RHp.alloc {p : Addr} {xs : List D} {vs : List V} (h : RHp K fa H α L) (hp : H p = none) (r : RVs K fa H α xs vs) : RHp K fa (upd H p (.lst vs)) (α ++ [p]) (L ++ [.lst xs]) := by
  have e : Ext H α (upd H p (.lst vs)) (α ++ [p]) := Ext.alloc hp
  refine ⟨by simp [h.len], by simp, ?_, fun a ys h1 h2 => ?_, fun n a ys h1 h2 => ?_⟩
  · rw [tail_app h.ne, List.nodup_append]
    refine ⟨h.nd, by simp, fun a ha b hb => ?_⟩
    have : b = p := by simpa using hb
    subst this
    intro q
    subst q
    obtain ⟨us, z⟩ := h.tl _ ha
    rw [hp] at z
    cases z
  · have hl : 0 < L.length := by rw [← h.len]; exact h.ne
    rw [List.getElem?_append_left h.ne] at h1
    rw [List.getElem?_append_left hl] at h2
    obtain ⟨us, r, f⟩ := h.zero a ys h1 h2
    exact ⟨us, r.ext e h.tl, f.ext e h.tl⟩
  · by_cases hn : n + 1 < α.length
    · rw [List.getElem?_append_left hn] at h1
      rw [List.getElem?_append_left (by rw [← h.len]; exact hn)] at h2
      obtain ⟨us, r, f⟩ := h.lst n a ys h1 h2
      refine ⟨us, r.ext e h.tl, ?_⟩
      rw [upd_ne (ne_of_none f hp)]
      exact f
    · have hm : n + 1 = α.length := by
        obtain ⟨q, _⟩ := List.getElem?_eq_some_iff.mp h1
        simp at q
        omega
      rw [hm, List.getElem?_append_right (Nat.le_refl _)] at h1
      rw [hm, h.len, List.getElem?_append_right (Nat.le_refl _)] at h2
      simp at h1 h2
      subst h1 h2
      exact ⟨vs, r.ext e h.tl, upd_same⟩
/-- a list changed -/
theorem Ext.set {a : Addr} {o : HO} (ha : a ∈ α.tail) (hx : ∃ u, H a = some u) : Ext H α (upd H a o) α := by
  refine ⟨⟨[], by simp, fun _ h => by cases h⟩, fun b u h hb => ?_, fun b h => ?_⟩
  · rw [upd_ne (fun e => hb (by rw [e]; exact ha))]
    exact h
  · by_cases e : b = a
    · subst e
      rw [upd_same] at h
      cases h
    · rw [upd_ne e] at h
      exact h
theorem mem_tail {n : Nat} {a : Addr} (h : α[n + 1]? = some a) : a ∈ α.tail := by
  cases α with
  | nil => simp at h
  | cons x r => exact List.mem_of_getElem? (i := n) (by simpa using h)
theorem RHp.set {n : Nat} {a : Addr} {xs : List D} {vs : List V} (h : RHp K fa H α L) (hn : n ≠ 0) (ha : α[n]? = some a) (r : RVs K fa H α xs vs) : RHp K fa (upd H a (.lst vs)) α (setL L n xs) ∧ Ext H α (upd H a (.lst vs)) α := by
  cases n with
  | zero => exact absurd rfl hn
  | succ n =>
    have hm := mem_tail ha
    have e : Ext H α (upd H a (.lst vs)) α := Ext.set hm (let ⟨us, z⟩ := h.tl a hm; ⟨_, z⟩)
    refine ⟨⟨by simp [h.len, setL], h.ne, h.nd, fun b ys h1 h2 => ?_, fun m b ys h1 h2 => ?_⟩, e⟩
    · have h2' : L[0]? = some (.lst ys) := by
        rw [← h2]
        unfold setL
        rw [List.getElem?_set_ne (by omega)]
      obtain ⟨us, r, f⟩ := h.zero b ys h1 h2'
      exact ⟨us, r.ext e h.tl, f.ext e h.tl⟩
    · by_cases hmn : m = n
      · subst hmn
        rw [ha] at h1
        cases h1
        have hl : m + 1 < L.length := by
          rw [← h.len]
          exact (List.getElem?_eq_some_iff.mp ha).1
        unfold setL at h2
        rw [List.getElem?_set_self hl] at h2
        cases h2
        exact ⟨vs, r.ext e h.tl, upd_same⟩
      · have h2' : L[m + 1]? = some (.lst ys) := by
          rw [← h2]
          unfold setL
          rw [List.getElem?_set_ne (by omega)]
        obtain ⟨us, r, f⟩ := h.lst m b ys h1 h2'
        refine ⟨us, r.ext e h.tl, ?_⟩
        have hba : b ≠ a := by
          intro q
          subst q
          have t1 : α.tail[m]? = some b := by
            rw [← h1]
            cases α <;> simp
          have t2 : α.tail[n]? = some b := by
            rw [← ha]
            cases α <;> simp
          exact hmn (nd_ix h.nd t1 t2)
        rw [upd_ne hba]
        exact f
end

/-! ### what is wanted behind a value -/
section
variable (K : PySem.W.Frag) (fa ca : Str → Option Addr)
/-- of a run that raises nothing -/
def PostV (r : R D) (H : Hp) (α : List Addr) (Q : VK) : Prop := match r with
  | .ok d L => ∀ v H' α', Ext H α H' α' → RHp K fa H' α' L → RV K fa H' α' d v → Q v H'
  | _ => False
def Post (W : WX) (σ : L2.St) (r : R D) (H : Hp) (α : List Addr) (Q : VK) : Prop := match r with
  | .ok d L => ∀ v H' α', Ext H α H' α' → RHp K fa H' α' L → RV K fa H' α' d v → Q v H'
  | .exc c L => ∀ C H' α', ca c = some C → Ext H α H' α' → RHp K fa H' α' L → W (.ref C) none σ H'
  | .bad => False
/-- of a test -/
def PostT (W : WX) (σ : L2.St) (r : R D) (H : Hp) (α : List Addr) (Q : Bool → Hp → Prop) : Prop := match r with
  | .ok d L => ∃ b, d = .bl b ∧ ∀ H' α', Ext H α H' α' → RHp K fa H' α' L → Q b H'
  | .exc c L => ∀ C H' α', ca c = some C → Ext H α H' α' → RHp K fa H' α' L → W (.ref C) none σ H'
  | .bad => False
/-- of an argument list -/
def PostA (W : WX) (σ : L2.St) (r : R D) (H : Hp) (α : List Addr) (Q : List V → Hp → Prop) : Prop := match r with
  | .ok d L => ∃ ds, d = .tup ds ∧ ∀ vs H' α', Ext H α H' α' → RHp K fa H' α' L → RVs K fa H' α' ds vs → Q vs H'
  | .exc c L => ∀ C H' α', ca c = some C → Ext H α H' α' → RHp K fa H' α' L → W (.ref C) none σ H'
  | .bad => False
/-- the names -/
def REnv (η : Option (Addr × Str)) (H : Hp) (α : List Addr) (ρ : Env) (σ : L2.St) : Prop :=
  ρ.length = σ.length ∧ (∀ (i : Nat) (d : D), ρ[i]? = some (some d) → (∀ c, d ≠ D.exc c) → ∃ v : V, σ[i]? = some (some v) ∧ RV K fa H α d v) ∧
    ∀ (i : Nat) (c : Str), ρ[i]? = some (some (D.exc c)) → ∃ a : Addr, η = some (a, c) ∧ σ[i]? = some (some (V.ref a))
def semE (W : WX) (η : Option (Addr × Str)) (ev : Env → Hd → R D) : TE := fun σ H Q => ∃ ρ L α, REnv K fa η H α ρ σ ∧ RHp K fa H α L ∧ Post K fa ca W σ (ev ρ L) H α Q
def semT (W : WX) (η : Option (Addr × Str)) (ev : Env → Hd → R D) : TT := fun σ H Q => ∃ ρ L α, REnv K fa η H α ρ σ ∧ RHp K fa H α L ∧ PostT K fa ca W σ (ev ρ L) H α Q
def semA (W : WX) (η : Option (Addr × Str)) (ev : Env → Hd → R D) : TA := fun σ H Q => ∃ ρ L α, REnv K fa η H α ρ σ ∧ RHp K fa H α L ∧ PostA K fa ca W σ (ev ρ L) H α Q
end
section
variable {K : PySem.W.Frag} {fa ca : Str → Option Addr} {H H' : Hp} {α α' : List Addr} {L : Hd} {ρ : Env} {σ : L2.St} {η : Option (Addr × Str)} {W : WX}
theorem REnv.ext (h : REnv K fa η H α ρ σ) (e : Ext H α H' α') (p : RHp K fa H α L) : REnv K fa η H' α' ρ σ := by
  refine ⟨h.1, fun i d h1 h2 => ?_, h.2.2⟩
  obtain ⟨v, h3, r⟩ := h.2.1 i d h1 h2
  exact ⟨v, h3, r.ext e p.tl⟩
theorem RV.noExc {d : D} {v : V} (r : RV K fa H α d v) : ∀ c, d ≠ .exc c := fun c e => by
  subst e
  cases r
theorem REnv.set {i : Nat} {d : D} {v : V} (h : REnv K fa η H α ρ σ) (r : RV K fa H α d v) : REnv K fa η H α (ρ.set i (some d)) (σ.set i (some v)) := by
  refine ⟨by simp [h.1], fun j e h1 h2 => ?_, fun j c h1 => ?_⟩
  · by_cases hj : i = j
    · subst hj
      by_cases hl : i < ρ.length
      · rw [List.getElem?_set_self hl] at h1
        cases h1
        exact ⟨v, List.getElem?_set_self (by rw [← h.1]; exact hl), r⟩
      · rw [List.getElem?_eq_none (by simpa using hl)] at h1
        cases h1
    · rw [List.getElem?_set_ne hj] at h1 ⊢
      exact h.2.1 j e h1 h2
  · by_cases hj : i = j
    · subst hj
      by_cases hl : i < ρ.length
      · rw [List.getElem?_set_self hl] at h1
        cases h1
        exact absurd rfl (r.noExc c)
      · rw [List.getElem?_eq_none (by simpa using hl)] at h1
        cases h1
    · rw [List.getElem?_set_ne hj] at h1 ⊢
      exact h.2.2 j c h1
theorem REnv.unset {i : Nat} (h : REnv K fa η H α ρ σ) : REnv K fa η H α (ρ.set i none) (σ.set i none) := by
  refine ⟨by simp [h.1], fun j e h1 h2 => ?_, fun j c h1 => ?_⟩
  · by_cases hj : i = j
    · subst hj
      by_cases hl : i < ρ.length
      · rw [List.getElem?_set_self hl] at h1
        cases h1
      · rw [List.getElem?_eq_none (by simpa using hl)] at h1
        cases h1
    · rw [List.getElem?_set_ne hj] at h1 ⊢
      exact h.2.1 j e h1 h2
  · by_cases hj : i = j
    · subst hj
      by_cases hl : i < ρ.length
      · rw [List.getElem?_set_self hl] at h1
        cases h1
      · rw [List.getElem?_eq_none (by simpa using hl)] at h1
        cases h1
    · rw [List.getElem?_set_ne hj] at h1 ⊢
      exact h.2.2 j c h1
/-- from a later point -/
theorem Post.from {r : R D} {Q : VK} (hn : 0 < α.length) (e : Ext H α H' α') (h : Post K fa ca W σ r H α Q) : Post K fa ca W σ r H' α' Q := by
  cases r with
  | ok d L => exact fun v H2 α2 e2 => h v H2 α2 (e.trans hn e2)
  | exc c L => exact fun C H2 α2 hc e2 => h C H2 α2 hc (e.trans hn e2)
  | bad => exact h
theorem PostV.from {r : R D} {Q : VK} (hn : 0 < α.length) (e : Ext H α H' α') (h : PostV K fa r H α Q) : PostV K fa r H' α' Q := by
  cases r with
  | ok d L => exact fun v H2 α2 e2 => h v H2 α2 (e.trans hn e2)
  | exc c L => exact h
  | bad => exact h
theorem PostT.from {r : R D} {Q : Bool → Hp → Prop} (hn : 0 < α.length) (e : Ext H α H' α') (h : PostT K fa ca W σ r H α Q) : PostT K fa ca W σ r H' α' Q := by
  cases r with
  | ok d L =>
    obtain ⟨b, hb, h⟩ := h
    exact ⟨b, hb, fun H2 α2 e2 => h H2 α2 (e.trans hn e2)⟩
  | exc c L => exact fun C H2 α2 hc e2 => h C H2 α2 hc (e.trans hn e2)
  | bad => exact h
theorem PostA.from {r : R D} {Q : List V → Hp → Prop} (hn : 0 < α.length) (e : Ext H α H' α') (h : PostA K fa ca W σ r H α Q) : PostA K fa ca W σ r H' α' Q := by
  cases r with
  | ok d L =>
    obtain ⟨b, hb, h⟩ := h
    exact ⟨b, hb, fun vs H2 α2 e2 => h vs H2 α2 (e.trans hn e2)⟩
  | exc c L => exact fun C H2 α2 hc e2 => h C H2 α2 hc (e.trans hn e2)
  | bad => exact h
/-- a run that raises nothing -/
def Calm (r : R D) : Prop := ∀ c L, r ≠ .exc c L
theorem Post.v {r : R D} {Q : VK} (c : Calm r) (h : Post K fa ca W σ r H α Q) : PostV K fa r H α Q := by
  cases r with
  | ok d L => exact h
  | exc x L => exact absurd rfl (c x L)
  | bad => exact h
/-- what comes first -/
theorem Post.first {r : R D} {f : D → Hd → R D} {Q Q' : VK} (hn : 0 < α.length) (h : Post K fa ca W σ (r.bind f) H α Q)
    (k : ∀ d L v H' α', r = .ok d L → Ext H α H' α' → RHp K fa H' α' L → RV K fa H' α' d v → Post K fa ca W σ (f d L) H' α' Q → Q' v H') : Post K fa ca W σ r H α Q' := by
  cases r with
  | ok d L => exact fun v H' α' e p rv => k d L v H' α' rfl e p rv (Post.from hn e h)
  | exc c L => exact h
  | bad => exact h
end

/-- r2 of the sem -/
def rSem2 (K : PySem.W.Frag) (fa : Str → Option Addr) (h : D → D → Hd → R D) : R2 := fun x y H Q => ∃ d e L α, RHp K fa H α L ∧ RV K fa H α d x ∧ RV K fa H α e y ∧ PostV K fa (h d e L) H α Q
def rSem1 (K : PySem.W.Frag) (fa : Str → Option Addr) (h : D → Hd → R D) : V → Hp → VK → Prop := fun x H Q => ∃ d L α, RHp K fa H α L ∧ RV K fa H α d x ∧ PostV K fa (h d L) H α Q
def rSemL (K : PySem.W.Frag) (fa : Str → Option Addr) (h : List D → Hd → R D) : List V → Hp → VK → Prop := fun xs H Q => ∃ ds L α, RHp K fa H α L ∧ RVs K fa H α ds xs ∧ PostV K fa (h ds L) H α Q
def rSemM (K : PySem.W.Frag) (fa : Str → Option Addr) (h : D → List D → Hd → R D) : V → List V → Hp → VK → Prop := fun x xs H Q => ∃ d ds L α, RHp K fa H α L ∧ RV K fa H α d x ∧ RVs K fa H α ds xs ∧ PostV K fa (h d ds L) H α Q
section
variable {K : PySem.W.Frag} {fa ca : Str → Option Addr} {H : Hp} {σ : L2.St} {η : Option (Addr × Str)} {W : WX} {Q : VK} {f g : Env → Hd → R D}
theorem sem2 {h : D → D → Hd → R D} (c : ∀ x y L, Calm (h x y L)) (q : semE K fa ca W η (fun ρ L => (f ρ L).bind fun x L => (g ρ L).bind fun y L => h x y L) σ H Q) :
    tOp (rSem2 K fa h) (semE K fa ca W η f) (semE K fa ca W η g) σ H Q := by
  obtain ⟨ρ, L, α, re, rp, q⟩ := q
  refine ⟨ρ, L, α, re, rp, q.first rp.ne fun d L1 v H1 α1 e0 e1 p1 r1 q1 => ?_⟩
  refine ⟨ρ, L1, α1, re.ext e1 rp, p1, q1.first p1.ne fun d2 L2 v2 H2 α2 e0 e2 p2 r2 q2 => ?_⟩
  exact ⟨d, d2, L2, α2, p2, r1.ext e2 p1.tl, r2, q2.v (c _ _ _)⟩
theorem sem1 {h : D → Hd → R D} (c : ∀ x L, Calm (h x L)) (q : semE K fa ca W η (fun ρ L => (f ρ L).bind fun x L => h x L) σ H Q) :
    tUn (rSem1 K fa h) (semE K fa ca W η f) σ H Q := by
  obtain ⟨ρ, L, α, re, rp, q⟩ := q
  refine ⟨ρ, L, α, re, rp, q.first rp.ne fun d L1 v H1 α1 e0 e1 p1 r1 q1 => ?_⟩
  exact ⟨d, L1, α1, p1, r1, q1.v (c _ _)⟩
end
section
variable {X : Cx} {e : Expr}
theorem peImp {t u : TE} (h : PE X e t) (i : ∀ σ H Q, u σ H Q → t σ H Q) : PE X e u := ⟨fun pins s σ H Q I q => h.run pins s σ H Q I (i σ H Q q)⟩
theorem ptImp {t u : TT} (h : PT X e t) (i : ∀ σ H Q, u σ H Q → t σ H Q) : PT X e u := ⟨fun pins s σ H Q I q => h.run pins s σ H Q I (i σ H Q q)⟩
theorem pwImp {t u : TT} (h : PW X e t) (i : ∀ σ H Q, u σ H Q → t σ H Q) : PW X e u := ⟨fun wh pins s σ H Q I q => h.run wh pins s σ H Q I (i σ H Q q)⟩
theorem paImp {es : List Expr} {t u : TA} (h : PA X es t) (i : ∀ σ H Q, u σ H Q → t σ H Q) : PA X es u := ⟨fun pos pins s σ H Q I q => h.run pos pins s σ H Q I (i σ H Q q)⟩
end
end MP

/-! Operators of MP by values, over the hand layer's rules. -/
namespace MP
open PySem PySem.Spec PyProof.Rows L2

theorem limLe {n : Nat} (h : n ≤ LIM) : n ≤ sizeLine := by
  rw [sizeLine_eq]
  unfold LIM at h
  omega
theorem limLt {n : Nat} (h : n < LIM) : n < sizeLine := by
  rw [sizeLine_eq]
  unfold LIM at h
  omega
section
variable {X : Cx} {fa : Str → Option Addr}
theorem op_mulA : OpR X (binaryOp .Mult) (rI mulOk fun i j => .int (i * j)) := opI fun i j _ _ _ _ _ hc q => mul_int q (by
  rcases hc with h | h | h
  · exact CMul.ok (.inl h)
  · exact CMul.ok (.inr h)
  · exact CMulW.ok h)
theorem op_fdivA : OpR X (binaryOp .FloorDiv) (rI divOk fun i j => .int (i.fdiv j)) := opI fun _ _ _ _ _ _ _ hc q => floordiv_int hc.1 q (.inl hc.2)

def toOp : Bop → Operator
  | .add => .Add
  | .sub => .Sub
  | .mul => .Mult
  | .fdiv => .FloorDiv
  | .mod => .Mod
  | .pow => .Pow
theorem binop_calm (o : Bop) (x y : D) (L : Hd) : Calm (binop o x y L) := fun c L' e => by
  unfold binop alloc at e
  repeat' split at e
  all_goals cases e
theorem alloc_calm (xs : List D) (L : Hd) : Calm (alloc xs L) := fun c L' e => by
  unfold alloc at e
  repeat' split at e
  all_goals cases e
/-- a new list, told -/
theorem alloc_post {K : PySem.W.Frag} {H : Hp} {α : List Addr} {L : Hd} {xs : List D} {vs : List V} {Q : VK} (p : RHp K fa H α L) (r : RVs K fa H α xs vs) (q : PostV K fa (alloc xs L) H α Q) :
    ∀ l, H l = none → Q (.ref l) (upd H l (.lst vs)) := fun l hl => by
  unfold alloc at q
  split at q
  · refine q _ _ _ (Ext.alloc hl) (p.alloc hl r) (.ref ?_)
    rw [← p.len, List.getElem?_append_right (Nat.le_refl _)]
    simp
  · exact q.elim
theorem alloc_lim {K : PySem.W.Frag} {H : Hp} {α : List Addr} {L : Hd} {xs : List D} {Q : VK} (q : PostV K fa (alloc xs L) H α Q) : xs.length ≤ LIM := by
  unfold alloc at q
  split at q
  · assumption
  · exact q.elim

theorem op_bin (o : Bop) : OpR X (binaryOp (toOp o)) (rSem2 X.K fa (binop o)) := by
  intro pins s σ H x y v u Q I rx ry h
  obtain ⟨d, e, L, α, p, r1, r2, q⟩ := h
  have fin : ∀ {c : D} {z : V}, PostV X.K fa (.ok c L) H α Q → (∀ {H' α'}, RV X.K fa H' α' c z) → Q z H := fun q r => q _ _ _ Ext.refl p r
  unfold binop at q
  split at q
  · cases r1; cases r2
    exact op_add pins s σ H _ _ v u Q I rx ry ⟨_, _, rfl, rfl, fin q (.int _)⟩
  · cases r1; cases r2
    split at q
    · exact op_add_str pins s σ H _ _ v u Q I rx ry ⟨_, _, rfl, rfl, limLe (by assumption), fin q (.str _)⟩
    · exact q.elim
  · cases r1 with
    | tup h1 r1 =>
      cases r2 with
      | tup h2 r2 =>
        split at q
        · rename_i hz
          rw [r1.length, r2.length] at hz
          refine op_catA pins s σ H _ _ v u Q I rx ry ⟨_, _, _, _, rfl, rfl, h1, h2, limLe hz, fun e1 => ?_, fun _ e2 => ?_, fun _ _ t ht => ?_⟩
          · subst e1
            cases r1
            exact q _ _ _ Ext.refl p (.tup h2 r2)
          · subst e2
            cases r2
            rw [List.append_nil] at q
            exact q _ _ _ Ext.refl p (.tup h1 r1)
          · exact q _ _ _ (Ext.new ht) (p.new ht) (.tup (SqT.of upd_same) ((r1.append r2).ext (Ext.new ht) p.tl))
        · exact q.elim
  · rename_i n m
    cases r1 with
    | ref h1 =>
      cases r2 with
      | ref h2 =>
        split at q
        · exact q.elim
        · rename_i hz
          have hz1 : n ≠ 0 := fun e => hz (.inl e)
          have hz2 : m ≠ 0 := fun e => hz (.inr e)
          split at q
          · rename_i a b ha hb
            split at q
            · rename_i hl
              obtain ⟨us, s1, f1⟩ := p.mut hz1 h1 ha
              obtain ⟨ws, s2, f2⟩ := p.mut hz2 h2 hb
              rw [s1.length, s2.length] at hl
              exact op_cat pins s σ H _ _ v u Q I rx ry ⟨_, _, _, _, rfl, rfl, f1, f2, limLe hl, alloc_post p (s1.append s2) q⟩
            · exact q.elim
          · exact q.elim
  · cases r1; cases r2
    exact op_sub pins s σ H _ _ v u Q I rx ry ⟨_, _, rfl, rfl, fin q (.int _)⟩
  · cases r1; cases r2
    split at q
    · exact op_mulA pins s σ H _ _ v u Q I rx ry ⟨_, _, rfl, rfl, by assumption, fin q (.int _)⟩
    · exact q.elim
  · cases r1; cases r2
    split at q
    · exact op_fdivA pins s σ H _ _ v u Q I rx ry ⟨_, _, rfl, rfl, by assumption, fin q (.int _)⟩
    · exact q.elim
  · cases r1; cases r2
    split at q
    · exact op_modN pins s σ H _ _ v u Q I rx ry ⟨_, _, rfl, rfl, by assumption, fin q (.int _)⟩
    · exact q.elim
  · cases r1; cases r2
    split at q
    · exact op_pow pins s σ H _ _ v u Q I rx ry ⟨_, _, rfl, rfl, by assumption, fin q (.int _)⟩
    · exact q.elim
  · exact q.elim

/-! ### comparisons -/
theorem pyAll_dp {K : PySem.W.Frag} {H : Hp} {α : List Addr} {f : D → Option PyData} (hf : ∀ d v p, f d = some p → RV K fa H α d v → Dp K H v p) : ∀ {ds : List D} {vs : List V} {ps : List PyData}, pyAll f ds = some ps → RVs K fa H α ds vs → DpAll K H vs ps
  | [], _, ps, h, .nil => by
    cases h
    exact .nil
  | d :: ds, _, ps, h, .cons r t => by
    unfold pyAll at h
    split at h
    · rename_i p ps' h1 h2
      cases h
      exact .cons (hf d _ p h1 r) (pyAll_dp hf h2 t)
    · cases h
theorem pyOf_dp {K : PySem.W.Frag} {H : Hp} {α : List Addr} {L : Hd} (hp : RHp K fa H α L) : ∀ (n : Nat) (d : D) (v : V) (p : PyData), pyOf L n d = some p → RV K fa H α d v → Dp K H v p
  | 0, _, _, _, h, _ => by
    unfold pyOf at h
    cases h
  | n + 1, d, v, p, h, r => by
    cases r with
    | non =>
      cases h
      exact .non
    | bl b =>
      cases h
      exact .bl b
    | int i =>
      cases h
      exact .int i
    | str x =>
      cases h
      exact .str x
    | @tup a ds vs hs rs =>
      cases q : pyAll (pyOf L n) ds with
      | none =>
        have h' : (pyAll (pyOf L n) ds).map PyData.tuple = some p := h
        rw [q] at h'
        cases h'
      | some ps =>
        have h' : (pyAll (pyOf L n) ds).map PyData.tuple = some p := h
        rw [q] at h'
        cases h'
        exact .tup hs (pyAll_dp (pyOf_dp hp n) q rs)
    | @ref m a ha =>
      have h' : (match getL L m with | some xs => (pyAll (pyOf L n) xs).map PyData.list | none => none) = some p := h
      split at h'
      · rename_i xs hx
        cases q : pyAll (pyOf L n) xs with
        | none =>
          rw [q] at h'
          cases h'
        | some ps =>
          rw [q] at h'
          cases h'
          obtain ⟨vs, rs, hs⟩ := hp.seq ha hx
          exact .lst hs (pyAll_dp (pyOf_dp hp n) q rs)
      · cases h'
    | fn hf => cases h
def toCmp : Cop → CmpOp
  | .lt => .Lt
  | .le => .LtE
  | .gt => .Gt
  | .ge => .GtE
  | .eq => .Eq
  | .ne => .NotEq
  | .in_ => .In
  | .nin => .NotIn
theorem eqop_calm (x y : D) (L : Hd) (f : Bool → Bool) : Calm (eqop x y L f) := fun c L' e => by
  unfold eqop at e
  repeat' split at e
  all_goals cases e
theorem cmpop_calm (o : Cop) (x y : D) (L : Hd) : Calm (cmpop o x y L) := fun c L' e => by
  unfold cmpop at e
  split at e
  all_goals first
    | exact eqop_calm _ _ _ _ c L' e
    | (repeat' split at e)
  all_goals cases e
theorem strs_flat {K : PySem.W.Frag} {H : Hp} {α : List Addr} {a : Str} : ∀ {ds : List D} {vs : List V} {ys : List Str}, strsOf ds = some ys → RVs K fa H α ds vs → vs.all flatV = true ∧ inV (.str a) vs = decide (a ∈ ys)
  | [], _, ys, h, .nil => by
    cases h
    exact ⟨rfl, by simp [inV]⟩
  | d :: ds, _, ys, h, .cons (v := v) (vs := vs) r t => by
    cases r with
    | str x =>
      cases q : strsOf ds with
      | none =>
        have h' : (strsOf ds).map (x :: ·) = some ys := h
        rw [q] at h'
        cases h'
      | some zs =>
        have h' : (strsOf ds).map (x :: ·) = some ys := h
        rw [q] at h'
        cases h'
        obtain ⟨h1, h2⟩ := strs_flat (a := a) q t
        refine ⟨by rw [List.all_cons, h1]; rfl, ?_⟩
        have e1 : inV (.str a) (V.str x :: vs) = ((x == a) || inV (.str a) vs) := rfl
        rw [e1, h2]
        by_cases hxa : a = x
        · subst hxa
          simp
        · have : (x == a) = false := by
            rw [beq_eq_false_iff_ne]
            exact fun z => hxa z.symm
          rw [this]
          simp [hxa]
    | _ => cases h
theorem op_cmp (hu : X.A.units + 64 < cLine) (o : Cop) : OpR X (compareOp (toCmp o)) (rSem2 X.K fa (cmpop o)) := by
  intro pins s σ H x y v u Q I rx ry h
  obtain ⟨d, e, L, α, p, r1, r2, q⟩ := h
  have fin : ∀ {k : Bool}, PostV X.K fa (.ok (.bl k) L) H α Q → Q (.bl k) H := fun q => q _ _ _ Ext.refl p (.bl _)
  unfold cmpop at q
  split at q
  · cases r1; cases r2
    exact op_lt pins s σ H _ _ v u Q I rx ry ⟨_, _, rfl, rfl, fin q⟩
  · cases r1; cases r2
    exact op_le pins s σ H _ _ v u Q I rx ry ⟨_, _, rfl, rfl, fin q⟩
  · cases r1; cases r2
    exact op_gt pins s σ H _ _ v u Q I rx ry ⟨_, _, rfl, rfl, fin q⟩
  · cases r1; cases r2
    exact op_ge pins s σ H _ _ v u Q I rx ry ⟨_, _, rfl, rfl, fin q⟩
  · unfold eqop at q
    split at q
    · rename_i a b ha hb
      split at q
      · rename_i hs
        exact op_eqD hu pins s σ H _ _ v u Q I rx ry ⟨a, b, pyOf_dp p _ _ _ _ ha r1, pyOf_dp p _ _ _ _ hb r2, hs.1, hs.2, fin q⟩
      · exact q.elim
    · exact q.elim
  · unfold eqop at q
    split at q
    · rename_i a b ha hb
      split at q
      · rename_i hs
        exact op_neD hu pins s σ H _ _ v u Q I rx ry ⟨a, b, pyOf_dp p _ _ _ _ ha r1, pyOf_dp p _ _ _ _ hb r2, hs.1, hs.2, fin q⟩
      · exact q.elim
    · exact q.elim
  · cases r1; cases r2
    rename_i a b
    split at q
    · rename_i c hc
      have ea : a = ⟨#[c]⟩ := by
        obtain ⟨⟨l⟩⟩ := a
        simp only at hc
        rw [hc]
      subst ea
      exact op_in_sign pins s σ H _ _ v u Q I rx ry ⟨_, _, rfl, rfl, fin q⟩
    · exact q.elim
  · cases r1; cases r2
    rename_i a b
    split at q
    · rename_i c hc
      have ea : a = ⟨#[c]⟩ := by
        obtain ⟨⟨l⟩⟩ := a
        simp only at hc
        rw [hc]
      subst ea
      exact op_notIn_sign pins s σ H _ _ v u Q I rx ry ⟨_, _, rfl, rfl, fin q⟩
    · exact q.elim
  · cases r1
    cases r2 with
    | tup h2 r2 =>
      split at q
      · rename_i ys hy
        obtain ⟨f1, f2⟩ := strs_flat (a := _) hy r2
        exact op_in_seq pins s σ H _ _ v u Q I rx ry ⟨_, _, rfl, .inr h2, rfl, f1, by
          rw [f2]
          exact fin q⟩
      · exact q.elim
  · cases r1
    cases r2 with
    | tup h2 r2 =>
      split at q
      · rename_i ys hy
        obtain ⟨f1, f2⟩ := strs_flat (a := _) hy r2
        exact op_notIn_seq pins s σ H _ _ v u Q I rx ry ⟨_, _, rfl, .inr h2, rfl, f1, by
          rw [f2]
          exact fin q⟩
      · exact q.elim
  · exact q.elim

/-! ### places -/
theorem atI_some {α : Type} {xs : List α} {i : Int} {v : α} (h : atI xs i = some v) : ∃ j, ixN xs.length i = some j ∧ xs[j]? = some v := by
  unfold atI at h
  cases q : ixN xs.length i with
  | none =>
    rw [q] at h
    cases h
  | some j =>
    rw [q] at h
    exact ⟨j, rfl, h⟩
theorem atI_of {α : Type} {xs : List α} {i : Int} {v : α} {j : Nat} (h : ixN xs.length i = some j) (h2 : xs[j]? = some v) : atI xs i = some v := by
  unfold atI
  rw [h]
  exact h2
theorem RVs.at {K : PySem.W.Frag} {H : Hp} {α : List Addr} {ds : List D} {vs : List V} {i : Int} {d : D} (r : RVs K fa H α ds vs) (h : atI ds i = some d) : ∃ v, atI vs i = some v ∧ RV K fa H α d v := by
  obtain ⟨j, h1, h2⟩ := atI_some h
  obtain ⟨v, h3, rv⟩ := r.get h2
  exact ⟨v, atI_of (by rw [← r.length]; exact h1) h3, rv⟩
theorem ixop_calm (x y : D) (L : Hd) : Calm (ixop x y L) := fun c L' e => by
  unfold ixop at e
  repeat' split at e
  all_goals cases e
theorem ix_sem : IxR X (rSem2 X.K fa ixop) := by
  intro value slice pins s σ H x y v u Q I rx ry h hs
  obtain ⟨d, e, L, α, p, r1, r2, q⟩ := h
  unfold ixop at q
  split at q
  · cases r2
    cases r1 with
    | tup h1 r1 =>
      split at q
      · rename_i z hz
        obtain ⟨w, h3, rw_⟩ := r1.at hz
        exact ix_tup value slice pins s σ H _ _ v u Q I rx ry ⟨_, _, _, _, rfl, rfl, h1, h3, q _ _ _ Ext.refl p rw_⟩ hs
      · exact q.elim
  · cases r2
    cases r1 with
    | ref h1 =>
      split at q
      · rename_i xs hx
        split at q
        · rename_i z hz
          obtain ⟨vs, rs, hq⟩ := p.seq h1 hx
          obtain ⟨w, h3, rw_⟩ := rs.at hz
          exact ix_list value slice pins s σ H _ _ v u Q I rx ry ⟨_, _, _, _, rfl, rfl, hq, h3, q _ _ _ Ext.refl p rw_⟩ hs
        · exact q.elim
      · exact q.elim
  · cases r1; cases r2
    split at q
    · rename_i hz
      split at q
      · rename_i c hc
        exact ix_str value slice pins s σ H _ _ v u Q I rx ry ⟨_, _, _, rfl, rfl, limLe hz, hc, q _ _ _ Ext.refl p (.str _)⟩ hs
      · exact q.elim
    · exact q.elim
  · exact q.elim
end
end MP

/-! Built-in functions, methods, slices of MP, over the hand layer's rules. -/
namespace MP
open PySem PySem.Spec PyProof.Rows L2

section
variable {X : Cx} {fa : Str → Option Addr}
theorem un_negS : UnR X (unaryOp .USub) (rSem1 X.K fa fun x L => match x with | .int i => .ok (.int (-i)) L | _ => .bad) := by
  intro pins s σ H x v Q I rx h
  obtain ⟨d, L, α, p, r1, q⟩ := h
  cases r1 with
  | int i => exact un_neg pins s σ H _ v Q I rx ⟨_, rfl, q _ _ _ Ext.refl p (.int _)⟩
  | _ => exact q.elim

/-! ### slices -/
theorem cut_len {α : Type} (xs : List α) (lo hi : Option Int) : (cut xs lo hi).length ≤ xs.length := by
  unfold cut
  rw [List.length_take, List.length_drop]
  omega
theorem RVs.cut {K : PySem.W.Frag} {H : Hp} {α : List Addr} {ds : List D} {vs : List V} (r : RVs K fa H α ds vs) (lo hi : Option Int) : RVs K fa H α (cut ds lo hi) (cutV vs lo hi) := by
  unfold MP.cut cutV
  rw [r.length]
  exact (r.drop _).take _
theorem cut_whole {α : Type} {xs : List α} {lo hi : Option Int} (h : HT.sIx xs.length 0 lo = 0 ∧ HT.sIx xs.length xs.length hi = xs.length) : cut xs lo hi = xs := by
  unfold cut
  rw [h.1, h.2]
  simp
def rSemS (K : PySem.W.Frag) (fa : Str → Option Addr) : V → Option Int → Option Int → Hp → VK → Prop := fun x lo hi H Q => ∃ d L α, RHp K fa H α L ∧ RV K fa H α d x ∧ PostV K fa (slop d lo hi L) H α Q
theorem slop_calm (x : D) (lo hi : Option Int) (L : Hd) : Calm (slop x lo hi L) := fun c L' e => by
  unfold slop alloc at e
  repeat' split at e
  all_goals cases e
theorem sl_sem : SlR X (rSemS X.K fa) := by
  intro pins s σ H x v vl vu lo hi sl Q I rx hs pl pu h
  obtain ⟨d, L, α, p, r1, q⟩ := h
  cases r1 with
  | tup h1 r1 =>
    refine sl_tupA pins s σ H _ v vl vu lo hi sl Q I rx hs pl pu ⟨_, _, rfl, h1, fun hw => ?_, fun _ t ht => ?_⟩
    · rw [← r1.length] at hw
      refine q _ _ _ Ext.refl p ?_
      rw [cut_whole hw]
      exact .tup h1 r1
    · exact q _ _ _ (Ext.new ht) (p.new ht) (.tup (SqT.of upd_same) ((r1.cut lo hi).ext (Ext.new ht) p.tl))
  | ref h1 =>
    unfold slop at q
    dsimp only at q
    split at q
    · rename_i xs hx
      obtain ⟨vs, rs, hq⟩ := p.seq h1 hx
      exact sl_list pins s σ H _ v vl vu lo hi sl Q I rx hs pl pu ⟨_, _, rfl, hq, alloc_post p (rs.cut lo hi) q⟩
    · exact q.elim
  | str z =>
    unfold slop at q
    dsimp only at q
    split at q
    · rename_i hz
      exact sl_str pins s σ H _ v vl vu lo hi sl Q I rx hs pl pu ⟨_, rfl, limLe hz, q _ _ _ Ext.refl p (.str _)⟩
    · exact q.elim
  | _ => exact q.elim

/-! ### built-in functions -/
theorem RVs.one {K : PySem.W.Frag} {H : Hp} {α : List Addr} {d : D} {vs : List V} (r : RVs K fa H α [d] vs) : ∃ v, vs = [v] ∧ RV K fa H α d v := by
  cases r with
  | cons r t =>
    cases t
    exact ⟨_, rfl, r⟩
theorem RVs.two {K : PySem.W.Frag} {H : Hp} {α : List Addr} {d e : D} {vs : List V} (r : RVs K fa H α [d, e] vs) : ∃ v w, vs = [v, w] ∧ RV K fa H α d v ∧ RV K fa H α e w := by
  cases r with
  | cons r t =>
    cases t with
    | cons r2 t2 =>
      cases t2
      exact ⟨_, _, rfl, r, r2⟩
theorem biop_calm (b : Bi) (ds : List D) (L : Hd) : Calm (biop b ds L) := fun c L' e => by
  unfold biop alloc at e
  repeat' split at e
  all_goals cases e
def toFn : Bi → Value
  | .abs => .builtin "abs"
  | .len => .builtin "len"
  | .max => .builtin "max"
  | .min => .builtin "min"
  | .int => .type "int"
  | .str => .type "str"
  | .list => .type "list"
  | .tuple => .type "tuple"
  | .sorted => .builtin "sorted"
  | .sortedR => .builtin "sorted"
theorem up_eq {ns ms : List Int} (h : ms.Perm ns) (s : ms.Pairwise (· ≤ ·)) : ms = up ns := by
  have h2 : (up ns).Perm ns := List.mergeSort_perm ns _
  have s2 : (up ns).Pairwise (· ≤ ·) := by
    have q := List.pairwise_mergeSort (le := fun a b : Int => decide (a ≤ b)) (by
      intro a b c h1 h2
      simp only [decide_eq_true_eq] at *
      omega) (by
      intro a b
      simp only [Bool.or_eq_true, decide_eq_true_eq]
      omega) ns
    exact q.imp (by
      intro a b h
      simpa using h)
  exact (h.trans h2.symm).eq_of_pairwise (by
    intro a b _ _ h1 h2
    omega) s s2
theorem down_eq {ns ms : List Int} (h : ms.Perm ns) (s : ms.Pairwise (· ≥ ·)) : ms = (up ns).reverse := by
  have h1 : ms.reverse = up ns := up_eq ((List.reverse_perm ms).trans h) (List.pairwise_reverse.mpr (s.imp fun h => h))
  rw [← h1, List.reverse_reverse]
theorem call_bi (hc : X.calm = true) (b : Bi) (hb : b ≠ .sortedR) : CallR X (toFn b) (rSemL X.K fa (biop b)) := by
  intro pins s σ H xs us Q I rs h
  obtain ⟨ds, L, α, p, r1, q⟩ := h
  unfold biop at q
  split at q
  · obtain ⟨v, rfl, r⟩ := r1.one
    cases r
    exact call_abs pins s σ H _ us Q I rs ⟨_, rfl, q _ _ _ Ext.refl p (.int _)⟩
  · obtain ⟨v, rfl, r⟩ := r1.one
    cases r with
    | tup h1 r2 =>
      refine call_len_seq pins s σ H _ us Q I rs ⟨_, _, rfl, .inr h1, ?_⟩
      rw [← r2.length]
      exact q _ _ _ Ext.refl p (.int _)
  · obtain ⟨v, rfl, r⟩ := r1.one
    cases r with
    | ref h1 =>
      split at q
      · rename_i xs hx
        obtain ⟨vs, r2, hq⟩ := p.seq h1 hx
        refine call_len_seq pins s σ H _ us Q I rs ⟨_, _, rfl, .inl hq, ?_⟩
        rw [← r2.length]
        exact q _ _ _ Ext.refl p (.int _)
      · exact q.elim
  · obtain ⟨v, rfl, r⟩ := r1.one
    cases r
    split at q
    · rename_i hz
      exact call_len_str pins s σ H _ us Q I rs ⟨_, rfl, limLe hz, q _ _ _ Ext.refl p (.int _)⟩
    · exact q.elim
  · obtain ⟨v, w, rfl, r, r'⟩ := r1.two
    cases r; cases r'
    exact call_max2 hc pins s σ H _ us Q I rs ⟨_, _, rfl, q _ _ _ Ext.refl p (.int _)⟩
  · obtain ⟨v, w, rfl, r, r'⟩ := r1.two
    cases r; cases r'
    exact call_min2 hc pins s σ H _ us Q I rs ⟨_, _, rfl, q _ _ _ Ext.refl p (.int _)⟩
  · obtain ⟨v, rfl, r⟩ := r1.one
    cases r
    exact call_int1 pins s σ H _ us Q I rs (.inl ⟨_, rfl, q _ _ _ Ext.refl p (.int _)⟩)
  · obtain ⟨v, rfl, r⟩ := r1.one
    cases r
    exact call_int1 pins s σ H _ us Q I rs (.inr ⟨_, rfl, q _ _ _ Ext.refl p (.int _)⟩)
  · obtain ⟨v, rfl, r⟩ := r1.one
    cases r
    split at q
    · rename_i n hn
      split at q
      · rename_i hz
        exact call_int_str pins s σ H _ us Q I rs ⟨_, _, rfl, hn, hz, q _ _ _ Ext.refl p (.int _)⟩
      · exact q.elim
    · exact q.elim
  · obtain ⟨v, rfl, r⟩ := r1.one
    cases r
    split at q
    · rename_i hz
      exact call_str_int pins s σ H _ us Q I rs ⟨_, rfl, hz, q _ _ _ Ext.refl p (.str _)⟩
    · exact q.elim
  · obtain ⟨v, rfl, r⟩ := r1.one
    cases r with
    | tup h1 r2 => exact call_list_of pins s σ H _ us Q I rs ⟨_, _, rfl, .inr h1, alloc_post p r2 q⟩
  · obtain ⟨v, rfl, r⟩ := r1.one
    cases r with
    | ref h1 =>
      split at q
      · rename_i xs hx
        obtain ⟨vs, r2, hq⟩ := p.seq h1 hx
        exact call_list_of pins s σ H _ us Q I rs ⟨_, _, rfl, .inl hq, alloc_post p r2 q⟩
      · exact q.elim
  · obtain ⟨v, rfl, r⟩ := r1.one
    cases r with
    | tup h1 r2 => exact call_tuple_of pins s σ H _ us Q I rs ⟨_, _, rfl, .inr ⟨h1, q _ _ _ Ext.refl p (.tup h1 r2)⟩⟩
  · obtain ⟨v, rfl, r⟩ := r1.one
    cases r with
    | ref h1 =>
      split at q
      · rename_i xs hx
        obtain ⟨vs, r2, hq⟩ := p.seq h1 hx
        exact call_tuple_of pins s σ H _ us Q I rs ⟨_, _, rfl, .inl ⟨hq, fun l hl => q _ _ _ (Ext.new hl) (p.new hl) (.tup (SqT.of upd_same) (r2.ext (Ext.new hl) p.tl))⟩⟩
      · exact q.elim
  · obtain ⟨v, rfl, r⟩ := r1.one
    cases r with
    | ref h1 =>
      split at q
      · rename_i ns hx
        cases hl : getL L _ with
        | none =>
          rw [hl] at hx
          cases hx
        | some ys =>
          rw [hl] at hx
          obtain ⟨vs, r2, hq⟩ := p.seq h1 hl
          have e := r2.ints hx
          subst e
          refine cr_sortedI pins s σ H _ us Q I rs ⟨_, _, rfl, hq, fun ns' l hp hs hn => ?_⟩
          rw [up_eq hp hs]
          exact alloc_post p (RVs.ofInts _) q l hn
      · exact q.elim
  · exact absurd rfl hb
  · exact q.elim
theorem call_sortedR : CallRK X (.builtin "sorted") [Str.ofString "reverse"] (fun xs zs H Q => zs = [.bl true] ∧ rSemL X.K fa (biop .sortedR) xs H Q) := by
  intro pins s σ H xs zs us ws Q I rs rz h
  obtain ⟨ez, ds, L, α, p, r1, q⟩ := h
  unfold biop at q
  split at q
  all_goals first
    | contradiction
    | exact q.elim
    | skip
  obtain ⟨v, rfl, r⟩ := r1.one
  cases r with
  | ref h1 =>
    split at q
    · rename_i ns hx
      cases hl : getL L _ with
      | none =>
        rw [hl] at hx
        cases hx
      | some ys =>
        rw [hl] at hx
        obtain ⟨vs, r2, hq⟩ := p.seq h1 hl
        have e := r2.ints hx
        subst e
        refine cr_sortedRev (b := true) pins s σ H _ zs us ws Q I rs rz ⟨_, _, rfl, ez, hq, fun ns' l hp hs hn => ?_⟩
        rw [down_eq hp hs]
        exact alloc_post p (RVs.ofInts _) q l hn
    · exact q.elim

/-! ### isinstance -/
def tn : Ty → String
  | .int => "int"
  | .bool => "bool"
  | .str => "str"
  | .tuple => "tuple"
  | .list => "list"
theorem kit_non : ∀ t : Ty, kitB "NoneType" (tn t) = some false := by intro t; cases t <;> decide +kernel
theorem kit_bl : ∀ t : Ty, kitB "bool" (tn t) = some (t == .bool || t == .int) := by intro t; cases t <;> decide +kernel
theorem kit_int : ∀ t : Ty, kitB "int" (tn t) = some (t == .int) := by intro t; cases t <;> decide +kernel
theorem kit_str : ∀ t : Ty, kitB "str" (tn t) = some (t == .str) := by intro t; cases t <;> decide +kernel
theorem kit_tup : ∀ t : Ty, kitB "tuple" (tn t) = some (t == .tuple) := by intro t; cases t <;> decide +kernel
theorem kit_lst : ∀ t : Ty, kitB "list" (tn t) = some (t == .list) := by intro t; cases t <;> decide +kernel
theorem tyop_calm (x : D) (t : Ty) (L : Hd) : Calm (tyop x t L) := fun c L' e => by
  unfold tyop at e
  repeat' split at e
  all_goals cases e
theorem isi_sem {K : PySem.W.Frag} {H : Hp} {α : List Addr} {L : Hd} {d : D} {x : V} {t : Ty} {Q : VK} (p : RHp K fa H α L) (r : RV K fa H α d x) (q : PostV K fa (tyop d t L) H α Q) : rIsi K [x, .ty (tn t)] H Q := by
  have fin : ∀ {k : Bool}, PostV K fa (.ok (.bl k) L) H α Q → Q (.bl k) H := fun q => q _ _ _ Ext.refl p (.bl _)
  cases r with
  | non => exact ⟨_, _, _, _, _, rfl, .ty _, .base .non, kit_ty (kit_non t), fin q⟩
  | bl b => exact ⟨_, _, _, _, _, rfl, .ty _, .base (.bl b), kit_ty (kit_bl t), fin q⟩
  | int i => exact ⟨_, _, _, _, _, rfl, .ty _, .base (.int i), kit_ty (kit_int t), fin q⟩
  | str z => exact ⟨_, _, _, _, _, rfl, .ty _, .base (.str z), kit_ty (kit_str t), fin q⟩
  | tup h1 r1 =>
    have q' := fin q
    rcases h1 with (h1 | ⟨o, h1⟩) | ⟨o, its, n, h1, hc, _⟩
    · exact ⟨_, _, _, _, _, rfl, .ty _, .base (.tup h1), kit_ty (kit_tup t), q'⟩
    · exact ⟨_, _, _, _, _, rfl, .ty _, .fTuple h1, kit_ty (kit_tup t), q'⟩
    · exact ⟨_, _, _, _, _, rfl, .ty _, .kTuple h1 hc, kit_ty (kit_tup t), q'⟩
  | ref h1 =>
    unfold tyop at q
    dsimp only at q
    split at q
    · rename_i xs hx
      have q' := fin q
      obtain ⟨vs, _, hq⟩ := p.seq h1 hx
      rcases hq with (h2 | ⟨o, h2⟩) | ⟨o, its, n, h2, hc, _⟩
      · exact ⟨_, _, _, _, _, rfl, .ty _, .base (.lst h2), kit_ty (kit_lst t), q'⟩
      · exact ⟨_, _, _, _, _, rfl, .ty _, .base (.frz h2), kit_ty (kit_lst t), q'⟩
      · exact ⟨_, _, _, _, _, rfl, .ty _, .kList h2 hc, kit_ty (kit_lst t), q'⟩
    · exact q.elim
  | fn h1 => exact q.elim

/-! ### methods of texts -/
theorem tmop_calm (m : Tm) (x : D) (ds : List D) (L : Hd) : Calm (tmop m x ds L) := fun c L' e => by
  unfold tmop at e
  repeat' split at e
  all_goals first
    | (cases e; done)
    | (unfold alloc at e
       split at e <;> cases e)
theorem strs_vs {K : PySem.W.Frag} {H : Hp} {α : List Addr} : ∀ {ds : List D} {vs : List V} {ys : List Str}, strsOf ds = some ys → RVs K fa H α ds vs → vs = ys.map V.str
  | [], _, ys, h, .nil => by
    cases h
    rfl
  | d :: ds, _, ys, h, .cons (v := v) (vs := vs) r t => by
    cases r with
    | str x =>
      cases q : strsOf ds with
      | none =>
        have h' : (strsOf ds).map (x :: ·) = some ys := h
        rw [q] at h'
        cases h'
      | some zs =>
        have h' : (strsOf ds).map (x :: ·) = some ys := h
        rw [q] at h'
        cases h'
        rw [strs_vs q t]
        rfl
    | _ => cases h
theorem rvs_strs {K : PySem.W.Frag} {H : Hp} {α : List Addr} : ∀ ys : List Str, RVs K fa H α (ys.map D.str) (ys.map V.str)
  | [] => .nil
  | y :: ys => .cons (.str y) (rvs_strs ys)
def tmId : Tm → String
  | .partition => "str.partition"
  | .split => "str.split"
  | .startswith => "str.startswith"
  | .join => "str.join"
  | .replace => "str.replace"
theorem mt_tm (m : Tm) (hm : m ≠ .replace) : MtR X (tmId m) (rSemM X.K fa (tmop m)) := by
  intro pins s σ H x xs v us Q I rx rs h
  obtain ⟨d, ds, L, α, p, r1, r2, q⟩ := h
  cases m with
  | replace => exact absurd rfl hm
  | partition =>
    unfold tmop at q
    split at q
    all_goals first
      | contradiction
      | exact q.elim
      | skip
    rename_i a b
    cases r1
    obtain ⟨w, rfl, rw_⟩ := r2.one
    cases rw_
    split at q
    · rename_i hb
      refine mt_partition pins s σ H _ _ v us Q I rx rs ⟨_, _, rfl, rfl, hb.1, limLe hb.2, fun t ht => ?_⟩
      exact q _ _ _ (Ext.new ht) (p.new ht) (.tup (SqT.of upd_same) (.cons (.str _) (.cons (.str _) (.cons (.str _) .nil))))
    · exact q.elim
  | split =>
    unfold tmop at q
    split at q
    all_goals first
      | contradiction
      | exact q.elim
      | skip
    rename_i a b
    cases r1
    obtain ⟨w, rfl, rw_⟩ := r2.one
    cases rw_
    split at q
    · rename_i hb
      refine mt_split pins s σ H _ _ v us Q I rx rs ⟨_, _, rfl, rfl, hb.1, ?_, alloc_post p (rvs_strs _) q⟩
      have := hb.2
      unfold LIM at this
      rw [sizeLine_eq]
      omega
    · exact q.elim
  | startswith =>
    unfold tmop at q
    split at q
    all_goals first
      | contradiction
      | exact q.elim
      | skip
    rename_i a b
    cases r1
    obtain ⟨w, rfl, rw_⟩ := r2.one
    cases rw_
    exact mt_startswith pins s σ H _ _ v us Q I rx rs ⟨_, _, rfl, rfl, q _ H α Ext.refl p (.bl _)⟩
  | join =>
    unfold tmop at q
    split at q
    all_goals first
      | contradiction
      | exact q.elim
      | skip
    cases r1
    obtain ⟨w, rfl, rw_⟩ := r2.one
    split at q
    · rename_i ys hy
      split at q
      · rename_i hl
        have hz := Nat.le_trans hl (show LIM ≤ 16777216 by decide)
        have key : ∃ t, w = .ref t ∧ (SqL X.K H t (ys.map V.str) ∨ SqT X.K H t (ys.map V.str)) := by
          cases rw_ with
          | tup hs ht =>
            have hy' : strsOf _ = some ys := hy
            rw [strs_vs hy' ht] at hs
            exact ⟨_, rfl, .inr hs⟩
          | ref h1 =>
            rename_i n t
            cases g : getL L n with
            | none =>
              have hy' : (getL L n).bind strsOf = some ys := hy
              rw [g] at hy'
              cases hy'
            | some zs =>
              have hy' : (getL L n).bind strsOf = some ys := hy
              rw [g] at hy'
              obtain ⟨vs, r3, hs⟩ := p.seq h1 g
              rw [strs_vs hy' r3] at hs
              exact ⟨_, rfl, .inl hs⟩
          | _ => cases hy
        obtain ⟨t, rfl, ht⟩ := key
        exact mt_join pins s σ H _ _ v us Q I rx rs ⟨_, _, _, rfl, rfl, ht, hz, q _ H α Ext.refl p (.str _)⟩
      · exact q.elim
    · exact q.elim

/-! ### methods -/
theorem meop_calm (m : Me) (x : D) (ds : List D) (L : Hd) : Calm (meop m x ds L) := fun c L' e => by
  unfold meop at e
  repeat' split at e
  all_goals cases e
theorem ixN_lt {n : Nat} {i : Int} {k : Nat} (h : ixN n i = some k) : seqIndex? i n = some k := (ixN_seq h).1
theorem mt_app : MtR X "list.append" (rSemM X.K fa (meop .append)) := by
  intro pins s σ H x xs v us Q I rx rs h
  obtain ⟨d, ds, L, α, p, r1, r2, q⟩ := h
  unfold meop at q
  split at q
  all_goals first
    | contradiction
    | exact q.elim
    | skip
  cases r1 with
  | ref h1 =>
    obtain ⟨w, rfl, rw_⟩ := r2.one
    split at q
    · exact q.elim
    · rename_i hn
      split at q
      · rename_i ys hy
        split at q
        · rename_i hl
          obtain ⟨vs, r3, hH⟩ := p.mut hn h1 hy
          rw [r3.length] at hl
          obtain ⟨p', e'⟩ := p.set hn h1 (r3.append (.cons rw_ .nil))
          exact mt_append pins s σ H _ _ v us Q I rx rs ⟨_, _, _, rfl, rfl, hH, limLt hl, q _ _ _ e' p' .non⟩
        · exact q.elim
      · exact q.elim
theorem mt_popS : MtR X "list.pop" (rSemM X.K fa (meop .pop)) := by
  intro pins s σ H x xs v us Q I rx rs h
  obtain ⟨d, ds, L, α, p, r1, r2, q⟩ := h
  unfold meop at q
  split at q
  all_goals first
    | contradiction
    | exact q.elim
    | skip
  cases r1 with
  | ref h1 =>
    cases r2
    split at q
    · exact q.elim
    · rename_i hn
      split at q
      · rename_i ys hy
        split at q
        · rename_i z hz
          obtain ⟨vs, r3, hH⟩ := p.mut hn h1 hy
          obtain ⟨w, hw, rw_⟩ := r3.get hz
          rw [r3.length] at hw
          have r4 : RVs X.K fa H α ys.dropLast vs.dropLast := by
            rw [List.dropLast_eq_take, List.dropLast_eq_take, r3.length]
            exact r3.take _
          obtain ⟨p', e'⟩ := p.set hn h1 r4
          exact mt_pop pins s σ H _ _ v us Q I rx rs ⟨_, _, _, rfl, rfl, hH, hw, q _ _ _ e' p' (rw_.ext e' p.tl)⟩
        · exact q.elim
      · exact q.elim
theorem mt_popAtS : MtR X "list.pop" (rSemM X.K fa (meop .popAt)) := by
  intro pins s σ H x xs v us Q I rx rs h
  obtain ⟨d, ds, L, α, p, r1, r2, q⟩ := h
  unfold meop at q
  split at q
  all_goals first
    | contradiction
    | exact q.elim
    | skip
  cases r1 with
  | ref h1 =>
    obtain ⟨w, rfl, rw_⟩ := r2.one
    cases rw_
    split at q
    · exact q.elim
    · rename_i hn
      split at q
      · rename_i ys hy
        split at q
        · rename_i k hk
          split at q
          · rename_i z hz
            split at q
            · rename_i hb
              obtain ⟨vs, r3, hH⟩ := p.mut hn h1 hy
              obtain ⟨w, hw, rw_⟩ := r3.get hz
              obtain ⟨p', e'⟩ := p.set hn h1 (r3.erase k)
              exact mt_popAt pins s σ H _ _ v us Q I rx rs ⟨_, _, _, _, _, rfl, rfl, hH, hb.1, hb.2, by rw [← r3.length]; exact ixN_lt hk, hw, q _ _ _ e' p' (rw_.ext e' p.tl)⟩
            · exact q.elim
          · exact q.elim
        · exact q.elim
      · exact q.elim
theorem mt_clearS : MtR X "list.clear" (rSemM X.K fa (meop .clear)) := by
  intro pins s σ H x xs v us Q I rx rs h
  obtain ⟨d, ds, L, α, p, r1, r2, q⟩ := h
  unfold meop at q
  split at q
  all_goals first
    | contradiction
    | exact q.elim
    | skip
  cases r1 with
  | ref h1 =>
    cases r2
    split at q
    · exact q.elim
    · rename_i hn
      split at q
      · rename_i ys hy
        obtain ⟨vs, r3, hH⟩ := p.mut hn h1 hy
        obtain ⟨p', e'⟩ := p.set hn h1 .nil
        exact mt_clear pins s σ H _ _ v us Q I rx rs ⟨_, _, rfl, rfl, hH, q _ _ _ e' p' .non⟩
      · exact q.elim
theorem mt_reverseS : MtR X "list.reverse" (rSemM X.K fa (meop .reverse)) := by
  intro pins s σ H x xs v us Q I rx rs h
  obtain ⟨d, ds, L, α, p, r1, r2, q⟩ := h
  unfold meop at q
  split at q
  all_goals first
    | contradiction
    | exact q.elim
    | skip
  cases r1 with
  | ref h1 =>
    cases r2
    split at q
    · exact q.elim
    · rename_i hn
      split at q
      · rename_i ys hy
        obtain ⟨vs, r3, hH⟩ := p.mut hn h1 hy
        obtain ⟨p', e'⟩ := p.set hn h1 r3.rev
        exact mt_reverse pins s σ H _ _ v us Q I rx rs ⟨_, _, rfl, rfl, hH, q _ _ _ e' p' .non⟩
      · exact q.elim
theorem mt_insertS : MtR X "list.insert" (rSemM X.K fa (meop .insert)) := by
  intro pins s σ H x xs v us Q I rx rs h
  obtain ⟨d, ds, L, α, p, r1, r2, q⟩ := h
  unfold meop at q
  split at q
  all_goals first
    | contradiction
    | exact q.elim
    | skip
  rename_i _ _ _ n i y _
  cases r1 with
  | ref h1 =>
    obtain ⟨w, z, rfl, rw_, rz⟩ := r2.two
    cases rw_
    split at q
    · exact q.elim
    · rename_i hn
      split at q
      · rename_i ys hy
        split at q
        · rename_i hb
          obtain ⟨vs, r3, hH⟩ := p.mut hn h1 hy
          have r4 := (r3.take i.toNat).append (RVs.cons rz (r3.drop i.toNat))
          obtain ⟨p', e'⟩ := p.set hn h1 r4
          have hl := hb.2.2
          rw [r3.length] at hl
          have h63 := line63
          refine mt_insert pins s σ H _ _ v us Q I rx rs ⟨_, _, _, _, rfl, rfl, hH, limLt hl, hb.1, ?_, ?_⟩
          · have := hb.2.1
            rw [r3.length] at this
            unfold LIM at hl
            omega
          · have q' := q _ _ _ e' p' .non
            simpa using q'
        · exact q.elim
      · exact q.elim
end
end MP

/-! From the program's text to MP; what is told of the context. -/
namespace MP
open PySem PySem.Spec PyProof.Rows L2

/-- what the text may name: defs, constants, exception classes, built-in names -/
structure CT where
  fns : List Str
  cst : List (Str × Ex)
  cls : List Str
  bt : List Str
  rs : List Str
  hot : List Str := []
  dirty : List Str := []
  dty : Bool := false
/-- a def's name where an exception is handled -/
def hotn (f : Str) : Str := f ++ "!"
def ixOf : List Str → Str → Option Nat
  | [], _ => none
  | y :: r, x => if y = x then some 0 else (ixOf r x).map (· + 1)
theorem ixOf_get : ∀ {N : List Str} {x : Str} {i : Nat}, ixOf N x = some i → N[i]? = some x
  | [], _, _, h => by cases h
  | y :: r, x, i, h => by
    unfold ixOf at h
    split at h
    · rename_i e
      cases h
      rw [e]
      rfl
    · cases q : ixOf r x with
      | none =>
        rw [q] at h
        cases h
      | some j =>
        rw [q] at h
        cases h
        have := ixOf_get q
        simpa using this
def isVis (sc : Scope) (x : Str) : Bool := match sc.names.lookup x with
  | some .local => true
  | some .cell => true
  | some .free => true
  | _ => false
def isLoc (sc : Scope) (x : Str) : Bool := match sc.names.lookup x with
  | some .local => true
  | _ => false
def isGl (sc : Scope) (x : Str) : Bool := match sc.names.lookup x with
  | some .globalImplicit => true
  | _ => false
theorem isVis_vis {sc : Scope} {x : Str} (h : isVis sc x = true) : Vis sc x := by
  unfold isVis at h
  split at h
  · exact .inl (by assumption)
  · exact .inr (.inl (by assumption))
  · exact .inr (.inr (by assumption))
  · cases h
theorem isLoc_loc {sc : Scope} {x : Str} (h : isLoc sc x = true) : sc.names.lookup x = some .local := by
  unfold isLoc at h
  split at h
  · assumption
  · cases h
theorem isGl_gl {sc : Scope} {x : Str} (h : isGl sc x = true) : sc.names.lookup x = some .globalImplicit := by
  unfold isGl at h
  split at h
  · assumption
  · cases h
def odd (x : Str) : Bool := x == ("__debug__" : Str) || x == ("__classdict__" : Str) || x == ("__name__" : Str)
theorem odd_d {x : Str} (h : odd x = false) : (x == ("__debug__" : Str)) = false := by
  unfold odd at h
  simp only [Bool.or_eq_false_iff] at h
  exact h.1.1
theorem odd_c {x : Str} (h : odd x = false) : (x == ("__classdict__" : Str)) = false := by
  unfold odd at h
  simp only [Bool.or_eq_false_iff] at h
  exact h.1.2
theorem odd_n {x : Str} (h : odd x = false) : x ≠ ("__name__" : Str) := by
  unfold odd at h
  simp only [Bool.or_eq_false_iff] at h
  exact beq_eq_false_iff_ne.mp h.2

def nameE (ct : CT) (N : List Str) (sc : Scope) (x : Str) : Ex := if odd x = true then .bad else
  if isVis sc x = true then (match ixOf N x with
    | some i => .v i
    | none => .bad)
  else if isGl sc x = true then (if ct.fns.contains x = true then .f x else match ct.cst.lookup x with
    | some e => .k x e
    | none => .bad)
  else .bad
def bopOf : Operator → Option Bop
  | .Add => some .add
  | .Sub => some .sub
  | .Mult => some .mul
  | .FloorDiv => some .fdiv
  | .Mod => some .mod
  | .Pow => some .pow
  | _ => none
theorem bopOf_to {o : Operator} {b : Bop} (h : bopOf o = some b) : o = toOp b := by cases o <;> cases h <;> rfl
def copOf : CmpOp → Option Cop
  | .Lt => some .lt
  | .LtE => some .le
  | .Gt => some .gt
  | .GtE => some .ge
  | .Eq => some .eq
  | .NotEq => some .ne
  | .In => some .in_
  | .NotIn => some .nin
  | _ => none
theorem copOf_to {o : CmpOp} {b : Cop} (h : copOf o = some b) : o = toCmp b := by cases o <;> cases h <;> rfl
def noSet : Expr → Bool
  | .Set .. => false
  | _ => true
theorem noSet_marks {op : CmpOp} {e : Expr} (h : noSet e = true) : behindInMarks op e = false := by
  cases e <;> first | rfl | cases h
def noSl : Expr → Bool
  | .Slice .. => false
  | _ => true
def isNone : Expr → Bool
  | .Constant .none _ _ => true
  | _ => false
def cmpE (op : CmpOp) (a b : Ex) (rb : Expr) : Ex := match copOf op with
  | some o => if noSet rb = true then .cmp o a b else .bad
  | none => (match op with
    | .Is => if isNone rb = true then .isn a else .bad
    | .IsNot => if isNone rb = true then .notn a else .bad
    | _ => .bad)
def boolL (o : BoolOp) : List Ex → Ex
  | [] => .bad
  | [a] => a
  | a :: b :: r => match o with
    | .And => .and a (boolL o (b :: r))
    | .Or => .or a (boolL o (b :: r))
def noStar1 : Expr → Bool
  | .Starred .. => false
  | _ => true
def noStar (es : List Expr) : Bool := es.all noStar1
def biOf (x : Str) : Option Bi := if x = "abs" then some .abs else if x = "len" then some .len else if x = "max" then some .max else if x = "min" then some .min else if x = "int" then some .int
  else if x = "str" then some .str else if x = "list" then some .list else if x = "tuple" then some .tuple else if x = "sorted" then some .sorted else none
def tyOf (x : Str) : Option Ty := if x = "int" then some .int else if x = "bool" then some .bool else if x = "str" then some .str else if x = "tuple" then some .tuple else if x = "list" then some .list else none
def meOf (x : Str) (n : Nat) : Option Me := if x = "append" ∧ n = 1 then some .append else if x = "pop" ∧ n = 0 then some .pop else if x = "pop" ∧ n = 1 then some .popAt else if x = "clear" ∧ n = 0 then some .clear
  else if x = "reverse" ∧ n = 0 then some .reverse else if x = "insert" ∧ n = 2 then some .insert else none
def tmOf (x : Str) (n : Nat) : Option Tm := if x = "partition" ∧ n = 1 then some .partition else if x = "split" ∧ n = 1 then some .split else if x = "startswith" ∧ n = 1 then some .startswith else if x = "join" ∧ n = 1 then some .join else none
def compA (ce : Expr → Ex) : List Expr → Ex
  | [] => .nil
  | e :: r => .cons (ce e) (compA ce r)
def optE (ce : Expr → Ex) : Option Expr → Ex
  | some e => ce e
  | none => .absent
def plainO : Expr → Bool
  | .Call .. => false
  | _ => true
def revKw : List Keyword → Bool
  | [⟨some x, .Constant (.bool true) _ _, _⟩] => x == ("reverse" : Str)
  | _ => false
def isiE (ct : CT) (N : List Str) (hot : Bool) (sc : Scope) (ce : Expr → Ex) : List Expr → Ex
  | [a, .Name t _] => if isGl sc t = true ∧ odd t = false ∧ ct.bt.contains "isinstance" = true ∧ noStar1 a = true then (if hot = true then (match a with
      | .Name y _ => if isVis sc y = true ∧ odd y = false ∧ ((ct.cls.contains t = true ∧ t ≠ "ValueError") ∨ (t = "ValueError" ∧ ct.bt.contains "ValueError" = true)) then (match ixOf N y with
        | some i => .ise i t
        | none => .bad) else .bad
      | _ => .bad)
    else (match tyOf t with
      | some ty => if ct.bt.contains t = true then .isi (ce a) ty else .bad
      | none => .bad)) else .bad
  | _ => .bad
def callE (ct : CT) (N : List Str) (hot : Bool) (sc : Scope) (ce : Expr → Ex) (f : Expr) (as : List Expr) (kws : List Keyword) (p : Pos) : Ex := match f with
  | .Name x _ => if odd x = true then .bad else
    if isVis sc x = true then (if hot = true ∨ noStar as = false ∨ as.isEmpty = true ∨ kws.isEmpty = false then .bad else match ixOf N x with
      | some i => .callv i (compA ce as)
      | none => .bad)
    else if isGl sc x = true then (if ct.fns.contains x = true then (if hot = true ∨ noStar as = false ∨ as.isEmpty = true ∨ kws.isEmpty = false then .bad else .call x (compA ce as))
      else if ct.dirty.contains x = true then (if ct.dty = false ∨ hot = true ∨ noStar as = false ∨ as.isEmpty = true ∨ kws.isEmpty = false then .bad else .call x (compA ce as))
      else if ct.bt.contains x = true then (if x = "isinstance" then (if kws.isEmpty = true then isiE ct N hot sc ce as else .bad)
        else if hot = true ∨ noStar as = false ∨ as.isEmpty = true then .bad
        else if x = "sorted" ∧ revKw kws = true then .bi .sortedR (compA ce as)
        else match biOf x with
          | some b => if kws.isEmpty = true then .bi b (compA ce as) else .bad
          | none => .bad)
      else .bad)
    else .bad
  | .Attribute o m ap => if hot = true ∨ kws.isEmpty = false ∨ noStar as = false ∨ plainO o = false ∨ (ap.endLine == p.line) = false then .bad else match meOf m as.length with
    | some k => .me k (ce o) (compA ce as)
    | none => (match tmOf m as.length with
      | some k => .tm k (ce o) (compA ce as)
      | none => .bad)
  | _ => .bad
def iterE (ct : CT) (sc : Scope) (ce : Expr → Ex) (it : Expr) : Ex := match it with
  | .Call (.Name x _) as kws _ => if isGl sc x = true ∧ odd x = false ∧ ct.bt.contains x = true ∧ x = "range" then (if noStar as = true ∧ kws.isEmpty = true ∧ 0 < as.length ∧ as.length ≤ 3 then .rng (compA ce as) else .bad)
    else if isGl sc x = true ∧ odd x = false ∧ ct.bt.contains x = true ∧ x = "reversed" then (match as with
      | [a] => if noStar1 a = true ∧ kws.isEmpty = true then .rev (ce a) else .bad
      | _ => .bad)
    else ce it
  | .Set .. => .bad
  | _ => ce it
def compE (ct : CT) (N : List Str) (hot : Bool) : Nat → Scope → Expr → Ex
  | 0, _, _ => .bad
  | n + 1, sc, e => match e with
    | .Constant c _ _ => (match c with
      | .none => .non
      | .bool b => .bl b
      | .int i => .int i
      | .str x => .str x
      | _ => .bad)
    | .Name x _ => nameE ct N sc x
    | .Tuple es _ _ => if noStar es = true then .tup (compA (compE ct N hot n sc) es) else .bad
    | .List es _ => if noStar es = true then .lst (compA (compE ct N hot n sc) es) else .bad
    | .BinOp a o b _ => (match bopOf o with
      | some o => .bin o (compE ct N hot n sc a) (compE ct N hot n sc b)
      | none => .bad)
    | .UnaryOp o a _ => (match o with
      | .USub => .neg (compE ct N hot n sc a)
      | .Not => .not (compE ct N hot n sc a)
      | _ => .bad)
    | .BoolOp o es _ => boolL o (es.map (compE ct N hot n sc))
    | .Compare a ops bs _ => (match ops, bs with
      | [op], [b] => cmpE op (compE ct N hot n sc a) (compE ct N hot n sc b) b
      | _, _ => .bad)
    | .Subscript a i _ => (match i with
      | .Slice lo hi st _ => (match st with
        | none => .sl (compE ct N hot n sc a) (optE (compE ct N hot n sc) lo) (optE (compE ct N hot n sc) hi)
        | some _ => .bad)
      | _ => .ix (compE ct N hot n sc a) (compE ct N hot n sc i))
    | .Call f as kws p => callE ct N hot sc (compE ct N hot n sc) f as kws p
    | .ListComp elt gs scope _ => if hot = true then .bad else (match gs with
      | [⟨.Name y _, it, ifs, 0⟩] => (match ixOf N y with
        | some i => if blkC N sc scope [(y, i)] = true ∧ isLoc (relS scope sc) y = true then (match ifs with
            | [] => .lc i (iterE ct sc (compE ct N hot n sc) it) (.bl true) (compE ct N hot n (relS scope sc) elt)
            | [c] => .lc i (iterE ct sc (compE ct N hot n sc) it) (compE ct N hot n (relS scope sc) c) (compE ct N hot n (relS scope sc) elt)
            | _ => .bad) else .bad
        | none => .bad)
      | _ => .bad)
    | _ => .bad
/-- a written constant's value -/
def lit : Ex → Option D
  | .int i => some (.int i)
  | .str x => some (.str x)
  | .bl b => some (.bl b)
  | .non => some .non
  | .nil => some (.tup [])
  | .cons a b => (match lit a, lit b with
    | some x, some (.tup ys) => some (.tup (x :: ys))
    | _, _ => none)
  | .tup a => (match lit a with
    | some (.tup xs) => if xs.length ≤ LIM then some (.tup xs) else none
    | _ => none)
  | _ => none
theorem lit_ev {Φ : Str → List D → Hd → R D} : ∀ {e : Ex} {d : D} {ρ : Env} {L : Hd}, lit e = some d → evE Φ e ρ L = .ok d L := by
  intro e
  induction e with
  | int i => intro d ρ L h; cases h; rfl
  | str i => intro d ρ L h; cases h; rfl
  | bl i => intro d ρ L h; cases h; rfl
  | non => intro d ρ L h; cases h; rfl
  | nil => intro d ρ L h; cases h; rfl
  | cons a b iha ihb =>
    intro d ρ L h
    unfold lit at h
    split at h
    · rename_i x ys hx hy
      cases h
      unfold evE
      rw [iha hx, R.bind_ok, ihb hy, R.bind_ok]
    · cases h
  | tup a iha =>
    intro d ρ L h
    unfold lit at h
    split at h
    · rename_i xs hx
      split at h
      · rename_i hl
        cases h
        unfold evE
        rw [iha hx, R.bind_ok]
        dsimp only
        rw [if_pos hl]
      · cases h
    · cases h
  | _ => intro d ρ L h; cases h

/-! ### what is told of the context -/
/-- a def's promise: its run -/
def spF (K : PySem.W.Frag) (fa ca : Str → Option Addr) (np : Nat) (φ : List D → Hd → R D) : Sp := fun vs H Q E => ∃ ds L α, ds.length = np ∧ RVs K fa H α ds vs ∧ RHp K fa H α L ∧ Post K fa ca (fun cls d _ H => E cls d H) [] (φ ds L) H α Q
structure FnK (P : Program) (w : World) (K : PySem.W.Frag) (mg : Str → Option Value) (base : Heap) (k : Nat) (fa ca : Str → Option Addr) (φ : List D → Hd → R D) (f : Str) : Prop where
  ex : ∃ (ad : Addr) (fd : FuncData) (ps : List Str), fa f = some ad ∧ mg f = some (.ref ad) ∧ PySem.W.keepIn K (.ref ad) = true ∧ Binds K fd ps [] ∧ (∀ ds L, ds.length ≠ ps.length → φ ds L = .bad) ∧
    FnOk P w K mg base (L2N.CX P w) k ad fd ps (spF K fa ca ps.length φ)
/-- a def that may tell an exception with a context -/
structure FnKD (P : Program) (w : World) (K : PySem.W.Frag) (mg : Str → Option Value) (base : Heap) (k : Nat) (fa ca : Str → Option Addr) (φ : List D → Hd → R D) (f : Str) : Prop where
  ex : ∃ (ad : Addr) (fd : FuncData) (ps : List Str), mg f = some (.ref ad) ∧ PySem.W.keepIn K (.ref ad) = true ∧ Binds K fd ps [] ∧ (∀ ds L, ds.length ≠ ps.length → φ ds L = .bad) ∧
    FnOk P w K mg base (L2.CX P w) k ad fd ps (spF K fa ca ps.length φ)
/-- its promise where an exception is handled -/
structure FnKH (P : Program) (w : World) (K : PySem.W.Frag) (mg : Str → Option Value) (base : Heap) (k : Nat) (fa ca : Str → Option Addr) (φ : List D → Hd → R D) (f : Str) : Prop where
  ex : ∃ (ad : Addr) (fd : FuncData) (ps : List Str), fa f = some ad ∧ mg f = some (.ref ad) ∧ PySem.W.keepIn K (.ref ad) = true ∧ Binds K fd ps [] ∧ (∀ ds L, ds.length ≠ ps.length → φ ds L = .bad) ∧
    L2H.FnH P w K mg base (L2.CX P w) k ad fd ps (spF K fa ca ps.length φ)
/-- a class's name as a value -/
def clsV (mg : Str → Option Value) (c : Str) : Option Value := if c = "ValueError" then some (.type "ValueError") else mg c
structure Glb (ct : CT) (P : Program) (w : World) (K : PySem.W.Frag) (mg : Str → Option Value) (base : Heap) (k : Nat) (fa ca : Str → Option Addr) (Φ : Str → List D → Hd → R D) : Prop where
  fn : ∀ f, ct.fns.contains f = true → FnK P w K mg base k fa ca (Φ f) f
  fnv : ∀ f ad, fa f = some ad → ct.fns.contains f = true
  co : ∀ x e, ct.cst.lookup x = some e → ∃ d u v, lit e = some d ∧ mg x = some u ∧ RelV v u ∧ ∀ H α, RV K fa H α d v
  bt : ∀ x, ct.bt.contains x = true → mg x = none
  cl : ∀ c, ct.cls.contains c = true → ∃ C, mg c = some (.ref C)
  kit : ∀ c C c', ca c = some C → (ct.cls.contains c' = true ∨ c' = "ValueError") → ∃ u, clsV mg c' = some u ∧ PySem.W.kitOne K (.ref C) u = some (isSub c c') ∧ PySem.W.exmOne K (.ref C) u = some (isSub c c')
  rsd : ∀ c, ct.rs.contains c = true → ∃ C, ca c = some C
  rs : ∀ c C, ca c = some C → mg c = some (.ref C) ∧ PySem.W.excIn K C [.type "ValueError", .type "Exception", .type "BaseException", .type "object"] "ValueError.__new__" = true ∧ PySem.W.keepIn K (.ref C) = true ∧
    PySem.W.subIn K (.ref C) (.type "BaseException") = some true ∧ PySem.W.typeIn K (.ref C) = some (.type "type") ∧ ExcC K C
  fnh : ∀ f, ct.hot.contains f = true → FnKH P w K mg base k fa ca (Φ (hotn f)) f
  fnd : ∀ f, ct.dirty.contains f = true → FnKD P w K mg base k fa ca (Φ f) f
theorem passN {X : Cx} : Passes (L2N.CX X.prog X.w) X E0 := fun _ _ _ _ _ _ _ h => by
  obtain ⟨_, _, _, _, _, _, _, _, _, _, _, _, z⟩ := h
  exact z.elim
theorem takesN0 {X : Cx} : L2N.Takes X (fun _ _ _ _ => False) := fun _ _ x => by
  obtain ⟨_, _, _, _, _, _, _, _, _, _, _, _, _, _, _, _, z⟩ := x
  exact z.elim
theorem sky_nc {B : Heap} {l : List PySem.Env} {a : Addr} {cls : Value} {d : Option Addr} {L : Addr} {h : Heap} (x : Sky B l a (L2N.Zn cls d) L h) : Sky B l a (Zc cls d) L h := by
  rcases x with ⟨h1, h2, h3, oe, vs, h4, h5, h6⟩ | x | x
  · exact .inl ⟨h1, h2, h3, oe, vs, h4, h5.zc, h6⟩
  · refine .inr (.inl ?_)
    obtain ⟨k1, k2, k3, oe, vs, T, oT, ts', he, hz, r⟩ := x
    exact ⟨k1, k2, k3, oe, vs, T, oT, ts', he, hz.zc, r⟩
  · refine .inr (.inr ?_)
    obtain ⟨k1, k2, k3, oe, vs, T, oT, ts', he, hz, r⟩ := x
    exact ⟨k1, k2, k3, oe, vs, T, oT, ts', he, hz.zc, r⟩
theorem takesLN {X : Cx} {W : WX} (t : Takes X W) : L2N.Takes X W := fun u s' x => by
  obtain ⟨a, B, sI, pins, σ, H, cls, d, e, I, nb, up, sky, na, os, ag, w⟩ := x
  exact t u s' ⟨a, B, sI, pins, σ, H, cls, d, e, I, nb, up, sky_nc sky, na, os, ag, w⟩
theorem takes0L {X : Cx} : Takes X (fun _ _ _ _ => False) := fun _ _ x => by
  obtain ⟨_, _, _, _, _, _, _, _, _, _, _, _, _, _, _, _, z⟩ := x
  exact z.elim
/-- the context of an expression -/
structure Cok (ct : CT) (k : Nat) (fa ca : Str → Option Addr) (Φ : Str → List D → Hd → R D) (hot : Bool) (W : WX) (η : Option (Addr × Str)) (X : Cx) : Prop where
  nd : X.N.Nodup
  pa : ∀ σ, PassesAt (L2N.CX X.prog X.w) X σ (WE W σ)
  pd : ct.dty = true → ∀ σ, PassesAt (L2.CX X.prog X.w) X σ (WE W σ)
  calm : hot = false → X.calm = true
  room : hot = false → Room k X.A
  units : X.A.units + 64 < cLine
  gl : Glb ct X.prog X.w X.K X.mg X.base k fa ca Φ
  isE : ∀ a c, η = some (a, c) → hot = true ∧ ∃ C, ca c = some C ∧ CallR X (.builtin "isinstance") (rIsE X.K C a)

/-! ### statements -/
def isSto (sc : Scope) (x : Str) : Bool := match sc.names.lookup x with
  | some .local => true
  | some .cell => true
  | _ => false
theorem isSto_loc {sc : Scope} {x : Str} (h : isSto sc x = true) : Loc sc x := by
  unfold isSto at h
  split at h
  · exact .inl (by assumption)
  · exact .inr (by assumption)
  · cases h
/-- no comprehension -/
def noComp : Expr → Bool
  | .ListComp .. => false
  | .SetComp .. => false
  | .DictComp .. => false
  | _ => true
/-- a name that a comprehension within reads, too -/
def isCel (sc : Scope) (x : Str) : Bool := match sc.names.lookup x with
  | some .cell => true
  | _ => false
/-- a comprehension that is stored at once -/
def compSto (sc : Scope) (x : Str) (px : Pos) : Expr → Bool
  | .ListComp _ [⟨_, _, _, _⟩] scope p => isLoc sc x && (px.line == p.line) && !(scope.names.any fun (n, k) => n == x && (k == .local || k == .cell))
  | _ => false
def compB (f : Stmt → Sm) : List Stmt → Sm
  | [] => .pass
  | s :: r => .seq (f s) (compB f r)
def DEPTH : Nat := 60
def raiseE (ct : CT) (sc : Scope) : Expr → Sm
  | .Call (.Name c _) [.Constant (.str _) _ _] [] _ => if isGl sc c = true ∧ odd c = false ∧ ct.rs.contains c = true then .raise c else .bad
  | _ => .bad
def augOf : Operator → Option Bop
  | .Add => some .add
  | .Sub => some .sub
  | _ => none
/-- return f(..), where an exception is handled -/
def hotSu (ct : CT) (N : List Str) (sc : Scope) : List Stmt → Option Sm
  | [.Return (some (.Call (.Name f _) as [] _)) _] => if isGl sc f = true ∧ odd f = false ∧ ct.hot.contains f = true ∧ noStar as = true ∧ as.isEmpty = false then some (.seq (.ret (.call (hotn f) (compA (compE ct N true DEPTH sc) as))) .pass) else none
  | _ => none
def compS (ct : CT) (N : List Str) : Bool → Nat → Scope → Stmt → Sm
  | _, 0, _, _ => .bad
  | hot, n + 1, sc, s => match s with
    | .Pass _ => .pass
    | .Expr e _ => if noComp e = true then .ex (compE ct N hot DEPTH sc e) else .bad
    | .Assign tgs e p => (match tgs with
      | [.Name x px] => if odd x = false ∧ isSto sc x = true ∧ (noComp e = true ∨ isCel sc x = true ∨ compSto sc x px e = true) then (match ixOf N x with
        | some i => .set i (compE ct N hot DEPTH sc e)
        | none => .bad) else .bad
      | [.Subscript o i _] => if noSl i = true then .setix (compE ct N hot DEPTH sc o) (compE ct N hot DEPTH sc i) (compE ct N hot DEPTH sc e) else .bad
      | _ => .bad)
    | .AugAssign tg o e _ => (match tg with
      | .Name x _ => if odd x = false ∧ isSto sc x = true then (match ixOf N x, augOf o with
        | some i, some o => .aug i o (compE ct N hot DEPTH sc e)
        | _, _ => .bad) else .bad
      | _ => .bad)
    | .Return v _ => (match v with
      | some e => .ret (compE ct N hot DEPTH sc e)
      | none => .retn)
    | .If c a b _ => .ite (compE ct N hot DEPTH sc c) (compB (compS ct N hot n sc) a) (compB (compS ct N hot n sc) b)
    | .While c b r _ => if hot = false ∧ r.isEmpty = true then .wh (compE ct N hot DEPTH sc c) (compB (compS ct N hot n sc) b) else .bad
    | .For tg it b r _ => if hot = false ∧ r.isEmpty = true then (match tg with
      | .Name x _ => if odd x = false ∧ isSto sc x = true ∧ noSet it = true then (match ixOf N x with
        | some i => .for_ i (iterE ct sc (compE ct N hot DEPTH sc) it) (compB (compS ct N hot n sc) b)
        | none => .bad) else .bad
      | .Tuple [.Name x _, .Name y _] _ _ => if (odd x = false ∧ isSto sc x = true ∧ noSet it = true) ∧ odd y = false ∧ isSto sc y = true then (match ixOf N x, ixOf N y with
        | some i, some j => .for2 i j (iterE ct sc (compE ct N hot DEPTH sc) it) (compB (compS ct N hot n sc) b)
        | _, _ => .bad) else .bad
      | _ => .bad) else .bad
    | .Raise v c _ => if hot = false then (match v, c with
      | some e, none => raiseE ct sc e
      | _, _ => .bad) else .bad
    | .Break _ => .brk
    | .Continue _ => .cnt
    | .Try b hs r f _ => if hot = false ∧ r.isEmpty = true ∧ f.isEmpty = true then (match hs with
      | [.ExceptHandler (some (.Name c _)) nm (s0 :: su) _] => if isGl sc c = true ∧ odd c = false ∧ ct.cls.contains c = true ∧ c ≠ "ValueError" then (match nm with
        | none => .try_ (compB (compS ct N hot n sc) b) c none (match (if ct.dty = true then none else hotSu ct N sc (s0 :: su)) with | some m => m | none => compB (compS ct N true n sc) (s0 :: su))
        | some x => if odd x = false ∧ isLoc sc x = true then (match ixOf N x with
          | some i => .try_ (compB (compS ct N hot n sc) b) c (some i) (compB (compS ct N true n sc) (s0 :: su))
          | none => .bad) else .bad) else .bad
      | [.ExceptHandler (some (.Name c1 _)) none (s1 :: su1) _, .ExceptHandler (some (.Name c2 _)) none (s2 :: su2) _] =>
        if ct.dty = false ∧ (isGl sc c1 = true ∧ odd c1 = false ∧ ct.cls.contains c1 = true ∧ c1 ≠ "ValueError") ∧ (isGl sc c2 = true ∧ odd c2 = false ∧ ct.cls.contains c2 = true ∧ c2 ≠ "ValueError") then
          .try2 (compB (compS ct N hot n sc) b) c1 (compB (compS ct N true n sc) (s1 :: su1)) c2 (compB (compS ct N true n sc) (s2 :: su2)) else .bad
      | _ => .bad) else .bad
    | _ => .bad
/-- x = a % b: behind it a token is out -/
def isTok (N : List Str) (sc : Scope) : Stmt → Bool
  | .Assign [.Name x _] (.BinOp _ .Mod _ _) _ => (odd x == false) && isSto sc x && (ixOf N x).isSome
  | _ => false
/-- an expression behind a token -/
def compET (ct : CT) (N : List Str) : Nat → Scope → Expr → Ex
  | 0, sc, e => compE ct N false DEPTH sc e
  | n + 1, sc, e => match e with
    | .Call (.Attribute o x ap) as [] p => if plainO o = true ∧ (ap.endLine == p.line) = true then
        (match as with
        | [.Constant (.str y) _ _, .Constant (.str z) _ _] => if x = "replace" ∧ (y == z) = false then .tm .replace (compE ct N false DEPTH sc o) (.cons (.str y) (.cons (.str z) .nil)) else compE ct N false DEPTH sc e
        | _ => if noStar as = true then (match tmOf x as.length with
          | some k => .tm k (compE ct N false DEPTH sc o) (compA (compET ct N n sc) as)
          | none => compE ct N false DEPTH sc e) else compE ct N false DEPTH sc e)
      else compE ct N false DEPTH sc e
    | .BinOp a o b _ => (match bopOf o with
      | some o => .bin o (compET ct N n sc a) (compET ct N n sc b)
      | none => .bad)
    | .List es _ => if noStar es = true then .lst (compA (compET ct N n sc) es) else .bad
    | _ => compE ct N false DEPTH sc e
/-- return e under an if, behind a token -/
def compT (ct : CT) (N : List Str) (sc : Scope) (s : Stmt) : Sm := match s with
  | .If c [.Return (some e) _] [] _ => .ite (compE ct N false DEPTH sc c) (.seq (.ret (compET ct N 8 sc e)) .pass) .pass
  | _ => compS ct N false DEPTH sc s
/-- a def's body -/
def compD (ct : CT) (N : List Str) (sc : Scope) : List Stmt → Sm
  | [] => .pass
  | s :: r => if isTok N sc s = true then .seq (compS ct N false DEPTH sc s) (compB (compT ct N sc) r) else .seq (compS ct N false DEPTH sc s) (compD ct N sc r)
/-- a statement of a def that may tell an exception with a context: at the top a suite may raise -/
def CT.cln (ct : CT) : CT := { ct with dty := false }
def CT.dtc (ct : CT) : CT := { ct with dty := true }
def compX (ct : CT) (N : List Str) (sc : Scope) (s : Stmt) : Sm := match s with
  | .Try b [.ExceptHandler (some (.Name c _)) none [.Raise (some e) none _] _] [] [] _ =>
    if isGl sc c = true ∧ odd c = false ∧ ct.cls.contains c = true ∧ c ≠ "ValueError" then (match raiseE ct.cln sc e with
      | .raise d => .tryR (compB (compS ct.cln N false DEPTH sc) b) c d
      | _ => .bad) else .bad
  | .Assign [.Name x px] (.ListComp elt [⟨.Name y _, it, ifs, 0⟩] scope p) _ =>
    if odd x = false ∧ isLoc sc x = true ∧ (px.line == p.line) = true ∧ (scope.names.any fun (n, k) => n == x && (k == .local || k == .cell)) = false ∧ noSet it = true then (match ixOf N x, ixOf N y with
      | some i, some j => if blkC N sc scope [(y, j)] = true ∧ isLoc (relS scope sc) y = true then (match ifs with
        | [] => .setlc i j (iterE ct.dtc sc (compE ct.dtc N false DEPTH sc) it) (.bl true) (compE ct.dtc N false DEPTH (relS scope sc) elt)
        | [c] => .setlc i j (iterE ct.dtc sc (compE ct.dtc N false DEPTH sc) it) (compE ct.dtc N false DEPTH (relS scope sc) c) (compE ct.dtc N false DEPTH (relS scope sc) elt)
        | _ => .bad) else .bad
      | _, _ => .bad) else .bad
  | _ => compS ct.dtc N false DEPTH sc s
/-- an expression, a test, a statement where an exception is handled -/
def hotE (ct : CT) (N : List Str) (sc : Scope) (e : Expr) : Ex := match e with
  | .Call (.Name f _) as [] _ => if isGl sc f = true ∧ odd f = false ∧ ct.hot.contains f = true ∧ noStar as = true ∧ as.isEmpty = false then .call (hotn f) (compA (compE ct N true DEPTH sc) as) else compE ct N true DEPTH sc e
  | _ => compE ct N true DEPTH sc e
def hotT (ct : CT) (N : List Str) (sc : Scope) (e : Expr) : Ex := match e with
  | .UnaryOp .Not (.Call (.Name f _) as [] _) _ => if isGl sc f = true ∧ odd f = false ∧ ct.hot.contains f = true ∧ noStar as = true ∧ as.isEmpty = false then .not (.call (hotn f) (compA (compE ct N true DEPTH sc) as)) else compE ct N true DEPTH sc e
  | _ => compE ct N true DEPTH sc e
def compH (ct : CT) (N : List Str) : Nat → Scope → Stmt → Sm
  | 0, _, _ => .bad
  | n + 1, sc, s => match s with
    | .Expr e _ => if noComp e = true then .ex (hotE ct N sc e) else .bad
    | .Return v _ => (match v with
      | some e => .ret (hotE ct N sc e)
      | none => .retn)
    | .If c a b _ => .ite (hotT ct N sc c) (compB (compH ct N n sc) a) (compB (compH ct N n sc) b)
    | .Raise v c _ => (match v, c with
      | some e, none => raiseE ct sc e
      | _, _ => .bad)
    | .Try b [.ExceptHandler (some (.Name c _)) (some x) (s0 :: su) _] [] [] _ =>
      if (isGl sc c = true ∧ odd c = false ∧ ct.cls.contains c = true ∧ c ≠ "ValueError") ∧ odd x = false ∧ isLoc sc x = true then (match ixOf N x with
        | some i => .try_ (compB (compH ct N n sc) b) c (some i) (compB (compS ct N true n sc) (s0 :: su))
        | none => .bad) else .bad
    | _ => .bad
end MP

/-! Expressions: what MP says, the machine does. -/
namespace MP
open PySem PySem.Spec PyProof.Rows L2

section
variable {X : Cx} {ct : CT} {k : Nat} {fa ca : Str → Option Addr} {Φ : Str → List D → Hd → R D} {hot : Bool} {W : WX} {η : Option (Addr × Str)}
abbrev sE (X : Cx) (fa ca : Str → Option Addr) (Φ : Str → List D → Hd → R D) (W : WX) (η : Option (Addr × Str)) (m : Ex) : TE := semE X.K fa ca W η (evE Φ m)
abbrev sT (X : Cx) (fa ca : Str → Option Addr) (Φ : Str → List D → Hd → R D) (W : WX) (η : Option (Addr × Str)) (m : Ex) : TT := semT X.K fa ca W η (evE Φ m)
abbrev sA (X : Cx) (fa ca : Str → Option Addr) (Φ : Str → List D → Hd → R D) (W : WX) (η : Option (Addr × Str)) (m : Ex) : TA := semA X.K fa ca W η (evE Φ m)

theorem pe_bad {e : Expr} {m : Ex} (h : m = .bad) : PE X e (sE X fa ca Φ W η m) := ⟨fun _ _ _ _ _ _ q => by
  subst h
  obtain ⟨ρ, L, α, _, _, q⟩ := q
  exact q.elim⟩
theorem pt_bad {e : Expr} {m : Ex} (h : m = .bad) : PT X e (sT X fa ca Φ W η m) := ⟨fun _ _ _ _ _ _ q => by
  subst h
  obtain ⟨ρ, L, α, _, _, q⟩ := q
  exact q.elim⟩
theorem star_eq {e : Expr} {es : List Expr} {env : PySem.Env} (h : noStar1 e = true) : starEach (e :: es) env = (false, eval e env) :: starEach es env := by
  cases e <;> first | rfl | cases h
theorem star_any {pos : Pos} {env : PySem.Env} : ∀ {es : List Expr}, noStar es = true → (backTo pos (starEach es env)).any (·.1) = false
  | [], _ => rfl
  | e :: es, h => by
    unfold noStar at h
    rw [List.all_cons, Bool.and_eq_true] at h
    rw [star_eq h.1]
    show (false || (backTo pos (starEach es env)).any (·.1)) = false
    rw [star_any h.2]
    rfl
theorem star_all {pos : Pos} {env : PySem.Env} : ∀ {es : List Expr}, noStar es = true → (backTo pos (starEach es env)).all (fun x => !x.1) = true
  | [], _ => rfl
  | e :: es, h => by
    unfold noStar at h
    rw [List.all_cons, Bool.and_eq_true] at h
    rw [star_eq h.1]
    show (!false && (backTo pos (starEach es env)).all (fun x => !x.1)) = true
    rw [star_all h.2]
    rfl

/-! ### what comes first, of the other ends -/
theorem PostA.first {K : PySem.W.Frag} {H : Hp} {α : List Addr} {σ : L2.St} {r : R D} {f : D → Hd → R D} {Q : List V → Hp → Prop} {Q' : VK} (hn : 0 < α.length) (h : PostA K fa ca W σ (r.bind f) H α Q)
    (k : ∀ d L v H' α', r = .ok d L → Ext H α H' α' → RHp K fa H' α' L → RV K fa H' α' d v → PostA K fa ca W σ (f d L) H' α' Q → Q' v H') : Post K fa ca W σ r H α Q' := by
  cases r with
  | ok d L => exact fun v H' α' e p rv => k d L v H' α' rfl e p rv (PostA.from hn e h)
  | exc c L => exact h
  | bad => exact h
/-- the list of arguments first, then a run -/
theorem Post.args {K : PySem.W.Frag} {H : Hp} {α : List Addr} {σ : L2.St} {r : R D} {f : D → Hd → R D} {Q : VK} {Q' : List V → Hp → Prop} (hn : 0 < α.length) (h : Post K fa ca W σ (r.bind f) H α Q) (hb : ∀ d L, (∀ ds, d ≠ .tup ds) → f d L = .bad)
    (k : ∀ ds L vs H' α', r = .ok (.tup ds) L → Ext H α H' α' → RHp K fa H' α' L → RVs K fa H' α' ds vs → Post K fa ca W σ (f (.tup ds) L) H' α' Q → Q' vs H') : PostA K fa ca W σ r H α Q' := by
  cases r with
  | ok d L =>
    have h' : Post K fa ca W σ (f d L) H α Q := h
    by_cases hd : ∃ ds, d = .tup ds
    · obtain ⟨ds, rfl⟩ := hd
      exact ⟨ds, rfl, fun vs H' α' e p rv => k ds L vs H' α' rfl e p rv (Post.from hn e h)⟩
    · rw [hb d L fun ds e => hd ⟨ds, e⟩] at h'
      exact h'.elim
  | exc c L => exact h
  | bad => exact h
/-- a value first, then a test -/
theorem PostT.first {K : PySem.W.Frag} {H : Hp} {α : List Addr} {σ : L2.St} {r : R D} {f : D → Hd → R D} {Q : Bool → Hp → Prop} {Q' : VK} (hn : 0 < α.length) (h : PostT K fa ca W σ (r.bind f) H α Q)
    (k : ∀ d L v H' α', r = .ok d L → Ext H α H' α' → RHp K fa H' α' L → RV K fa H' α' d v → PostT K fa ca W σ (f d L) H' α' Q → Q' v H') : Post K fa ca W σ r H α Q' := by
  cases r with
  | ok d L => exact fun v H' α' e p rv => k d L v H' α' rfl e p rv (PostT.from hn e h)
  | exc c L => exact h
  | bad => exact h
/-- a test first, then a test -/
theorem PostT.test {K : PySem.W.Frag} {H : Hp} {α : List Addr} {σ : L2.St} {r : R D} {t f : Hd → R D} {Q : Bool → Hp → Prop} {Q' : Bool → Hp → Prop} (hn : 0 < α.length) (h : PostT K fa ca W σ (r.bind fun d L => onBl d (t L) (f L)) H α Q)
    (k1 : ∀ L H' α', r = .ok (.bl true) L → Ext H α H' α' → RHp K fa H' α' L → PostT K fa ca W σ (t L) H' α' Q → Q' true H')
    (k0 : ∀ L H' α', r = .ok (.bl false) L → Ext H α H' α' → RHp K fa H' α' L → PostT K fa ca W σ (f L) H' α' Q → Q' false H') : PostT K fa ca W σ r H α Q' := by
  cases r with
  | ok d L =>
    have h' : PostT K fa ca W σ (onBl d (t L) (f L)) H α Q := h
    cases d with
    | bl b =>
      refine ⟨b, rfl, fun H' α' e p => ?_⟩
      cases b with
      | true => exact k1 L H' α' rfl e p (PostT.from hn e h')
      | false => exact k0 L H' α' rfl e p (PostT.from hn e h')
    | _ => exact h'.elim
  | exc c L => exact h
  | bad => exact h
/-- a test first, then a value -/
theorem Post.test {K : PySem.W.Frag} {H : Hp} {α : List Addr} {σ : L2.St} {r : R D} {t f : Hd → R D} {Q : VK} {Q' : VK} (hn : 0 < α.length) (h : Post K fa ca W σ (r.bind fun d L => onBl d (t L) (f L)) H α Q)
    (k1 : ∀ L H' α', r = .ok (.bl true) L → Ext H α H' α' → RHp K fa H' α' L → Post K fa ca W σ (t L) H' α' Q → Q' (.bl true) H')
    (k0 : ∀ L H' α', r = .ok (.bl false) L → Ext H α H' α' → RHp K fa H' α' L → Post K fa ca W σ (f L) H' α' Q → Q' (.bl false) H') : Post K fa ca W σ r H α Q' := by
  cases r with
  | ok d L =>
    have h' : Post K fa ca W σ (onBl d (t L) (f L)) H α Q := h
    cases d with
    | bl b =>
      refine fun v H' α' e p rv => ?_
      cases rv
      cases b with
      | true => exact k1 L H' α' rfl e p (Post.from hn e h')
      | false => exact k0 L H' α' rfl e p (Post.from hn e h')
    | _ => exact h'.elim
  | exc c L => exact h
  | bad => exact h

/-! ### arguments -/
theorem pa_sem {ce : Expr → Ex} (ih : ∀ e, PE X e (sE X fa ca Φ W η (ce e))) : ∀ {es : List Expr}, noStar es = true → PA X es (sA X fa ca Φ W η (compA ce es))
  | [], _ => paImp pa_nil fun σ H Q q => by
    obtain ⟨ρ, L, α, re, rp, ds, e, q⟩ := q
    cases e
    exact q [] H α Ext.refl rp .nil
  | e :: es, h => by
    unfold noStar at h
    rw [List.all_cons, Bool.and_eq_true] at h
    refine paImp (pa_cons (ih e) (pa_sem ih h.2) (star_eq h.1)) fun σ H Q q => ?_
    obtain ⟨ρ, L, α, re, rp, q⟩ := q
    refine ⟨ρ, L, α, re, rp, PostA.first rp.ne q fun d L1 v H1 α1 e0 e1 p1 r1 q1 => ?_⟩
    refine ⟨ρ, L1, α1, re.ext e1 rp, p1, ?_⟩
    cases hr : evE Φ (compA ce es) ρ L1 with
    | ok d2 L2 =>
      rw [hr] at q1
      cases d2 with
      | tup ds =>
        refine ⟨ds, rfl, fun vs H2 α2 e2 p2 r2 => ?_⟩
        obtain ⟨ds', ed, q1⟩ := q1
        cases ed
        exact q1 _ H2 α2 e2 p2 (.cons (r1.ext e2 p1.tl) r2)
      | _ => exact q1.elim
    | exc c L2 =>
      rw [hr] at q1
      exact q1
    | bad =>
      rw [hr] at q1
      exact q1

/-! ### the pieces -/
theorem pe_nameS (C : Cok ct k fa ca Φ hot W η X) {x : Str} {pos : Pos} : PE X (.Name x pos) (sE X fa ca Φ W η (nameE ct X.N X.env.scope x)) := by
  unfold nameE
  split
  · exact pe_bad rfl
  · rename_i hodd
    have hodd' : odd x = false := by simpa using hodd
    split
    · rename_i hv
      split
      · rename_i i hi
        refine peImp (pe_var (ixOf_get hi) (isVis_vis hv) (odd_d hodd') (odd_c hodd')) fun σ H Q q => ?_
        obtain ⟨ρ, L, α, re, rp, q⟩ := q
        unfold evE getV at q
        split at q
        · exact q.elim
        · rename_i d hx hd
          obtain ⟨v, hv2, rv⟩ := re.2.1 i d hd fun c e => by
            subst e
            exact hx c rfl
          exact ⟨v, hv2, q v H α Ext.refl rp rv⟩
        · exact q.elim
      · exact pe_bad rfl
    · split
      · rename_i hg
        split
        · rename_i hf
          obtain ⟨ad, fd, ps, h1, h2, _⟩ := (C.gl.fn x hf).ex
          refine peImp (pe_glob (v := .ref ad) (isGl_gl hg) h2 rfl (odd_d hodd')) fun σ H Q q => ?_
          obtain ⟨ρ, L, α, re, rp, q⟩ := q
          exact q _ H α Ext.refl rp (.fn h1)
        · split
          · rename_i e he
            obtain ⟨d, u, v, h1, h2, h3, h4⟩ := C.gl.co x e he
            refine peImp (pe_glob (v := v) (isGl_gl hg) h2 h3 (odd_d hodd')) fun σ H Q q => ?_
            obtain ⟨ρ, L, α, re, rp, q⟩ := q
            unfold evE at q
            rw [lit_ev h1] at q
            exact q _ H α Ext.refl rp (h4 H α)
          · exact pe_bad rfl
      · exact pe_bad rfl
theorem pe_cmpS (C : Cok ct k fa ca Φ hot W η X) {op : CmpOp} {a b : Expr} {ma mb : Ex} {pos : Pos} (ha : PE X a (sE X fa ca Φ W η ma)) (hb : PE X b (sE X fa ca Φ W η mb)) : PE X (.Compare a [op] [b] pos) (sE X fa ca Φ W η (cmpE op ma mb b)) := by
  unfold cmpE
  split
  · rename_i o ho
    split
    · rename_i hs
      rw [copOf_to ho]
      exact peImp (pe_cmpR (op_cmp C.units o) ha hb (noSet_marks hs)) fun σ H Q q => sem2 (fun _ _ _ => cmpop_calm _ _ _ _) q
    · exact pe_bad rfl
  · split
    · split
      · rename_i hn
        unfold isNone at hn
        split at hn
        · refine peImp (pe_cmp (pc_isN ha) rfl) fun σ H Q q => ?_
          obtain ⟨ρ, L, α, re, rp, q⟩ := q
          refine ⟨ρ, L, α, re, rp, q.first rp.ne fun d L1 v H1 α1 e0 e1 p1 r1 q1 => ?_⟩
          have q2 := q1 _ H1 α1 Ext.refl p1 (.bl _)
          cases r1 <;> exact q2
        · cases hn
      · exact pe_bad rfl
    · split
      · rename_i hn
        unfold isNone at hn
        split at hn
        · refine peImp (pe_cmp (pc_notN ha) rfl) fun σ H Q q => ?_
          obtain ⟨ρ, L, α, re, rp, q⟩ := q
          refine ⟨ρ, L, α, re, rp, q.first rp.ne fun d L1 v H1 α1 e0 e1 p1 r1 q1 => ?_⟩
          have q2 := q1 _ H1 α1 Ext.refl p1 (.bl _)
          cases r1 <;> exact q2
        · cases hn
      · exact pe_bad rfl
    · exact pe_bad rfl
/-- and, or: values -/
theorem pe_boolS {o : BoolOp} {pos : Pos} {ce : Expr → Ex} (ih : ∀ e, PE X e (sE X fa ca Φ W η (ce e))) : ∀ {es : List Expr}, PE X (.BoolOp o es pos) (sE X fa ca Φ W η (boolL o (es.map ce)))
  | [] => pe_bad rfl
  | [a] => peImp (pe_one (ih a)) fun _ _ _ q => q
  | a :: b :: r => by
    cases o with
    | And =>
      refine peImp (pe_and (ih a) (pe_boolS ih (es := b :: r))) fun σ H Q q => ?_
      obtain ⟨ρ, L, α, re, rp, q⟩ := q
      refine ⟨ρ, L, α, re, rp, Post.test rp.ne q (fun L1 H1 α1 e0 e1 p1 q1 => ?_) fun L1 H1 α1 e0 e1 p1 q1 => ?_⟩
      · exact ⟨true, rfl, iteT ⟨ρ, L1, α1, re.ext e1 rp, p1, q1⟩⟩
      · exact ⟨false, rfl, iteF (q1 _ H1 α1 Ext.refl p1 (.bl _))⟩
    | Or =>
      refine peImp (pe_or (ih a) (pe_boolS ih (es := b :: r))) fun σ H Q q => ?_
      obtain ⟨ρ, L, α, re, rp, q⟩ := q
      refine ⟨ρ, L, α, re, rp, Post.test rp.ne q (fun L1 H1 α1 e0 e1 p1 q1 => ?_) fun L1 H1 α1 e0 e1 p1 q1 => ?_⟩
      · exact ⟨true, rfl, iteT (q1 _ H1 α1 Ext.refl p1 (.bl _))⟩
      · exact ⟨false, rfl, iteF ⟨ρ, L1, α1, re.ext e1 rp, p1, q1⟩⟩
/-- .. tests -/
theorem pw_boolS {o : BoolOp} {pos : Pos} {ce : Expr → Ex} (ih : ∀ e, PT X e (sT X fa ca Φ W η (ce e))) : ∀ {es : List Expr}, PW X (.BoolOp o es pos) (sT X fa ca Φ W η (boolL o (es.map ce)))
  | [] => ⟨fun _ _ _ _ _ _ _ q => by
    obtain ⟨ρ, L, α, _, _, q⟩ := q
    exact q.elim⟩
  | [a] => by
    cases o with
    | And => exact pwImp (pw_and1 (ih a)) fun _ _ _ q => q
    | Or => exact pwImp (pw_or1 (ih a)) fun _ _ _ q => q
  | a :: b :: r => by
    cases o with
    | And =>
      refine pwImp (pw_and (ih a) (pw_boolS ih (es := b :: r))) fun σ H Q q => ?_
      obtain ⟨ρ, L, α, re, rp, q⟩ := q
      refine ⟨ρ, L, α, re, rp, PostT.test rp.ne q (fun L1 H1 α1 e0 e1 p1 q1 => ?_) fun L1 H1 α1 e0 e1 p1 q1 => ?_⟩
      · exact iteT ⟨ρ, L1, α1, re.ext e1 rp, p1, q1⟩
      · obtain ⟨b, eb, q1⟩ := q1
        cases eb
        exact iteF (q1 H1 α1 Ext.refl p1)
    | Or =>
      refine pwImp (pw_or (ih a) (pw_boolS ih (es := b :: r))) fun σ H Q q => ?_
      obtain ⟨ρ, L, α, re, rp, q⟩ := q
      refine ⟨ρ, L, α, re, rp, PostT.test rp.ne q (fun L1 H1 α1 e0 e1 p1 q1 => ?_) fun L1 H1 α1 e0 e1 p1 q1 => ?_⟩
      · obtain ⟨b, eb, q1⟩ := q1
        cases eb
        exact iteT (q1 H1 α1 Ext.refl p1)
      · exact iteF ⟨ρ, L1, α1, re.ext e1 rp, p1, q1⟩
/-- a value as a test -/
theorem semT_val {K : PySem.W.Frag} {σ : L2.St} {H : Hp} {Q : Bool → Hp → Prop} {f : Env → Hd → R D} (q : semT K fa ca W η f σ H Q) : tB (semE K fa ca W η f) σ H Q := by
  obtain ⟨ρ, L, α, re, rp, q⟩ := q
  refine ⟨ρ, L, α, re, rp, ?_⟩
  cases hr : f ρ L with
  | ok d L1 =>
    rw [hr] at q
    obtain ⟨b, rfl, q⟩ := q
    intro v H1 α1 e1 p1 r1
    cases r1
    exact ⟨b, rfl, q H1 α1 e1 p1⟩
  | exc c L1 =>
    rw [hr] at q
    exact q
  | bad =>
    rw [hr] at q
    exact q
end
end MP

/-! Calls, subscripts, what is walked. -/
namespace MP
open PySem PySem.Spec PyProof.Rows L2

section
variable {X : Cx} {ct : CT} {k : Nat} {fa ca : Str → Option Addr} {Φ : Str → List D → Hd → R D} {hot : Bool} {W : WX} {η : Option (Addr × Str)}

theorem plainIx_of {b : Expr} (h : ∀ lo hi st p, b ≠ .Slice lo hi st p) : PlainIx b := fun o i => by
  cases b <;> first | rfl | exact absurd rfl (h _ _ _ _)
theorem pe_ixS {a b : Expr} {ma mb : Ex} {pos : Pos} (ha : PE X a (sE X fa ca Φ W η ma)) (hb : PE X b (sE X fa ca Φ W η mb)) (h : ∀ lo hi st p, b ≠ .Slice lo hi st p) : PE X (.Subscript a b pos) (sE X fa ca Φ W η (.ix ma mb)) :=
  peImp (pe_ix ix_sem ha hb (plainIx_of h)) fun σ H Q q => sem2 (fun _ _ _ => ixop_calm _ _ _) q
theorem po_sem {ce : Expr → Ex} (ih : ∀ e, PE X e (sE X fa ca Φ W η (ce e))) (o : Option Expr) : ∃ t, PO X o t ∧ ∀ (σ : L2.St) (H : Hp) (Q : Option Int → Hp → Prop) (ρ : Env) (L : Hd) (α : List Addr) (f : Option Int → Hd → R D) (Q' : VK), REnv X.K fa η H α ρ σ → RHp X.K fa H α L →
    Post X.K fa ca W σ ((evE Φ (optE ce o) ρ L).bind fun d L => onPart d fun i => f i L) H α Q' →
    (∀ i L1 H1 α1, Ext H α H1 α1 → RHp X.K fa H1 α1 L1 → Post X.K fa ca W σ (f i L1) H1 α1 Q' → Q i H1) → t σ H Q := by
  cases o with
  | none =>
    refine ⟨_, po_none, fun σ H Q ρ L α f Q' re rp q hk => ?_⟩
    exact hk none L H α Ext.refl rp q
  | some e =>
    refine ⟨_, po_some (ih e), fun σ H Q ρ L α f Q' re rp q hk => ?_⟩
    refine ⟨ρ, L, α, re, rp, Post.first rp.ne q fun d L1 v H1 α1 e0 e1 p1 r1 q1 => ?_⟩
    cases r1 with
    | int i => exact ⟨i, rfl, hk (some i) L1 H1 α1 e1 p1 q1⟩
    | _ => exact q1.elim
theorem pe_slS {ce : Expr → Ex} (ih : ∀ e, PE X e (sE X fa ca Φ W η (ce e))) {a : Expr} {lo hi : Option Expr} {p2 pos : Pos} :
    PE X (.Subscript a (.Slice lo hi none p2) pos) (sE X fa ca Φ W η (.sl (ce a) (optE ce lo) (optE ce hi))) := by
  obtain ⟨tl, hl, kl⟩ := po_sem ih lo
  obtain ⟨th, hh, kh⟩ := po_sem ih hi
  refine peImp (pe_slice (sl_sem (fa := fa)) (ih a) hl hh) fun σ H Q q => ?_
  obtain ⟨ρ, L, α, re, rp, q⟩ := q
  unfold evE at q
  refine ⟨ρ, L, α, re, rp, Post.first rp.ne q fun d L1 v H1 α1 e0 e1 p1 r1 q1 => ?_⟩
  refine kl σ H1 _ ρ L1 α1 _ Q (re.ext e1 rp) p1 q1 fun i L2 H2 α2 e2 p2 q2 => ?_
  refine kh σ H2 _ ρ L2 α2 _ Q (re.ext (e1.trans rp.ne e2) rp) p2 q2 fun j L3 H3 α3 e3 p3 q3 => ?_
  exact ⟨d, L3, α3, p3, r1.ext (e2.trans p1.ne e3) p1.tl, q3.v (slop_calm _ _ _ _)⟩

/-! ### calls of defs -/
theorem callOn_calm (f : Str) (d : D) (L : Hd) (h : ∀ ds, d ≠ .tup ds) : callOn Φ f d L = .bad := by
  cases d <;> first | rfl | exact absurd rfl (h _)
theorem pe_callS' (C : Cok ct k fa ca Φ false W η X) {ce : Expr → Ex} (ih : ∀ e, PE X e (sE X fa ca Φ W η (ce e))) {x : Str} {p pos : Pos} {as : List Expr} (hx : odd x = false) (hg : isGl X.env.scope x = true) (hf : ct.fns.contains x = true) (hs : noStar as = true) (hne : as.isEmpty = false) :
    PE X (.Call (.Name x p) as [] pos) (sE X fa ca Φ W η (.call x (compA ce as))) := by
  obtain ⟨ad, fd, ps, h1, h2, h3, h4, h5, h6⟩ := (C.gl.fn x hf).ex
  cases as with
  | nil => cases hne
  | cons e es =>
    have hs' := hs
    unfold noStar at hs'
    rw [List.all_cons, Bool.and_eq_true] at hs'
    refine peImp (pe_callS (E := WE W) h6 (C.room rfl) (isGl_gl hg) h2 h3 h4 (fun σ => C.pa σ) (pa_sem ih hs) (odd_d hx) (star_eq hs'.1) (star_any hs'.2)) fun σ H Q q => ?_
    obtain ⟨ρ, L, α, re, rp, q⟩ := q
    unfold evE at q
    refine ⟨ρ, L, α, re, rp, Post.args rp.ne q (fun d L h => callOn_calm x d L h) fun ds L1 vs H1 α1 e0 e1 p1 r1 q1 => ?_⟩
    have q2 : Post X.K fa ca W σ (Φ x ds L1) H1 α1 Q := q1
    refine ⟨ds, L1, α1, ?_, r1, p1, q2⟩
    by_cases hl : ds.length = ps.length
    · exact hl
    · rw [h5 ds L1 hl] at q2
      exact q2.elim
theorem pe_callDS (C : Cok ct k fa ca Φ false W η X) (hd : ct.dty = true) {ce : Expr → Ex} (ih : ∀ e, PE X e (sE X fa ca Φ W η (ce e))) {x : Str} {p pos : Pos} {as : List Expr} (hx : odd x = false) (hg : isGl X.env.scope x = true) (hf : ct.dirty.contains x = true) (hs : noStar as = true) (hne : as.isEmpty = false) :
    PE X (.Call (.Name x p) as [] pos) (sE X fa ca Φ W η (.call x (compA ce as))) := by
  obtain ⟨ad, fd, ps, h2, h3, h4, h5, h6⟩ := (C.gl.fnd x hf).ex
  cases as with
  | nil => cases hne
  | cons e es =>
    have hs' := hs
    unfold noStar at hs'
    rw [List.all_cons, Bool.and_eq_true] at hs'
    refine peImp (pe_callS (E := WE W) h6 (C.room rfl) (isGl_gl hg) h2 h3 h4 (fun σ => C.pd hd σ) (pa_sem ih hs) (odd_d hx) (star_eq hs'.1) (star_any hs'.2)) fun σ H Q q => ?_
    obtain ⟨ρ, L, α, re, rp, q⟩ := q
    unfold evE at q
    refine ⟨ρ, L, α, re, rp, Post.args rp.ne q (fun d L h => callOn_calm x d L h) fun ds L1 vs H1 α1 e0 e1 p1 r1 q1 => ?_⟩
    have q2 : Post X.K fa ca W σ (Φ x ds L1) H1 α1 Q := q1
    refine ⟨ds, L1, α1, ?_, r1, p1, q2⟩
    by_cases hl : ds.length = ps.length
    · exact hl
    · rw [h5 ds L1 hl] at q2
      exact q2.elim
theorem pe_callHS (C : Cok ct k fa ca Φ true W η X) (tk : Takes X W) (hc : L2H.HotC X) (hr : L2H.RoomH k X.A) {ce : Expr → Ex} (ih : ∀ e, PE X e (sE X fa ca Φ W η (ce e))) {x : Str} {p pos : Pos} {as : List Expr} (hx : odd x = false) (hg : isGl X.env.scope x = true) (hf : ct.hot.contains x = true) (hs : noStar as = true) (hne : as.isEmpty = false) :
    PE X (.Call (.Name x p) as [] pos) (sE X fa ca Φ W η (.call (hotn x) (compA ce as))) := by
  obtain ⟨ad, fd, ps, h1, h2, h3, h4, h5, h6⟩ := (C.gl.fnh x hf).ex
  cases as with
  | nil => cases hne
  | cons e es =>
    have hs' := hs
    unfold noStar at hs'
    rw [List.all_cons, Bool.and_eq_true] at hs'
    refine peImp (L2H.pe_callH (E := WE W) h6 hr hc (isGl_gl hg) h2 h3 h4 (fun σ => passAt tk σ) (pa_sem ih hs) (odd_d hx) (star_eq hs'.1) (star_any hs'.2)) fun σ H Q q => ?_
    obtain ⟨ρ, L, α, re, rp, q⟩ := q
    unfold evE at q
    refine ⟨ρ, L, α, re, rp, Post.args rp.ne q (fun d L h => callOn_calm _ d L h) fun ds L1 vs H1 α1 e0 e1 p1 r1 q1 => ?_⟩
    have q2 : Post X.K fa ca W σ (Φ (hotn x) ds L1) H1 α1 Q := q1
    refine ⟨ds, L1, α1, ?_, r1, p1, q2⟩
    by_cases hl : ds.length = ps.length
    · exact hl
    · rw [h5 ds L1 hl] at q2
      exact q2.elim
theorem pe_callvS (C : Cok ct k fa ca Φ false W η X) {ce : Expr → Ex} (ih : ∀ e, PE X e (sE X fa ca Φ W η (ce e))) {x : Str} {p pos : Pos} {as : List Expr} {i : Nat} (hx : odd x = false) (hv : isVis X.env.scope x = true) (hi : X.N[i]? = some x) (hs : noStar as = true) (hne : as.isEmpty = false) :
    PE X (.Call (.Name x p) as [] pos) (sE X fa ca Φ W η (.callv i (compA ce as))) := by
  cases as with
  | nil => cases hne
  | cons e es =>
    have hs' := hs
    unfold noStar at hs'
    rw [List.all_cons, Bool.and_eq_true] at hs'
    refine ⟨fun pins s σ H Q I q => ?_⟩
    obtain ⟨ρ, L, α, re, rp, q⟩ := q
    unfold evE at q
    split at q
    · rename_i f hf
      obtain ⟨v, hσ, rv⟩ := re.2.1 i (.fn f) hf fun c e => by cases e
      cases rv with
      | @fn _ ad ha =>
        obtain ⟨ad', fd, ps, h1, h2, h3, h4, h5, h6⟩ := (C.gl.fn f (C.gl.fnv f ad ha)).ex
        rw [ha] at h1
        cases h1
        refine (pe_callL (X := X) (dvs := []) (E := E0) h6 (C.room rfl) hi (isVis_vis hv) h3 h4 .nil passN (pa_sem ih hs) (odd_d hx) (odd_c hx) (star_eq hs'.1) (star_any hs'.2)).run pins s σ H Q I ⟨hσ, ?_⟩
        refine ⟨ρ, L, α, re, rp, Post.args rp.ne q (fun d L h => by rw [callOn_calm f d L h]) fun ds L1 vs H1 α1 e0 e1 p1 r1 q1 => ?_⟩
        rw [List.append_nil]
        have q2 : Post X.K fa ca W σ (match Φ f ds L1 with | .ok d L => .ok d L | _ => .bad) H1 α1 Q := q1
        cases hr : Φ f ds L1 with
        | ok d2 L2 =>
          rw [hr] at q2
          refine ⟨ds, L1, α1, ?_, r1, p1, ?_⟩
          · by_cases hl : ds.length = ps.length
            · exact hl
            · rw [h5 ds L1 hl] at hr
              cases hr
          · rw [hr]
            exact q2
        | exc c L2 =>
          rw [hr] at q2
          exact q2.elim
        | bad =>
          rw [hr] at q2
          exact q2.elim
    · exact q.elim

/-! ### calls of built-in functions and methods -/
theorem Post.argsV {K : PySem.W.Frag} {H : Hp} {α : List Addr} {σ : L2.St} {r : R D} {h : List D → Hd → R D} {Q : VK} {Q' : List V → Hp → Prop} (hn : 0 < α.length) (hc : ∀ ds L, Calm (h ds L))
    (q : Post K fa ca W σ (r.bind fun d L => match d with | .tup ds => h ds L | _ => .bad) H α Q) (hk : ∀ vs H', rSemL K fa h vs H' Q → Q' vs H') : PostA K fa ca W σ r H α Q' := by
  refine Post.args hn q (fun d L hd => ?_) fun ds L1 vs H1 α1 e0 e1 p1 r1 q1 => ?_
  · cases d <;> first | rfl | exact absurd rfl (hd _)
  · exact hk vs H1 ⟨ds, L1, α1, p1, r1, Post.v (hc _ _) q1⟩
theorem biOf_spec {x : Str} {b : Bi} (h : biOf x = some b) : b ≠ .sortedR ∧ ((∃ id, toFn b = .builtin id ∧ bootBuiltins x = some (.builtin id)) ∨ ∃ T, toFn b = .type T ∧ bootBuiltins x = some (.type T)) := by
  unfold biOf at h
  repeat' split at h
  all_goals cases h
  all_goals (rename_i e; first | subst e | skip)
  all_goals refine ⟨by decide, ?_⟩
  all_goals first
    | exact .inl ⟨_, rfl, by decide +kernel⟩
    | exact .inr ⟨_, rfl, by decide +kernel⟩
theorem pe_biS (C : Cok ct k fa ca Φ false W η X) {ce : Expr → Ex} (ih : ∀ e, PE X e (sE X fa ca Φ W η (ce e))) {x : Str} {p pos : Pos} {as : List Expr} {b : Bi} (hx : odd x = false) (hg : isGl X.env.scope x = true) (hb : ct.bt.contains x = true) (hs : noStar as = true) (hne : as.isEmpty = false) (hbi : biOf x = some b) :
    PE X (.Call (.Name x p) as [] pos) (sE X fa ca Φ W η (.bi b (compA ce as))) := by
  have hm := C.gl.bt x hb
  obtain ⟨hnr, hboot⟩ := biOf_spec hbi
  have imp : ∀ σ H Q, sE X fa ca Φ W η (.bi b (compA ce as)) σ H Q → tCB (rSemL X.K fa (biop b)) (sA X fa ca Φ W η (compA ce as)) σ H Q := fun σ H Q q => by
    obtain ⟨ρ, L, α, re, rp, q⟩ := q
    unfold evE at q
    exact ⟨ρ, L, α, re, rp, Post.argsV rp.ne (biop_calm b) q fun _ _ h => h⟩
  cases as with
  | nil => cases hne
  | cons e es =>
    have hs' := hs
    unfold noStar at hs'
    rw [List.all_cons, Bool.and_eq_true] at hs'
    have hcall := call_bi (X := X) (fa := fa) (C.calm rfl) b hnr
    rcases hboot with ⟨id, h1, h2⟩ | ⟨T, h1, h2⟩
    · rw [h1] at hcall
      exact peImp (pe_callB hcall (isGl_gl hg) hm h2 (pa_sem ih hs) (odd_n hx) (odd_d hx) (star_eq hs'.1) (star_any hs'.2)) imp
    · rw [h1] at hcall
      exact peImp (pe_callTy hcall (isGl_gl hg) hm h2 (pa_sem ih hs) (odd_n hx) (odd_d hx) (star_eq hs'.1) (star_any hs'.2)) imp
end
end MP

/-! isinstance, methods, calls of any kind. -/
namespace MP
open PySem PySem.Spec PyProof.Rows L2

section
variable {X : Cx} {ct : CT} {k : Nat} {fa ca : Str → Option Addr} {Φ : Str → List D → Hd → R D} {hot : Bool} {W : WX} {η : Option (Addr × Str)}

theorem revKw_eq {kws : List Keyword} (h : revKw kws = true) : ∃ j p q, kws = [⟨some ("reverse" : Str), .Constant (.bool true) j p, q⟩] := by
  unfold revKw at h
  split at h
  · rename_i x j p q
    have e : x = ("reverse" : Str) := beq_iff_eq.mp h
    subst e
    exact ⟨_, _, _, rfl⟩
  · cases h
theorem pe_sortedRS (C : Cok ct k fa ca Φ false W η X) {ce : Expr → Ex} (ih : ∀ e, PE X e (sE X fa ca Φ W η (ce e))) {p pos : Pos} {as : List Expr} {kws : List Keyword} (hg : isGl X.env.scope "sorted" = true) (hb : ct.bt.contains "sorted" = true) (hs : noStar as = true) (hne : as.isEmpty = false)
    (hk : revKw kws = true) : PE X (.Call (.Name "sorted" p) as kws pos) (sE X fa ca Φ W η (.bi .sortedR (compA ce as))) := by
  obtain ⟨j, p1, p2, rfl⟩ := revKw_eq hk
  cases as with
  | nil => cases hne
  | cons e es =>
    have hs' := hs
    unfold noStar at hs'
    rw [List.all_cons, Bool.and_eq_true] at hs'
    refine peImp (pe_callBK (tk := tCons (tC (.bl true)) tNil) (call_sortedR (X := X) (fa := fa)) (isGl_gl hg) (C.gl.bt _ hb) (by decide +kernel) (pa_sem ih hs) (pk_cons pe_bl pk_nil) (by decide) (by decide)
      (by rw [star_eq hs'.1]; rfl) (star_any hs) (by rfl) (by rfl) (by rfl)) fun σ H Q q => ?_
    obtain ⟨ρ, L, α, re, rp, q⟩ := q
    unfold evE at q
    exact ⟨ρ, L, α, re, rp, Post.argsV rp.ne (biop_calm .sortedR) q fun vs H1 h => ⟨rfl, h⟩⟩

/-! ### isinstance -/
theorem tyOf_spec {t : Str} {ty : Ty} (h : tyOf t = some ty) : bootBuiltins t = some (.type (tn ty)) := by
  unfold tyOf at h
  repeat' split at h
  all_goals cases h
  all_goals (rename_i e; first | subst e | skip)
  all_goals decide +kernel
theorem pe_isiS (C : Cok ct k fa ca Φ hot W η X) {ce : Expr → Ex} (ih : ∀ e, PE X e (sE X fa ca Φ W η (ce e))) {p pos : Pos} {as : List Expr} (hg : isGl X.env.scope "isinstance" = true) : PE X (.Call (.Name "isinstance" p) as [] pos) (sE X fa ca Φ W η (isiE ct X.N hot X.env.scope ce as)) := by
  unfold isiE
  split
  · rename_i a t pt
    split
    · rename_i hc
      obtain ⟨h1, h2, h3, h4⟩ := hc
      have hboot : bootBuiltins "isinstance" = some (.builtin "isinstance") := by decide +kernel
      split
      · -- an exception that the suite holds
        rename_i hhot
        split
        · rename_i y py
          split
          · rename_i hy
            obtain ⟨hv, hyo, hcl⟩ := hy
            split
            · rename_i i hi
              refine ⟨fun pins s σ H Q I q => ?_⟩
              obtain ⟨ρ, L, α, re, rp, q⟩ := q
              unfold evE at q
              split at q
              · rename_i c hcρ
                obtain ⟨a, hη, hσ⟩ := re.2.2 i c hcρ
                obtain ⟨_, D, hD, hcall⟩ := C.isE a c hη
                have hcls : ct.cls.contains t = true ∨ t = ("ValueError" : Str) := by
                  rcases hcl with ⟨h, _⟩ | ⟨h, _⟩
                  · exact .inl h
                  · exact .inr h
                obtain ⟨u, hu, hk, _⟩ := C.gl.kit c D t hD hcls
                have hpt : ∃ v, (∀ w, RelV v w → w = u) ∧ PE X (.Name t pt) (tC v) := by
                  unfold clsV at hu
                  split at hu
                  · rename_i ht
                    cases hu
                    subst ht
                    rcases hcl with ⟨_, hne⟩ | ⟨_, hbt⟩
                    · exact absurd rfl hne
                    · exact ⟨.ty "ValueError", fun w r => r, pe_bltn (isGl_gl h1) (C.gl.bt _ hbt) (by decide +kernel) rfl (odd_n h2) (odd_d h2)⟩
                  · rename_i ht
                    rcases hcls with h | h
                    · obtain ⟨C1, hC1⟩ := C.gl.cl _ h
                      rw [hC1] at hu
                      cases hu
                      exact ⟨.ref C1, fun w r => r, pe_glob (isGl_gl h1) hC1 rfl (odd_d h2)⟩
                    · exact absurd h ht
                obtain ⟨v, hvu, hpe⟩ := hpt
                have hpa : PA X [Expr.Name y py, Expr.Name t pt] (tCons (tVar i) (tCons (tC v) tNil)) := pa_cons (pe_var (ixOf_get hi) (isVis_vis hv) (odd_d hyo) (odd_c hyo)) (pa_cons hpe pa_nil)
                refine (pe_callB hcall (isGl_gl hg) (C.gl.bt _ h3) hboot hpa (by decide) (by decide) (by rfl) (by rfl)).run pins s σ H Q I ?_
                refine ⟨.ref a, hσ, v, u, isSub c t, rfl, hvu, hk, ?_⟩
                exact q _ H α Ext.refl rp (.bl _)
              · exact q.elim
            · exact pe_bad rfl
          · exact pe_bad rfl
        · exact pe_bad rfl
      · split
        · rename_i ty hty
          split
          · rename_i hbt
            have hpa : PA X [a, Expr.Name t pt] (tCons (sE X fa ca Φ W η (ce a)) (tCons (tC (.ty (tn ty))) tNil)) := pa_cons (ih a) (pa_cons (pe_bltn (isGl_gl h1) (C.gl.bt _ hbt) (tyOf_spec hty) rfl (odd_n h2) (odd_d h2)) pa_nil (by rfl)) (star_eq h4)
            refine peImp (pe_callB (call_isi (X := X)) (isGl_gl hg) (C.gl.bt _ h3) hboot hpa (by decide) (by decide) (star_eq h4) (by rfl)) fun σ H Q q => ?_
            obtain ⟨ρ, L, α, re, rp, q⟩ := q
            unfold evE at q
            refine ⟨ρ, L, α, re, rp, Post.first rp.ne q fun d L1 v H1 α1 e0 e1 p1 r1 q1 => ?_⟩
            exact isi_sem p1 r1 (q1.v (tyop_calm _ _ _))
          · exact pe_bad rfl
        · exact pe_bad rfl
    · exact pe_bad rfl
  · exact pe_bad rfl

/-! ### methods -/
theorem tyL {K : PySem.W.Frag} {H : Hp} {α : List Addr} {L : Hd} {n : Nat} {x : V} (p : RHp K fa H α L) (r : RV K fa H α (.ref n) x) : tyV K "list" x H := by
  cases r with
  | ref h1 =>
    have hl : n < L.length := by
      rw [← p.len]
      exact (List.getElem?_eq_some_iff.mp h1).1
    cases hc : L[n] with
    | lst xs =>
      have hx : getL L n = some xs := by
        unfold getL
        rw [List.getElem?_eq_getElem hl, hc]
      obtain ⟨vs, _, hq⟩ := p.seq h1 hx
      exact .inl ⟨rfl, vs, hq⟩
def meId : Me → String
  | .append => "list.append"
  | .pop => "list.pop"
  | .popAt => "list.pop"
  | .clear => "list.clear"
  | .reverse => "list.reverse"
  | .insert => "list.insert"
  | .partition => "str.partition"
  | .replace => "str.replace"
  | .split => "str.split"
  | .startswith => "str.startswith"
  | .join => "str.join"
def lstMe : Me → Bool
  | .append => true
  | .pop => true
  | .popAt => true
  | .clear => true
  | .reverse => true
  | .insert => true
  | _ => false
theorem recv_list {m : Me} {d : D} (hm : lstMe m = true) (h : recv m d = true) : ∃ n, d = .ref n := by
  cases m <;> cases hm <;> (cases d <;> first | exact ⟨_, rfl⟩ | cases h)
theorem mt_lst {m : Me} (hm : lstMe m = true) : MtR X (meId m) (rSemM X.K fa (meop m)) := by
  cases m with
  | append => exact mt_app
  | pop => exact mt_popS
  | popAt => exact mt_popAtS
  | clear => exact mt_clearS
  | reverse => exact mt_reverseS
  | insert => exact mt_insertS
  | _ => cases hm
theorem base_eq {o : Expr} {nm : Str} (h : plainO o = true) : attributeBase o nm X.env (eval o X.env) = eval o X.env := by
  cases o <;> first | rfl | cases h
structure MeS (m : Me) (x : Str) (n : Nat) : Prop where
  lst : lstMe m = true
  slot : Slot "list" x (meId m)
  ty : typeOf (.builtin (meId m)) = pure (.type "method_descriptor")
  many : n < 20
theorem meOf_spec {x : Str} {n : Nat} {m : Me} (h : meOf x n = some m) : MeS m x n := by
  unfold meOf at h
  split at h
  · rename_i e
    obtain ⟨rfl, rfl⟩ := e
    cases h
    exact ⟨rfl, PySem.F.slot_list_append, PySem.F.type_list_append, by decide⟩
  · split at h
    · rename_i e
      obtain ⟨rfl, rfl⟩ := e
      cases h
      exact ⟨rfl, PySem.F.slot_list_pop, PySem.F.type_list_pop, by decide⟩
    · split at h
      · rename_i e
        obtain ⟨rfl, rfl⟩ := e
        cases h
        exact ⟨rfl, PySem.F.slot_list_pop, PySem.F.type_list_pop, by decide⟩
      · split at h
        · rename_i e
          obtain ⟨rfl, rfl⟩ := e
          cases h
          exact ⟨rfl, PySem.F.slot_list_clear, PySem.F.type_list_clear, by decide⟩
        · split at h
          · rename_i e
            obtain ⟨rfl, rfl⟩ := e
            cases h
            exact ⟨rfl, PySem.F.slot_list_reverse, PySem.F.type_list_reverse, by decide⟩
          · split at h
            · rename_i e
              obtain ⟨rfl, rfl⟩ := e
              cases h
              exact ⟨rfl, PySem.F.slot_list_insert, PySem.F.type_list_insert, by decide⟩
            · cases h
theorem pe_meS {ce : Expr → Ex} (ih : ∀ e, PE X e (sE X fa ca Φ W η (ce e))) {o : Expr} {x : Str} {ap p : Pos} {as : List Expr} {m : Me} (ho : plainO o = true) (hl : (ap.endLine == p.line) = true) (hs : noStar as = true) (hm : meOf x as.length = some m) :
    PE X (.Call (.Attribute o x ap) as [] p) (sE X fa ca Φ W η (.me m (ce o) (compA ce as))) := by
  have S := meOf_spec hm
  cases as with
  | nil =>
    refine peImp (pe_bm0 PySem.F.plainAttrs_list S.slot S.ty (mt_lst (fa := fa) S.lst) (ih o) (base_eq ho) hl) fun σ H Q q => ?_
    obtain ⟨ρ, L, α, re, rp, q⟩ := q
    unfold evE at q
    refine ⟨ρ, L, α, re, rp, Post.first rp.ne q fun d L1 v H1 α1 e0 e1 p1 r1 q1 => ?_⟩
    split at q1
    · rename_i hr
      obtain ⟨n, rfl⟩ := recv_list S.lst hr
      have q2 : Post X.K fa ca W σ (meop m (.ref n) [] L1) H1 α1 Q := q1
      exact ⟨tyL p1 r1, _, [], L1, α1, p1, r1, .nil, q2.v (meop_calm _ _ _ _)⟩
    · exact q1.elim
  | cons e es =>
    have hs' := hs
    unfold noStar at hs'
    rw [List.all_cons, Bool.and_eq_true] at hs'
    have hmany := S.many
    refine peImp (pe_bm PySem.F.plainAttrs_list S.slot S.ty (mt_lst (fa := fa) S.lst) (ih o) (pa_sem ih hs) (base_eq ho) (by
      rw [star_all hs]
      simp only [List.length_cons] at hmany
      simp only [List.length_cons, List.length_nil, Bool.true_and]
      show (true && decide (es.length + 1 + 0 + 0 < 30)) = true
      rw [Bool.true_and, decide_eq_true_eq]
      omega) hl (star_eq hs'.1) (star_any hs'.2)) fun σ H Q q => ?_
    obtain ⟨ρ, L, α, re, rp, q⟩ := q
    unfold evE at q
    refine ⟨ρ, L, α, re, rp, Post.first rp.ne q fun d L1 v H1 α1 e0 e1 p1 r1 q1 => ?_⟩
    split at q1
    · rename_i hr
      obtain ⟨n, rfl⟩ := recv_list S.lst hr
      refine ⟨tyL p1 r1, ρ, L1, α1, re.ext e1 rp, p1, Post.args p1.ne q1 (fun d L hd => ?_) fun ds L2 vs H2 α2 e0 e2 p2 r2 q2 => ?_⟩
      · cases d <;> first | rfl | exact absurd rfl (hd _)
      · exact ⟨_, ds, L2, α2, p2, r1.ext e2 p1.tl, r2, Post.v (meop_calm _ _ _ _) q2⟩
    · exact q1.elim

/-! ### methods of texts -/
structure TmS (m : Tm) (x : Str) (n : Nat) : Prop where
  slot : Slot "str" x (tmId m)
  ty : typeOf (.builtin (tmId m)) = pure (.type "method_descriptor")
  one : n = 1
  nr : m ≠ .replace
theorem tmOf_spec {x : Str} {n : Nat} {m : Tm} (h : tmOf x n = some m) : TmS m x n := by
  unfold tmOf at h
  split at h
  · rename_i e
    obtain ⟨rfl, rfl⟩ := e
    cases h
    exact ⟨PySem.F.slot_str_partition, PySem.F.type_str_partition, rfl, by decide⟩
  · split at h
    · rename_i e
      obtain ⟨rfl, rfl⟩ := e
      cases h
      exact ⟨PySem.F.slot_str_split, PySem.F.type_str_split, rfl, by decide⟩
    · split at h
      · rename_i e
        obtain ⟨rfl, rfl⟩ := e
        cases h
        exact ⟨PySem.F.slot_str_startswith, PySem.F.type_str_startswith, rfl, by decide⟩
      · split at h
        · rename_i e
          obtain ⟨rfl, rfl⟩ := e
          cases h
          exact ⟨PySem.F.slot_str_join, PySem.F.type_str_join, rfl, by decide⟩
        · cases h
theorem isStr_str {d : D} (h : isStr d = true) : ∃ z, d = .str z := by
  cases d <;> first | exact ⟨_, rfl⟩ | cases h
theorem pe_tmS {ce : Expr → Ex} (ih : ∀ e, PE X e (sE X fa ca Φ W η (ce e))) {o : Expr} {x : Str} {ap p : Pos} {as : List Expr} {m : Tm} (ho : plainO o = true) (hl : (ap.endLine == p.line) = true) (hs : noStar as = true) (hm : tmOf x as.length = some m) :
    PE X (.Call (.Attribute o x ap) as [] p) (sE X fa ca Φ W η (.tm m (ce o) (compA ce as))) := by
  have S := tmOf_spec hm
  cases as with
  | nil => exact absurd S.one (by decide)
  | cons e es =>
    have hs' := hs
    unfold noStar at hs'
    rw [List.all_cons, Bool.and_eq_true] at hs'
    have hmany := S.one
    refine peImp (pe_bm PySem.F.plainAttrs_str S.slot S.ty (mt_tm (fa := fa) m S.nr) (ih o) (pa_sem ih hs) (base_eq ho) (by
      rw [star_all hs]
      simp only [List.length_cons] at hmany
      simp only [List.length_cons, List.length_nil, Bool.true_and]
      show (true && decide (es.length + 1 + 0 + 0 < 30)) = true
      rw [Bool.true_and, decide_eq_true_eq]
      omega) hl (star_eq hs'.1) (star_any hs'.2)) fun σ H Q q => ?_
    obtain ⟨ρ, L, α, re, rp, q⟩ := q
    unfold evE at q
    refine ⟨ρ, L, α, re, rp, Post.first rp.ne q fun d L1 v H1 α1 e0 e1 p1 r1 q1 => ?_⟩
    split at q1
    · rename_i hr
      obtain ⟨z, rfl⟩ := isStr_str hr
      have ht : tyV X.K "str" v H1 := by
        cases r1
        exact rfl
      refine ⟨ht, ρ, L1, α1, re.ext e1 rp, p1, Post.args p1.ne q1 (fun d L hd => ?_) fun ds L2 vs H2 α2 e0 e2 p2 r2 q2 => ?_⟩
      · cases d <;> first | rfl | exact absurd rfl (hd _)
      · exact ⟨_, ds, L2, α2, p2, r1.ext e2 p1.tl, r2, Post.v (tmop_calm _ _ _ _) q2⟩
    · exact q1.elim

/-! ### a call of any kind -/
theorem nil_of {α : Type} {l : List α} (h : l.isEmpty = true) : l = [] := List.isEmpty_iff.mp h
theorem pe_callAny (C : Cok ct k fa ca Φ hot W η X) {ce : Expr → Ex} (ih : ∀ e, PE X e (sE X fa ca Φ W η (ce e))) {f : Expr} {as : List Expr} {kws : List Keyword} {p : Pos} : PE X (.Call f as kws p) (sE X fa ca Φ W η (callE ct X.N hot X.env.scope ce f as kws p)) := by
  unfold callE
  split
  · rename_i x px
    split
    · exact pe_bad rfl
    · rename_i hodd
      have ho : odd x = false := by simpa using hodd
      split
      · rename_i hv
        split
        · exact pe_bad rfl
        · rename_i hh
          simp only [not_or, Bool.not_eq_false, Bool.not_eq_true] at hh
          obtain ⟨h1, h2, h3, h4⟩ := hh
          subst h1
          obtain rfl := nil_of h4
          split
          · rename_i i hi
            exact pe_callvS C ih ho hv (ixOf_get hi) h2 h3
          · exact pe_bad rfl
      · split
        · rename_i hg
          split
          · rename_i hf
            split
            · exact pe_bad rfl
            · rename_i hh
              simp only [not_or, Bool.not_eq_false, Bool.not_eq_true] at hh
              obtain ⟨h1, h2, h3, h4⟩ := hh
              subst h1
              obtain rfl := nil_of h4
              exact pe_callS' C ih ho hg hf h2 h3
          · split
            · rename_i hf
              split
              · exact pe_bad rfl
              · rename_i hh
                simp only [not_or, Bool.not_eq_false, Bool.not_eq_true] at hh
                obtain ⟨h0, h1, h2, h3, h4⟩ := hh
                subst h1
                obtain rfl := nil_of h4
                exact pe_callDS C h0 ih ho hg hf h2 h3
            split
            · rename_i hb
              split
              · rename_i hx
                subst hx
                split
                · rename_i hk
                  obtain rfl := nil_of hk
                  exact pe_isiS C ih hg
                · exact pe_bad rfl
              · split
                · exact pe_bad rfl
                · rename_i hh
                  simp only [not_or, Bool.not_eq_false, Bool.not_eq_true] at hh
                  obtain ⟨h1, h2, h3⟩ := hh
                  subst h1
                  split
                  · rename_i hr
                    obtain ⟨rfl, hr⟩ := hr
                    exact pe_sortedRS C ih hg hb h2 h3 hr
                  · split
                    · rename_i b hbi
                      split
                      · rename_i hk
                        obtain rfl := nil_of hk
                        exact pe_biS C ih ho hg hb h2 h3 hbi
                      · exact pe_bad rfl
                    · exact pe_bad rfl
            · exact pe_bad rfl
        · exact pe_bad rfl
  · rename_i o m ap
    split
    · exact pe_bad rfl
    · rename_i hh
      simp only [not_or, Bool.not_eq_false, Bool.not_eq_true] at hh
      obtain ⟨h1, h2, h3, h4, h5⟩ := hh
      obtain rfl := nil_of h2
      split
      · rename_i m' hm
        exact pe_meS ih h4 h5 h3 hm
      · split
        · rename_i m' hm
          exact pe_tmS ih h4 h5 h3 hm
        · exact pe_bad rfl
  · exact pe_bad rfl
end
end MP

/-! What is walked; comprehensions; all expressions. -/
namespace MP
open PySem PySem.Spec PyProof.Rows L2

/-- the iterator walks the items -/
structure JOk (K : PySem.W.Frag) (fa : Str → Option Addr) (J : It) (w : Option Nat) (xs : List D) (H1 : Hp) (α1 : List Addr) : Prop where
  go : ∀ i H α L, RHp K fa H α L → Ext H1 α1 H α → seen w xs L → i < xs.length → J.go i H
  yld : ∀ i H α L x H', RHp K fa H α L → Ext H1 α1 H α → seen w xs L → i < xs.length → J.yld i H x H' → H' = H ∧ ∃ d, xs[i]? = some d ∧ RV K fa H α d x
  stop : ∀ i H α L, RHp K fa H α L → Ext H1 α1 H α → seen w xs L → xs.length ≤ i → J.stop i H
def PostI (K : PySem.W.Frag) (fa ca : Str → Option Addr) (W : WX) (σ : L2.St) (r : R D) (H : Hp) (α : List Addr) (Q : It → Hp → Prop) : Prop := match r with
  | .ok d L => ∃ w xs, items d L = some (w, xs) ∧ ∀ J H' α', Ext H α H' α' → RHp K fa H' α' L → JOk K fa J w xs H' α' → Q J H'
  | .exc c L => ∀ C H' α', ca c = some C → Ext H α H' α' → RHp K fa H' α' L → W (.ref C) none σ H'
  | .bad => False
def semI (K : PySem.W.Frag) (fa ca : Str → Option Addr) (W : WX) (η : Option (Addr × Str)) (ev : Env → Hd → R D) : TI := fun σ H Q => ∃ ρ L α, REnv K fa η H α ρ σ ∧ RHp K fa H α L ∧ PostI K fa ca W σ (ev ρ L) H α Q

section
variable {X : Cx} {ct : CT} {k : Nat} {fa ca : Str → Option Addr} {Φ : Str → List D → Hd → R D} {hot : Bool} {W : WX} {η : Option (Addr × Str)} {tg : Expr}
theorem PostI.from {K : PySem.W.Frag} {H H' : Hp} {α α' : List Addr} {σ : L2.St} {r : R D} {Q : It → Hp → Prop} (hn : 0 < α.length) (e : Ext H α H' α') (h : PostI K fa ca W σ r H α Q) : PostI K fa ca W σ r H' α' Q := by
  cases r with
  | ok d L =>
    obtain ⟨w, xs, hi, h⟩ := h
    exact ⟨w, xs, hi, fun J H2 α2 e2 => h J H2 α2 (e.trans hn e2)⟩
  | exc c L => exact fun C H2 α2 hc e2 => h C H2 α2 hc (e.trans hn e2)
  | bad => exact h
theorem piImp {it : Expr} {t u : TI} (h : PI X tg it t) (i : ∀ σ H Q, u σ H Q → t σ H Q) : PI X tg it u := ⟨fun pins s σ H Q I q => h.run pins s σ H Q I (i σ H Q q)⟩
theorem piOr {it : Expr} {t u : TI} (h : PI X tg it t) (h' : PI X tg it u) : PI X tg it (fun σ H Q => t σ H Q ∨ u σ H Q) := ⟨fun pins s σ H Q I q => by
  rcases q with q | q
  · exact h.run pins s σ H Q I q
  · exact h'.run pins s σ H Q I q⟩
theorem pi_bad {it : Expr} {m : Ex} (h : m = .bad) : PI X tg it (semI X.K fa ca W η (evE Φ m)) := ⟨fun _ _ _ _ _ _ q => by
  subst h
  obtain ⟨ρ, L, α, _, _, q⟩ := q
  exact q.elim⟩
theorem sqL_inj {K : PySem.W.Frag} {H : Hp} {a : Addr} {vs : List V} (h : H a = some (.lst vs)) : ∀ us, SqL K H a us → H a = some (.lst vs) := fun _ _ => h
/-- a list that stands as it did -/
theorem jok_list {K : PySem.W.Frag} {H1 : Hp} {α1 : List Addr} {n : Nat} {a : Addr} {xs : List D} (ha : α1[n]? = some a) : JOk K fa (Itl K a) (some n) xs H1 α1 := by
  have at_ : ∀ {H α L}, RHp K fa H α L → Ext H1 α1 H α → seen (some n) xs L → ∃ vs, RVs K fa H α xs vs ∧ SqL K H a vs := fun {H α L} p e s => by
    obtain ⟨β, rfl, _⟩ := e.app
    have ha' : (α1 ++ β)[n]? = some a := by
      rw [List.getElem?_append_left (List.getElem?_eq_some_iff.mp ha).1]
      exact ha
    exact p.seq ha' s
  refine ⟨fun i H α L p e s hi => ?_, fun i H α L x H' p e s hi y => ?_, fun i H α L p e s hi => ?_⟩
  · obtain ⟨vs, r, q⟩ := at_ p e s
    rw [r.length] at hi
    exact ⟨vs, vs[i], q, by simp [hi]⟩
  · obtain ⟨vs, r, q⟩ := at_ p e s
    obtain ⟨rfl, y⟩ := y
    have hx := y vs q
    obtain ⟨v, hv, rv⟩ := r.get (List.getElem?_eq_getElem hi)
    rw [hx] at hv
    cases hv
    exact ⟨rfl, _, List.getElem?_eq_getElem hi, rv⟩
  · obtain ⟨vs, r, q⟩ := at_ p e s
    rw [r.length] at hi
    exact ⟨vs, q, hi⟩
theorem jok_tup {K : PySem.W.Frag} {H1 : Hp} {α1 : List Addr} {L1 : Hd} {a : Addr} {xs : List D} {vs : List V} (p1 : RHp K fa H1 α1 L1) (h : SqT K H1 a vs) (r : RVs K fa H1 α1 xs vs) : JOk K fa (Itt K a) none xs H1 α1 := by
  refine ⟨fun i H α L p e s hi => ?_, fun i H α L x H' p e s hi y => ?_, fun i H α L p e s hi => ?_⟩
  · rw [r.length] at hi
    exact ⟨vs, vs[i], sqtExt h e p1.tl, by simp [hi]⟩
  · obtain ⟨rfl, y⟩ := y
    have hx := y vs (sqtExt h e p1.tl)
    obtain ⟨v, hv, rv⟩ := r.get (List.getElem?_eq_getElem hi)
    rw [hx] at hv
    cases hv
    exact ⟨rfl, _, List.getElem?_eq_getElem hi, rv.ext e p1.tl⟩
  · rw [r.length] at hi
    exact ⟨vs, sqtExt h e p1.tl, hi⟩
theorem jok_revT {K : PySem.W.Frag} {H1 : Hp} {α1 : List Addr} {L1 : Hd} {a : Addr} {xs : List D} {vs : List V} (p1 : RHp K fa H1 α1 L1) (h : SqT K H1 a vs) (r : RVs K fa H1 α1 xs vs) : JOk K fa (RT.ItvT K a vs.length) none xs.reverse H1 α1 := by
  have hl := r.length
  have gt : ∀ {i : Nat}, i < xs.reverse.length → xs.reverse[i]? = xs[xs.length - 1 - i]? := fun {i} hi => by
    rw [List.length_reverse] at hi
    exact List.getElem?_reverse hi
  refine ⟨fun i H α L p e s hi => ?_, fun i H α L x H' p e s hi y => ?_, fun i H α L p e s hi => ?_⟩
  · rw [List.length_reverse] at hi
    have hi' : vs.length - 1 - i < vs.length := by omega
    exact ⟨by omega, vs, vs[vs.length - 1 - i], sqtExt h e p1.tl, by simp [hi']⟩
  · obtain ⟨rfl, y⟩ := y
    have hx := y vs (sqtExt h e p1.tl)
    have g := gt hi
    rw [List.length_reverse] at hi
    have hi' : xs.length - 1 - i < xs.length := by omega
    obtain ⟨v, hv, rv⟩ := r.get (List.getElem?_eq_getElem hi')
    rw [hl] at hv
    rw [hx] at hv
    cases hv
    exact ⟨rfl, _, by rw [g]; exact List.getElem?_eq_getElem hi', rv.ext e p1.tl⟩
  · rw [List.length_reverse] at hi
    show vs.length ≤ i
    omega
theorem steps_len (lo c : Int) : ∀ n, (steps lo c n).length = n := by
  intro n
  induction n generalizing lo with
  | zero => rfl
  | succ n ih =>
    show (steps (lo + c) c n).length + 1 = n + 1
    rw [ih]
theorem steps_get (c : Int) : ∀ (n i : Nat) (lo : Int), i < n → (steps lo c n)[i]? = some (.int (lo + (i : Nat) * c))
  | 0, _, _, h => absurd h (Nat.not_lt_zero _)
  | n + 1, 0, lo, _ => by
    show some (D.int lo) = _
    congr
    simp
  | n + 1, i + 1, lo, h => by
    have h2 : i < n := by omega
    show (steps (lo + c) c n)[i]? = _
    rw [steps_get c n i (lo + c) h2]
    congr 2
    rw [show ((i + 1 : Nat) : Int) = (i : Int) + 1 from rfl, Int.add_mul]
    omega
theorem jok_steps {K : PySem.W.Frag} {H1 : Hp} {α1 : List Addr} {lo c : Int} {n : Nat} : JOk K fa (Itc lo c n) none (steps lo c n) H1 α1 := by
  refine ⟨fun i H α L p e s hi => ?_, fun i H α L x H' p e s hi y => ?_, fun i H α L p e s hi => ?_⟩
  · rw [steps_len] at hi
    exact hi
  · rw [steps_len] at hi
    obtain ⟨rfl, rfl⟩ := y
    exact ⟨rfl, _, steps_get c n i lo hi, .int _⟩
  · rw [steps_len] at hi
    exact hi
theorem jok_range {K : PySem.W.Frag} {H1 : Hp} {α1 : List Addr} {lo : Int} {n : Nat} : JOk K fa (Itr lo n) none (steps lo 1 n) H1 α1 := by
  refine ⟨fun i H α L p e s hi => ?_, fun i H α L x H' p e s hi y => ?_, fun i H α L p e s hi => ?_⟩
  · rw [steps_len] at hi
    exact hi
  · rw [steps_len] at hi
    obtain ⟨rfl, rfl⟩ := y
    refine ⟨rfl, _, steps_get 1 n i lo hi, ?_⟩
    rw [Int.mul_one]
    exact .int _
  · rw [steps_len] at hi
    exact hi
theorem jok_str {K : PySem.W.Frag} {H1 : Hp} {α1 : List Addr} {z : Str} : JOk K fa (Its z) none (z.cps.toList.map fun c => D.str ⟨#[c]⟩) H1 α1 := by
  refine ⟨fun i H α L p e s hi => ?_, fun i H α L x H' p e s hi y => ?_, fun i H α L p e s hi => ?_⟩
  · show i < z.cps.size
    simpa using hi
  · obtain ⟨rfl, c, hc, rfl⟩ := y
    refine ⟨rfl, .str ⟨#[c]⟩, ?_, .str _⟩
    rw [List.getElem?_map, Array.getElem?_toList, hc]
    rfl
  · show z.cps.size ≤ i
    simpa using hi
/-- a value that is walked -/
theorem pi_val {it : Expr} {m : Ex} (h : PE X it (sE X fa ca Φ W η m)) : PI X tg it (semI X.K fa ca W η (evE Φ m)) := by
  refine piImp (piOr (pi_list h) (piOr (pi_tup h) (pi_str h))) fun σ H Q q => ?_
  obtain ⟨ρ, L, α, re, rp, q⟩ := q
  cases hr : evE Φ m ρ L with
  | ok d L1 =>
    rw [hr] at q
    obtain ⟨w, xs, hi, q⟩ := q
    cases d with
    | tup ds =>
      cases hi
      refine .inr (.inl ⟨ρ, L, α, re, rp, ?_⟩)
      rw [hr]
      intro v H1 α1 e1 p1 r1
      cases r1 with
      | tup h1 r1 => exact ⟨_, rfl, ⟨_, h1⟩, q _ _ _ e1 p1 (jok_tup p1 h1 r1)⟩
    | ref n =>
      refine .inl ⟨ρ, L, α, re, rp, ?_⟩
      rw [hr]
      intro v H1 α1 e1 p1 r1
      cases r1 with
      | ref h1 =>
        unfold items at hi
        dsimp only at hi
        cases hg : getL L1 n with
        | none =>
          rw [hg] at hi
          cases hi
        | some ys =>
          rw [hg] at hi
          cases hi
          obtain ⟨vs, _, hq⟩ := p1.seq h1 hg
          exact ⟨_, rfl, ⟨vs, hq⟩, q _ _ _ e1 p1 (jok_list h1)⟩
    | str z =>
      cases hi
      refine .inr (.inr ⟨ρ, L, α, re, rp, ?_⟩)
      rw [hr]
      intro v H1 α1 e1 p1 r1
      cases r1
      exact ⟨_, rfl, q _ _ _ e1 p1 jok_str⟩
    | _ => cases hi
  | exc c L1 =>
    rw [hr] at q
    refine .inl ⟨ρ, L, α, re, rp, ?_⟩
    rw [hr]
    exact q
  | bad =>
    rw [hr] at q
    exact q.elim
theorem smallB {i : Int} (h : small i) : -(2 ^ 62) ≤ i ∧ i < 2 ^ 62 := by
  unfold small at h
  constructor <;> omega
theorem PostI.args {K : PySem.W.Frag} {H : Hp} {α : List Addr} {σ : L2.St} {r : R D} {f : List D → Hd → R D} {Q : It → Hp → Prop} {Q' : List V → Hp → Prop} (hn : 0 < α.length) (h : PostI K fa ca W σ (r.bind fun d L => match d with | .tup ds => f ds L | _ => .bad) H α Q)
    (k : ∀ ds L vs H' α', r = .ok (.tup ds) L → Ext H α H' α' → RHp K fa H' α' L → RVs K fa H' α' ds vs → PostI K fa ca W σ (f ds L) H' α' Q → Q' vs H') : PostA K fa ca W σ r H α Q' := by
  cases r with
  | ok d L =>
    cases d with
    | tup ds => exact ⟨ds, rfl, fun vs H' α' e p rv => k ds L vs H' α' rfl e p rv (PostI.from hn e (show PostI K fa ca W σ (f ds L) H α Q from h))⟩
    | _ => exact h.elim
  | exc c L => exact h
  | bad => exact h
theorem PostI.first {K : PySem.W.Frag} {H : Hp} {α : List Addr} {σ : L2.St} {r : R D} {f : D → Hd → R D} {Q : It → Hp → Prop} {Q' : VK} (hn : 0 < α.length) (h : PostI K fa ca W σ (r.bind f) H α Q)
    (k : ∀ d L v H' α', r = .ok d L → Ext H α H' α' → RHp K fa H' α' L → RV K fa H' α' d v → PostI K fa ca W σ (f d L) H' α' Q → Q' v H') : Post K fa ca W σ r H α Q' := by
  cases r with
  | ok d L => exact fun v H' α' e p rv => k d L v H' α' rfl e p rv (PostI.from hn e h)
  | exc c L => exact h
  | bad => exact h
theorem compA_len {ce : Expr → Ex} : ∀ {es : List Expr} {ρ : Env} {L L1 : Hd} {ds : List D}, evE Φ (compA ce es) ρ L = .ok (.tup ds) L1 → ds.length = es.length
  | [], ρ, L, L1, ds, h => by
    cases h
    rfl
  | e :: es, ρ, L, L1, ds, h => by
    have h' : ((evE Φ (ce e) ρ L).bind fun x L => (evE Φ (compA ce es) ρ L).bind fun y L => (match y with | .tup ys => .ok (.tup (x :: ys)) L | _ => .bad)) = R.ok (D.tup ds) L1 := h
    cases h1 : evE Φ (ce e) ρ L with
    | ok d L2 =>
      rw [h1, R.bind_ok] at h'
      cases h2 : evE Φ (compA ce es) ρ L2 with
      | ok d2 L3 =>
        rw [h2, R.bind_ok] at h'
        cases d2 with
        | tup ys =>
          cases h'
          have := compA_len h2
          simp [this]
        | _ => cases h'
      | exc c L3 =>
        rw [h2] at h'
        cases h'
      | bad =>
        rw [h2] at h'
        cases h'
    | exc c L2 =>
      rw [h1] at h'
      cases h'
    | bad =>
      rw [h1] at h'
      cases h'
theorem pi_rngS (C : Cok ct k fa ca Φ hot W η X) {ce : Expr → Ex} (ih : ∀ e, PE X e (sE X fa ca Φ W η (ce e))) {p pos : Pos} {as : List Expr} (hg : isGl X.env.scope "range" = true) (hb : ct.bt.contains "range" = true) (hs : noStar as = true) (h0 : 0 < as.length) (h3 : as.length ≤ 3) :
    PI X tg (.Call (.Name "range" p) as [] pos) (semI X.K fa ca W η (evE Φ (.rng (compA ce as)))) := by
  have hm := C.gl.bt _ hb
  have hs' := hs
  match as, h0, h3 with
  | [a], _, _ =>
    unfold noStar at hs'
    simp only [List.all_cons, List.all_nil, Bool.and_true] at hs'
    refine piImp (pi_range1 (isGl_gl hg) hm (pa_sem ih hs) (by rw [star_eq hs']; rfl)) fun σ H Q q => ?_
    obtain ⟨ρ, L, α, re, rp, q⟩ := q
    unfold evE at q
    refine ⟨ρ, L, α, re, rp, PostI.args rp.ne q fun ds L1 vs H1 α1 e0 e1 p1 r1 q1 => ?_⟩
    have hl := compA_len (Φ := Φ) (ce := ce) (es := [a]) (ρ := ρ) (L := L) e0
    unfold rngop at q1
    split at q1
    · obtain ⟨v, rfl, rv⟩ := r1.one
      cases rv
      split at q1
      · rename_i hsm
        obtain ⟨w, xs, hi, q1⟩ := q1
        cases hi
        have hb2 := smallB hsm
        exact ⟨_, rfl, hb2.1, hb2.2, q1 _ _ _ Ext.refl p1 jok_range⟩
      · exact q1.elim
    · cases hl
    · cases hl
    · exact q1.elim
  | [a, b], _, _ =>
    unfold noStar at hs'
    simp only [List.all_cons, List.all_nil, Bool.and_true, Bool.and_eq_true] at hs'
    refine piImp (pi_range2 (isGl_gl hg) hm (pa_sem ih hs) (by rw [star_eq hs'.1, star_eq hs'.2]; rfl) (by rw [star_eq hs'.2]; rfl)) fun σ H Q q => ?_
    obtain ⟨ρ, L, α, re, rp, q⟩ := q
    unfold evE at q
    refine ⟨ρ, L, α, re, rp, PostI.args rp.ne q fun ds L1 vs H1 α1 e0 e1 p1 r1 q1 => ?_⟩
    have hl := compA_len (Φ := Φ) (ce := ce) (es := [a, b]) (ρ := ρ) (L := L) e0
    unfold rngop at q1
    split at q1
    · cases hl
    · obtain ⟨v, w, rfl, rv, rw_⟩ := r1.two
      cases rv; cases rw_
      split at q1
      · rename_i hsm
        obtain ⟨w, xs, hi, q1⟩ := q1
        cases hi
        have hb1 := smallB hsm.1
        have hb2 := smallB hsm.2
        exact ⟨_, _, rfl, ⟨hb1.1, hb1.2, hb2.1, hb2.2⟩, q1 _ _ _ Ext.refl p1 jok_range⟩
      · exact q1.elim
    · cases hl
    · exact q1.elim
  | [a, b, c], _, _ =>
    unfold noStar at hs'
    simp only [List.all_cons, List.all_nil, Bool.and_true, Bool.and_eq_true] at hs'
    refine piImp (pi_range3 (isGl_gl hg) hm (pa_sem ih hs) (star_eq hs'.1) (star_any (by unfold noStar; simp [hs'.2]))) fun σ H Q q => ?_
    obtain ⟨ρ, L, α, re, rp, q⟩ := q
    unfold evE at q
    refine ⟨ρ, L, α, re, rp, PostI.args rp.ne q fun ds L1 vs H1 α1 e0 e1 p1 r1 q1 => ?_⟩
    have hl := compA_len (Φ := Φ) (ce := ce) (es := [a, b, c]) (ρ := ρ) (L := L) e0
    unfold rngop at q1
    split at q1
    · cases hl
    · cases hl
    · cases r1 with
      | cons r1 t1 =>
        obtain ⟨v, w, rfl, rv, rw_⟩ := t1.two
        cases r1; cases rv; cases rw_
        split at q1
        · rename_i hsm
          obtain ⟨w, xs, hi, q1⟩ := q1
          cases hi
          refine ⟨_, _, _, _, rfl, ⟨hsm.1, hsm.2.1, hsm.2.2.1, ?_⟩, q1 _ _ _ Ext.refl p1 jok_steps⟩
          have := hsm.2.2.2
          omega
        · exact q1.elim
    · exact q1.elim
end
end MP

/-! Comprehensions; all expressions. -/
namespace MP
open PySem PySem.Spec PyProof.Rows L2

section
variable {K : PySem.W.Frag} {fa : Str → Option Addr} {H H' : Hp} {α α' : List Addr} {L : Hd}
mutual
theorem RV.mono (ha : ∀ (n : Nat) (a : Addr), α[n]? = some a → α'[n]? = some a) (ht : ∀ a vs, SqT K H a vs → SqT K H' a vs) : ∀ {d : D} {v : V}, RV K fa H α d v → RV K fa H' α' d v
  | _, _, .non => .non
  | _, _, .bl b => .bl b
  | _, _, .int i => .int i
  | _, _, .str x => .str x
  | _, _, .tup h r => .tup (ht _ _ h) (RVs.mono ha ht r)
  | _, _, .ref h => .ref (ha _ _ h)
  | _, _, .fn h => .fn h
theorem RVs.mono (ha : ∀ (n : Nat) (a : Addr), α[n]? = some a → α'[n]? = some a) (ht : ∀ a vs, SqT K H a vs → SqT K H' a vs) : ∀ {ds : List D} {vs : List V}, RVs K fa H α ds vs → RVs K fa H' α' ds vs
  | _, _, .nil => .nil
  | _, _, .cons r t => .cons (RV.mono ha ht r) (RVs.mono ha ht t)
end
theorem app_get {β : List Addr} : ∀ (n : Nat) (a : Addr), α[n]? = some a → (α ++ β)[n]? = some a := fun n a h => by
  rw [List.getElem?_append_left (List.getElem?_eq_some_iff.mp h).1]
  exact h
theorem sqt_upd {D : Addr} {vs us : List V} (hD : H D = some (.lst us)) : ∀ a ws, SqT K H a ws → SqT K (upd H D (.lst vs)) a ws := fun a ws h => by
  rcases h with (h | ⟨o, h⟩) | h
  · refine .inl (.inl ?_)
    rw [upd_ne (ne_of h hD fun z => nomatch z)]
    exact h
  · refine .inl (.inr ⟨o, ?_⟩)
    rw [upd_ne (ne_of h hD fun z => nomatch z)]
    exact h
  · exact .inr h
/-- a list of no concern is written -/
theorem RHp.other {D : Addr} {vs us : List V} (p : RHp K fa H α L) (hD : H D = some (.lst us)) (hn : D ∉ α.tail) : RHp K fa (upd H D (.lst vs)) α L := by
  refine ⟨p.len, p.ne, p.nd, fun a xs h1 h2 => ?_, fun n a xs h1 h2 => ?_⟩
  · obtain ⟨ws, r, f⟩ := p.zero a xs h1 h2
    refine ⟨ws, r.mono (fun _ _ h => h) (sqt_upd hD), ?_⟩
    rcases f with ⟨o, f⟩ | f
    · refine .inl ⟨o, ?_⟩
      rw [upd_ne (ne_of f hD fun z => nomatch z)]
      exact f
    · exact .inr f
  · obtain ⟨ws, r, f⟩ := p.lst n a xs h1 h2
    refine ⟨ws, r.mono (fun _ _ h => h) (sqt_upd hD), ?_⟩
    rw [upd_ne fun e => hn (by rw [← e]; exact mem_tail h1)]
    exact f
/-- a list that stands becomes ours -/
theorem RHp.addL {D : Addr} {vs : List V} {xs : List MP.D} (p : RHp K fa H α L) (hD : H D = some (.lst vs)) (hn : D ∉ α.tail) (r : RVs K fa H α xs vs) : RHp K fa H (α ++ [D]) (L ++ [.lst xs]) := by
  refine ⟨by simp [p.len], by simp, ?_, fun a ys h1 h2 => ?_, fun n a ys h1 h2 => ?_⟩
  · rw [tail_app p.ne, List.nodup_append]
    refine ⟨p.nd, by simp, fun a ha b hb => ?_⟩
    have : b = D := by simpa using hb
    subst this
    intro q
    subst q
    exact hn ha
  · have hl : 0 < L.length := by rw [← p.len]; exact p.ne
    rw [List.getElem?_append_left p.ne] at h1
    rw [List.getElem?_append_left hl] at h2
    obtain ⟨us, r, f⟩ := p.zero a ys h1 h2
    exact ⟨us, r.mono app_get fun _ _ h => h, f⟩
  · by_cases hn : n + 1 < α.length
    · rw [List.getElem?_append_left hn] at h1
      rw [List.getElem?_append_left (by rw [← p.len]; exact hn)] at h2
      obtain ⟨us, r, f⟩ := p.lst n a ys h1 h2
      exact ⟨us, r.mono app_get fun _ _ h => h, f⟩
    · have hm : n + 1 = α.length := by
        obtain ⟨q, _⟩ := List.getElem?_eq_some_iff.mp h1
        simp at q
        omega
      rw [hm, List.getElem?_append_right (Nat.le_refl _)] at h1
      rw [hm, p.len, List.getElem?_append_right (Nat.le_refl _)] at h2
      simp at h1 h2
      subst h1 h2
      exact ⟨vs, r.mono app_get (fun _ _ h => h), hD⟩
theorem Ext.upd {H1 : Hp} {α1 : List Addr} {D : Addr} {o : HO} (e : Ext H1 α1 H α) (hD : H1 D = none) : Ext H1 α1 (upd H D o) α := by
  refine ⟨e.app, fun b u h hb => ?_, fun b h => ?_⟩
  · rw [upd_ne (ne_of_none h hD)]
    exact e.keep b u h hb
  · by_cases hb : b = D
    · rw [hb]
      exact hD
    · rw [upd_ne hb] at h
      exact e.there b h
theorem Ext.addL {H1 : Hp} {α1 : List Addr} {D : Addr} (e : Ext H1 α1 H α) (hD : H1 D = none) : Ext H1 α1 H (α ++ [D]) := by
  obtain ⟨β, rfl, h⟩ := e.app
  refine ⟨⟨β ++ [D], by simp, fun b hb => ?_⟩, e.keep, e.there⟩
  rcases List.mem_append.mp hb with hb | hb
  · exact h b hb
  · have : b = D := by simpa using hb
    rw [this]
    exact hD
theorem Ext.notIn {H1 : Hp} {α1 : List Addr} {D : Addr} {o : HO} (e : Ext H1 α1 H α) (hn : 0 < α1.length) (hD : H1 D = some o) (hD2 : D ∉ α1.tail) : D ∉ α.tail ∧ H D = some o := by
  obtain ⟨β, rfl, h⟩ := e.app
  refine ⟨?_, e.keep D o hD hD2⟩
  rw [tail_app hn]
  intro hm
  rcases List.mem_append.mp hm with hm | hm
  · exact hD2 hm
  · rw [h D hm] at hD
    cases hD
end

section
variable {X : Cx} {ct : CT} {k : Nat} {fa ca : Str → Option Addr} {Φ : Str → List D → Hd → R D} {hot : Bool} {W : WX} {η : Option (Addr × Str)} {tg : Expr}
abbrev W0 : WX := fun _ _ _ _ => False
theorem wipe1 (σ : L2.St) (s : Nat) : wipe σ [s] = σ.set s none := rfl
open Classical in
/-- the comprehension's reading -/
theorem lc_read {K : PySem.W.Frag} {s : Nat} {mi mc me : Ex} {σ : L2.St} {H : Hp} {Q : VK} (q : semE K fa ca W η (evE Φ (.lc s mi mc me)) σ H Q) :
    tLc (semI K fa ca W η (evE Φ mi)) (gName s) (semT K fa ca W0 η (evE Φ mc)) (semE K fa ca W0 η (evE Φ me)) [s] σ H Q := by
  obtain ⟨ρ, L, α, re, rp, q⟩ := q
  unfold evE at q
  refine ⟨ρ, L, α, re, rp, ?_⟩
  cases hr : evE Φ mi ρ L with
  | exc c L1 =>
    rw [hr] at q
    exact q
  | bad =>
    rw [hr] at q
    exact q
  | ok d L1 =>
    rw [hr, R.bind_ok] at q
    cases hi : items d L1 with
    | none =>
      rw [hi] at q
      exact q.elim
    | some wx =>
      obtain ⟨w, xs⟩ := wx
      rw [hi] at q
      refine ⟨w, xs, hi, fun J H1 α1 e1 p1 jok D hD => ?_⟩
      have q1 := Post.from rp.ne e1 q
      have re1 := re.ext e1 rp
      -- the turns
      refine ⟨fun i m H2 => m = xs.length - i ∧ i ≤ xs.length ∧ ∃ L2 α2 acc accV, RHp K fa H2 α2 L2 ∧ Ext H1 α1 H2 α2 ∧ H2 D = some (.lst accV) ∧ D ∉ α2.tail ∧ RVs K fa H2 α2 acc accV ∧ acc.length ≤ i ∧
        Post K fa ca W σ ((lcGo (fun x L => evE Φ mc (ρ.set s (some x)) L) (fun x L => evE Φ me (ρ.set s (some x)) L) w xs (xs.drop i) L2).bind fun ys L => alloc (acc ++ ys) L) H1 α1 Q,
        ⟨xs.length, by simp, Nat.zero_le _, L1, α1, [], [], p1.new hD, Ext.new hD, upd_same, ?_, .nil, by simp, by simpa using q1⟩, ?_⟩
      · intro hm
        obtain ⟨us, z⟩ := p1.tl D hm
        rw [hD] at z
        cases z
      rintro i m H2 ⟨rfl, hle, L2, α2, acc, accV, p2, e2, hD2, hn2, ra, hal, q2⟩
      by_cases hlt : i < xs.length
      · have hdrop : xs.drop i = xs[i] :: xs.drop (i + 1) := List.drop_eq_getElem_cons hlt
        rw [hdrop] at q2
        unfold lcGo at q2
        by_cases hs : seen w xs L2
        · rw [if_pos hs] at q2
          refine .inr ⟨jok.go i H2 α2 L2 p2 e2 hs hlt, fun H3 => ∃ m, m < xs.length - i ∧ m = xs.length - (i + 1) ∧ i + 1 ≤ xs.length ∧ ∃ L2 α2 acc accV, RHp K fa H3 α2 L2 ∧ Ext H1 α1 H3 α2 ∧ H3 D = some (.lst accV) ∧ D ∉ α2.tail ∧ RVs K fa H3 α2 acc accV ∧ acc.length ≤ i + 1 ∧
            Post K fa ca W σ ((lcGo (fun x L => evE Φ mc (ρ.set s (some x)) L) (fun x L => evE Φ me (ρ.set s (some x)) L) w xs (xs.drop (i + 1)) L2).bind fun ys L => alloc (acc ++ ys) L) H1 α1 Q, fun H3 h => ?_, fun x H3 hy => ?_⟩
          · obtain ⟨m, h1, h2, h3, h4⟩ := h
            exact ⟨m, h1, h2, h3, h4⟩
          · obtain ⟨rfl, d0, hd0, rx⟩ := jok.yld i H2 α2 L2 x H3 p2 e2 hs hlt hy
            rw [List.getElem?_eq_getElem hlt] at hd0
            cases hd0
            show wipe ((wipe σ [s]).set s (some x)) [s] = wipe σ [s] ∧ _
            refine ⟨by rw [wipe1, wipe1, List.set_set, List.set_set], ?_⟩
            have re2 : REnv K fa η H3 α2 (ρ.set s (some xs[i])) ((wipe σ [s]).set s (some x)) := by
              rw [wipe1, List.set_set]
              exact (re1.ext e2 p1).set rx
            refine ⟨_, L2, α2, re2, p2, ?_⟩
            -- the test
            cases hc : evE Φ mc (ρ.set s (some xs[i])) L2 with
            | exc c L3 =>
              rw [hc] at q2
              exact q2.elim
            | bad =>
              rw [hc] at q2
              exact q2.elim
            | ok t L3 =>
              rw [hc] at q2
              cases t with
              | bl b =>
                refine ⟨b, rfl, fun H4 α4 e4 p4 => ?_⟩
                have e14 := e2.trans p1.ne e4
                obtain ⟨hn4, hD4⟩ := e4.notIn p2.ne hD2 hn2
                have ra4 := ra.ext e4 p2.tl
                cases b with
                | false =>
                  exact iteF ⟨xs.length - (i + 1), by omega, rfl, hlt, L3, α4, acc, accV, p4, e14, hD4, hn4, ra4, by omega, q2⟩
                | true =>
                  refine iteT ⟨_, L3, α4, re2.ext e4 p2, p4, ?_⟩
                  dsimp only at q2
                  cases he : evE Φ me (ρ.set s (some xs[i])) L3 with
                  | exc c L5 =>
                    rw [he] at q2
                    exact q2.elim
                  | bad =>
                    rw [he] at q2
                    exact q2.elim
                  | ok y L5 =>
                    rw [he] at q2
                    intro v H5 α5 e5 p5 ry
                    obtain ⟨hn5, hD5⟩ := e5.notIn p4.ne hD4 hn4
                    have ra5 := ra4.ext e5 p4.tl
                    have hlen := ra5.length
                    -- how long the list may be
                    have q3 : Post K fa ca W σ ((lcGo (fun x L => evE Φ mc (ρ.set s (some x)) L) (fun x L => evE Φ me (ρ.set s (some x)) L) w xs (xs.drop (i + 1)) L5).bind fun ys L => alloc (acc ++ y :: ys) L) H1 α1 Q := by
                      dsimp only at q2
                      cases hg : lcGo (fun x L => evE Φ mc (ρ.set s (some x)) L) (fun x L => evE Φ me (ρ.set s (some x)) L) w xs (xs.drop (i + 1)) L5 with
                      | ok ys L6 =>
                        rw [hg] at q2
                        exact q2
                      | exc c L6 =>
                        rw [hg] at q2
                        exact q2.elim
                      | bad =>
                        rw [hg] at q2
                        exact q2.elim
                    have hshort : acc.length < sizeLine := by
                      cases hg : lcGo (fun x L => evE Φ mc (ρ.set s (some x)) L) (fun x L => evE Φ me (ρ.set s (some x)) L) w xs (xs.drop (i + 1)) L5 with
                      | ok ys L6 =>
                        rw [hg] at q3
                        have hl := alloc_lim (fa := fa) (Post.v (alloc_calm _ _) q3)
                        rw [List.length_append, List.length_cons] at hl
                        exact limLt (by omega)
                      | exc c L6 =>
                        -- no exception leaves the turns
                        have : ∀ (l : List MP.D) (L : Hd) c L', lcGo (fun x L => evE Φ mc (ρ.set s (some x)) L) (fun x L => evE Φ me (ρ.set s (some x)) L) w xs l L ≠ .exc c L' := by
                          intro l
                          induction l with
                          | nil =>
                            intro L c L' h
                            unfold lcGo at h
                            split at h <;> cases h
                          | cons x l ihl =>
                            intro L c L' h
                            unfold lcGo at h
                            repeat' split at h
                            all_goals first
                              | exact ihl _ _ _ h
                              | cases h
                        exact absurd hg (this _ _ _ _)
                      | bad =>
                        rw [hg] at q3
                        exact q3.elim
                    refine ⟨accV, hD5, by rw [← hlen]; exact hshort, ?_⟩
                    have e15 := e14.trans p1.ne e5
                    refine ⟨xs.length - (i + 1), by omega, rfl, hlt, L5, α5, acc ++ [y], accV ++ [v], p5.other hD5 hn5, e15.upd hD, upd_same, hn5, ?_, by simp; omega, ?_⟩
                    · exact (ra5.append (.cons ry .nil)).mono (fun _ _ h => h) (sqt_upd hD5)
                    · simpa using q3
              | _ => exact q2.elim
        · rw [if_neg hs] at q2
          exact q2.elim
      · have hi2 : i = xs.length := by omega
        rw [hi2, List.drop_length] at q2
        unfold lcGo at q2
        by_cases hs : seen w xs L2
        · rw [if_pos hs, R.bind_ok, List.append_nil] at q2
          refine .inl ⟨jok.stop i H2 α2 L2 p2 e2 hs (by omega), ?_⟩
          have q3 := Post.v (alloc_calm _ _) q2
          have hl := alloc_lim q3
          unfold alloc at q3
          rw [if_pos hl] at q3
          refine q3 _ _ _ (e2.addL hD) (p2.addL hD2 hn2 ra) (.ref ?_)
          rw [← p2.len, List.getElem?_append_right (Nat.le_refl _)]
          simp
        · rw [if_neg hs] at q2
          exact q2.elim
end
end MP

/-! All expressions, all tests. -/
namespace MP
open PySem PySem.Spec PyProof.Rows L2

section
variable {X : Cx} {ct : CT} {k : Nat} {fa ca : Str → Option Addr} {Φ : Str → List D → Hd → R D} {hot : Bool} {W : WX} {η : Option (Addr × Str)} {tg : Expr}
theorem pi_revS (C : Cok ct k fa ca Φ hot W η X) {e : Expr} {m : Ex} (h : PE X e (sE X fa ca Φ W η m)) {p pos : Pos} (hg : isGl X.env.scope "reversed" = true) (hb : ct.bt.contains "reversed" = true) (hs : noStar1 e = true) :
    PI X tg (.Call (.Name "reversed" p) [e] [] pos) (semI X.K fa ca W η (evE Φ (.rev m))) := by
  refine piImp (RT.pi_revA (isGl_gl hg) (C.gl.bt _ hb) h (star_eq hs)) fun σ H Q q => ?_
  obtain ⟨ρ, L, α, re, rp, q⟩ := q
  unfold evE at q
  refine ⟨ρ, L, α, re, rp, PostI.first rp.ne q fun d L1 v H1 α1 e0 e1 p1 r1 q1 => ?_⟩
  cases r1 with
  | tup h1 r1 =>
    obtain ⟨w, xs, hi, q1⟩ := q1
    cases hi
    exact ⟨_, _, rfl, .inr ⟨h1, q1 _ _ _ Ext.refl p1 (jok_revT p1 h1 r1)⟩⟩
  | _ => exact q1.elim
theorem pi_iterE (C : Cok ct k fa ca Φ hot W η X) {ce : Expr → Ex} (ih : ∀ e, PE X e (sE X fa ca Φ W η (ce e))) (it : Expr) : PI X tg it (semI X.K fa ca W η (evE Φ (iterE ct X.env.scope ce it))) := by
  unfold iterE
  split
  · rename_i x px as kws p
    split
    · rename_i h
      obtain ⟨h1, h2, h3, rfl⟩ := h
      split
      · rename_i h
        obtain ⟨h4, h5, h6, h7⟩ := h
        obtain rfl := nil_of h5
        exact pi_rngS C ih h1 h3 h4 h6 h7
      · exact pi_bad rfl
    · split
      · rename_i h
        obtain ⟨h1, h2, h3, rfl⟩ := h
        split
        · rename_i a
          split
          · rename_i h
            obtain ⟨h4, h5⟩ := h
            obtain rfl := nil_of h5
            exact pi_revS C (ih a) h1 h3 h4
          · exact pi_bad rfl
        · exact pi_bad rfl
      · exact pi_val (ih _)
  · exact pi_bad rfl
  · exact pi_val (ih _)
theorem fold_ok {it : Expr} {env : PySem.Env} (h : noSet it = true) : ∀ x, foldedSetIterable it env x = pure x := fun x => by
  cases it <;> first | rfl | cases h
theorem iterE_set {sc : Scope} {ce : Expr → Ex} {it : Expr} (h : noSet it = false) : iterE ct sc ce it = .bad := by
  cases it <;> first | rfl | cases h
theorem Cok.blk (C : Cok ct k fa ca Φ false W η X) (s : Shared) (H : Hp) (scope : Scope) (Cc : Addr) (cl : List (Str × Addr)) (fp : List Addr) : Cok ct k fa ca Φ false W0 η (X.blk s H scope (compEnvC scope cl Cc X.env) fp) :=
  ⟨C.nd, fun σ => L2N.passAt takesN0 σ, fun _ σ => passAt takes0L σ, C.calm, C.room, C.units, C.gl, fun a c h => absurd (C.isE a c h).1 Bool.false_ne_true⟩
/-- a comprehension, by its parts -/
theorem lc_parts (C : Cok ct k fa ca Φ false W η X) {n : Nat} (ihE : ∀ (X : Cx) (W : WX), Cok ct k fa ca Φ false W η X → ∀ e, PE X e (sE X fa ca Φ W η (compE ct X.N false n X.env.scope e)))
    (ihT : ∀ (X : Cx) (W : WX), Cok ct k fa ca Φ false W η X → ∀ e, PT X e (sT X fa ca Φ W η (compE ct X.N false n X.env.scope e)))
    {y : Str} {py : Pos} {elt : Expr} {ifs : List Expr} {scope : Scope} {i : Nat} {mc : Ex} (hi : ixOf X.N y = some i) (hb : blkC X.N X.env.scope scope [(y, i)] = true) (hl : isLoc (relS scope X.env.scope) y = true)
    (hc : (ifs = [] ∧ mc = .bl true) ∨ ∃ c, ifs = [c] ∧ mc = compE ct X.N false n (relS scope X.env.scope) c) :
    (∀ (s : Shared) (H : Hp) (Cc : Addr) (cl : List (Str × Addr)) (fp : List Addr), PG (X.blk s H scope (compEnvC scope cl Cc X.env) fp) (.Name y py) (gName i)) ∧
    (∀ (s : Shared) (H : Hp) (Cc : Addr) (cl : List (Str × Addr)) (fp : List Addr), PTs (X.blk s H scope (compEnvC scope cl Cc X.env) fp) ifs (semT X.K fa ca W0 η (evE Φ mc))) ∧
    (∀ (s : Shared) (H : Hp) (Cc : Addr) (cl : List (Str × Addr)) (fp : List Addr), PE (X.blk s H scope (compEnvC scope cl Cc X.env) fp) elt (semE X.K fa ca W0 η (evE Φ (compE ct X.N false n (relS scope X.env.scope) elt)))) := by
  refine ⟨fun s H Cc cl fp => ?_, fun s H Cc cl fp => ?_, fun s H Cc cl fp => ?_⟩
  · exact pg_name (X := X.blk s H scope (compEnvC scope cl Cc X.env) fp) C.nd (ixOf_get hi) (.inl (isLoc_loc hl)) (.inr (isLoc_loc hl))
  · rcases hc with ⟨rfl, rfl⟩ | ⟨c, rfl, rfl⟩
    · refine ⟨fun pins s1 σ H1 Q I q => pts_nil.run pins s1 σ H1 Q I ?_⟩
      obtain ⟨ρ, L, α, re, rp, b, eb, q⟩ := q
      cases eb
      exact q H1 α Ext.refl rp
    · exact pts_one (ihT (X.blk s H scope (compEnvC scope cl Cc X.env) fp) W0 (C.blk s H scope Cc cl fp) c)
  · exact ihE (X.blk s H scope (compEnvC scope cl Cc X.env) fp) W0 (C.blk s H scope Cc cl fp) elt
theorem pt_other {e : Expr} {m : Ex} (h : PE X e (sE X fa ca Φ W η m)) (he : ∀ whole, isTrue e X.env whole = (do let v ← whole; standAt e.pos; holding [v] (truthy v))) : PT X e (sT X fa ca Φ W η m) :=
  ptImp (pt_val h he) fun σ H Q q => semT_val q
theorem pt_cmpS (C : Cok ct k fa ca Φ hot W η X) {op : CmpOp} {a b : Expr} {ma mb : Ex} {pos : Pos} (ha : PE X a (sE X fa ca Φ W η ma)) (hb : PE X b (sE X fa ca Φ W η mb)) : PT X (.Compare a [op] [b] pos) (sT X fa ca Φ W η (cmpE op ma mb b)) := by
  unfold cmpE
  split
  · rename_i o ho
    split
    · rename_i hs
      rw [copOf_to ho]
      exact ptImp (pt_cmpR (op_cmp C.units o) ha hb (noSet_marks hs)) fun σ H Q q => sem2 (fun _ _ _ => cmpop_calm _ _ _ _) (semT_val q)
    · exact pt_bad rfl
  · split
    · split
      · rename_i hn
        unfold isNone at hn
        split at hn
        · refine ptImp (pt_cmp (pc_isN ha) rfl) fun σ H Q q => ?_
          obtain ⟨ρ, L, α, re, rp, q⟩ := semT_val q
          refine ⟨ρ, L, α, re, rp, q.first rp.ne fun d L1 v H1 α1 e0 e1 p1 r1 q1 => ?_⟩
          have q2 := q1 _ H1 α1 Ext.refl p1 (.bl _)
          cases r1 <;> exact q2
        · cases hn
      · exact pt_bad rfl
    · split
      · rename_i hn
        unfold isNone at hn
        split at hn
        · refine ptImp (pt_cmp (pc_notN ha) rfl) fun σ H Q q => ?_
          obtain ⟨ρ, L, α, re, rp, q⟩ := semT_val q
          refine ⟨ρ, L, α, re, rp, q.first rp.ne fun d L1 v H1 α1 e0 e1 p1 r1 q1 => ?_⟩
          have q2 := q1 _ H1 α1 Ext.refl p1 (.bl _)
          cases r1 <;> exact q2
        · cases hn
      · exact pt_bad rfl
    · exact pt_bad rfl
/-- THE RULE for expressions and tests -/
theorem snd_E : ∀ (n : Nat) (hot : Bool) (W : WX) (X : Cx), Cok ct k fa ca Φ hot W η X → (∀ e, PE X e (sE X fa ca Φ W η (compE ct X.N hot n X.env.scope e))) ∧ ∀ e, PT X e (sT X fa ca Φ W η (compE ct X.N hot n X.env.scope e))
  | 0, hot, W, X, C => ⟨fun e => pe_bad rfl, fun e => pt_bad rfl⟩
  | n + 1, hot, W, X, C => by
    have ihE := (snd_E n hot W X C).1
    have ihT := (snd_E n hot W X C).2
    have hE : ∀ e, PE X e (sE X fa ca Φ W η (compE ct X.N hot (n + 1) X.env.scope e)) := fun e => by
      unfold compE
      split
      · split
        · exact peImp pe_non fun σ H Q q => by
            obtain ⟨ρ, L, α, re, rp, q⟩ := q
            exact q _ H α Ext.refl rp .non
        · exact peImp pe_bl fun σ H Q q => by
            obtain ⟨ρ, L, α, re, rp, q⟩ := q
            exact q _ H α Ext.refl rp (.bl _)
        · exact peImp pe_int fun σ H Q q => by
            obtain ⟨ρ, L, α, re, rp, q⟩ := q
            exact q _ H α Ext.refl rp (.int _)
        · exact peImp pe_str fun σ H Q q => by
            obtain ⟨ρ, L, α, re, rp, q⟩ := q
            exact q _ H α Ext.refl rp (.str _)
        · exact pe_bad rfl
      · exact pe_nameS C
      · split
        · rename_i hs
          refine peImp (pe_tup (pa_sem ihE hs)) fun σ H Q q => ?_
          obtain ⟨ρ, L, α, re, rp, q⟩ := q
          unfold evE at q
          refine ⟨ρ, L, α, re, rp, Post.args rp.ne q (fun d L hd => by cases d <;> first | rfl | exact absurd rfl (hd _)) fun ds L1 vs H1 α1 e0 e1 p1 r1 q1 => ?_⟩
          dsimp only at q1
          split at q1
          · rename_i hl
            rw [r1.length] at hl
            exact ⟨limLe hl, fun t ht => q1 _ _ _ (Ext.new ht) (p1.new ht) (.tup (SqT.of upd_same) (r1.ext (Ext.new ht) p1.tl))⟩
          · exact q1.elim
        · exact pe_bad rfl
      · split
        · rename_i hs
          refine peImp (pe_lst (pa_sem ihE hs)) fun σ H Q q => ?_
          obtain ⟨ρ, L, α, re, rp, q⟩ := q
          unfold evE at q
          refine ⟨ρ, L, α, re, rp, Post.args rp.ne q (fun d L hd => by cases d <;> first | rfl | exact absurd rfl (hd _)) fun ds L1 vs H1 α1 e0 e1 p1 r1 q1 => ?_⟩
          have q2 := Post.v (alloc_calm _ _) q1
          have hl := alloc_lim q2
          rw [r1.length] at hl
          exact ⟨limLe hl, alloc_post p1 r1 q2⟩
        · exact pe_bad rfl
      · split
        · rename_i o ho
          rw [bopOf_to ho]
          exact peImp (pe_op (op_bin o) (ihE _) (ihE _)) fun σ H Q q => sem2 (fun _ _ _ => binop_calm _ _ _ _) q
        · exact pe_bad rfl
      · split
        · exact peImp (pe_un (un_negS (fa := fa)) (ihE _)) fun σ H Q q => sem1 (fun x L c L' e => by
            split at e <;> cases e) q
        · refine peImp (pe_not (ihE _)) fun σ H Q q => ?_
          obtain ⟨ρ, L, α, re, rp, q⟩ := q
          unfold evE at q
          refine ⟨ρ, L, α, re, rp, Post.test rp.ne q (fun L1 H1 α1 e0 e1 p1 q1 => ?_) fun L1 H1 α1 e0 e1 p1 q1 => ?_⟩
          · exact ⟨true, rfl, q1 _ H1 α1 Ext.refl p1 (.bl _)⟩
          · exact ⟨false, rfl, q1 _ H1 α1 Ext.refl p1 (.bl _)⟩
        · exact pe_bad rfl
      · exact pe_boolS ihE
      · split
        · exact pe_cmpS C (ihE _) (ihE _)
        · exact pe_bad rfl
      · split
        · split
          · exact pe_slS ihE
          · exact pe_bad rfl
        · rename_i hne
          exact pe_ixS (ihE _) (ihE _) fun lo hi st p e => hne lo hi st p e
      · exact pe_callAny C ihE
      · split
        · exact pe_bad rfl
        · rename_i hh
          have hh' : hot = false := by simpa using hh
          subst hh'
          split
          · rename_i elt scope p gs y py it ifs
            split
            · rename_i i hi
              split
              · rename_i h
                obtain ⟨hb, hl⟩ := h
                by_cases hset : noSet it = true
                · have key : ∀ mc, ((ifs = [] ∧ mc = .bl true) ∨ ∃ c, ifs = [c] ∧ mc = compE ct X.N false n (relS scope X.env.scope) c) →
                      PE X (.ListComp elt [⟨.Name y py, it, ifs, 0⟩] scope p) (sE X fa ca Φ W η (.lc i (iterE ct X.env.scope (compE ct X.N false n X.env.scope) it) mc (compE ct X.N false n (relS scope X.env.scope) elt))) := fun mc hc => by
                    obtain ⟨hg, ht, he⟩ := lc_parts (py := py) (elt := elt) C (fun X W C => (snd_E n false W X C).1) (fun X W C => (snd_E n false W X C).2) hi hb hl hc
                    exact peImp (pe_lc (C.calm rfl) C.nd (pi_iterE C ihE it) (blkOk_by hb) hg ht he (fold_ok hset)) fun σ H Q q => lc_read q
                  split
                  · exact key _ (.inl ⟨rfl, rfl⟩)
                  · exact key _ (.inr ⟨_, rfl, rfl⟩)
                  · exact pe_bad rfl
                · rw [iterE_set (by simpa using hset)]
                  split
                  all_goals first
                    | exact pe_bad rfl
                    | (refine ⟨fun pins s σ H Q I q => ?_⟩
                       obtain ⟨ρ, L, α, re, rp, q⟩ := q
                       exact q.elim)
              · exact pe_bad rfl
            · exact pe_bad rfl
          · exact pe_bad rfl
      · exact pe_bad rfl
    refine ⟨hE, fun e => ?_⟩
    cases e with
    | BoolOp op es pos => exact (pw_boolS ihT).pt
    | UnaryOp op a pos =>
      cases op with
      | Not =>
        refine ptImp (pt_not (ihT a)) fun σ H Q q => ?_
        obtain ⟨ρ, L, α, re, rp, q⟩ := q
        refine ⟨ρ, L, α, re, rp, PostT.test rp.ne q (fun L1 H1 α1 e0 e1 p1 q1 => ?_) fun L1 H1 α1 e0 e1 p1 q1 => ?_⟩
        · obtain ⟨b, eb, q1⟩ := q1
          cases eb
          exact q1 H1 α1 Ext.refl p1
        · obtain ⟨b, eb, q1⟩ := q1
          cases eb
          exact q1 H1 α1 Ext.refl p1
      | _ => exact pt_other (hE _) (fun _ => rfl)
    | IfExp a b c pos => exact pt_bad rfl
    | Compare a ops bs pos =>
      match ops, bs with
      | [op], [b] =>
        exact pt_cmpS C (ihE _) (ihE _)
      | [], _ => exact pt_bad rfl
      | [_], [] => exact pt_bad rfl
      | [_], _ :: _ :: _ => exact pt_bad rfl
      | _ :: _ :: _, [] => exact pt_bad rfl
      | _ :: _ :: _, _ :: _ => exact pt_bad rfl
    | _ => exact pt_other (hE _) (fun _ => rfl)
end
end MP

/-! Statements. -/
namespace MP
open PySem PySem.Spec PyProof.Rows L2

def PostS (K : PySem.W.Frag) (fa ca : Str → Option Addr) (W : WX) (η : Option (Addr × Str)) (o : O) (H : Hp) (α : List Addr) (D : Ends) : Prop := match o with
  | .nx ρ L => ∀ σ' H' α', Ext H α H' α' → REnv K fa η H' α' ρ σ' → RHp K fa H' α' L → D.nx σ' H'
  | .bk ρ L => ∀ σ' H' α', Ext H α H' α' → REnv K fa η H' α' ρ σ' → RHp K fa H' α' L → D.bk σ' H'
  | .ct ρ L => ∀ σ' H' α', Ext H α H' α' → REnv K fa η H' α' ρ σ' → RHp K fa H' α' L → D.ct σ' H'
  | .rt d L => ∀ v H' α', Ext H α H' α' → RHp K fa H' α' L → RV K fa H' α' d v → D.rt v H'
  | .ex c ρ L => ∀ C σ' H' α', ca c = some C → Ext H α H' α' → REnv K fa η H' α' ρ σ' → RHp K fa H' α' L → W (.ref C) none σ' H'
  | .bad => False
def semS (K : PySem.W.Frag) (fa ca : Str → Option Addr) (W : WX) (η : Option (Addr × Str)) (f : Env → Hd → O) : TS := fun D σ H => ∃ ρ L α, REnv K fa η H α ρ σ ∧ RHp K fa H α L ∧ PostS K fa ca W η (f ρ L) H α D
/-- the context of a statement -/
structure Sok (ct : CT) (k : Nat) (fa ca : Str → Option Addr) (Φ : Str → List D → Hd → R D) (hot : Bool) (W : WX) (η : Option (Addr × Str)) (X : Cx) : Prop where
  c : Cok ct k fa ca Φ hot W η X
  tk : L2N.Takes X W
  tdy : ct.dty = true → Takes X W
  po : PassesOwn (model X.prog X.w) X.A X.env X.xe
  stk : X.stack = X.env :: X.outer
  frm : X.env.frame = some X.env.locals
  fnm : ∀ x, X.fn x = true
section
variable {K : PySem.W.Frag} {fa ca : Str → Option Addr} {W : WX} {η : Option (Addr × Str)} {H H' : Hp} {α α' : List Addr} {D : Ends}
theorem PostS.from {o : O} (hn : 0 < α.length) (e : Ext H α H' α') (h : PostS K fa ca W η o H α D) : PostS K fa ca W η o H' α' D := by
  cases o with
  | nx ρ L => exact fun σ H2 α2 e2 => h σ H2 α2 (e.trans hn e2)
  | bk ρ L => exact fun σ H2 α2 e2 => h σ H2 α2 (e.trans hn e2)
  | ct ρ L => exact fun σ H2 α2 e2 => h σ H2 α2 (e.trans hn e2)
  | rt d L => exact fun v H2 α2 e2 => h v H2 α2 (e.trans hn e2)
  | ex c ρ L => exact fun C σ H2 α2 hc e2 => h C σ H2 α2 hc (e.trans hn e2)
  | bad => exact h
/-- a value first -/
theorem PostS.val {L : Hd} {ρ : Env} {σ : L2.St} {r : R MP.D} {f : MP.D → Hd → O} {Q : VK} (re : REnv K fa η H α ρ σ) (rp : RHp K fa H α L) (h : PostS K fa ca W η (r.on ρ f) H α D)
    (k : ∀ d L v H' α', r = .ok d L → Ext H α H' α' → RHp K fa H' α' L → RV K fa H' α' d v → PostS K fa ca W η (f d L) H' α' D → Q v H') : Post K fa ca W σ r H α Q := by
  cases r with
  | ok d L1 => exact fun v H' α' e p rv => k d L1 v H' α' rfl e p rv (PostS.from rp.ne e h)
  | exc c L1 => exact fun C H' α' hc e p => h C σ H' α' hc e (re.ext e rp) p
  | bad => exact h
/-- a test first -/
theorem PostS.test {L : Hd} {ρ : Env} {σ : L2.St} {r : R MP.D} {t f : Hd → O} {Q : Bool → Hp → Prop} (re : REnv K fa η H α ρ σ) (rp : RHp K fa H α L) (h : PostS K fa ca W η (r.on ρ fun d L => ifB d (t L) (f L)) H α D)
    (k1 : ∀ L H' α', Ext H α H' α' → RHp K fa H' α' L → PostS K fa ca W η (t L) H' α' D → Q true H')
    (k0 : ∀ L H' α', Ext H α H' α' → RHp K fa H' α' L → PostS K fa ca W η (f L) H' α' D → Q false H') : PostT K fa ca W σ r H α Q := by
  cases r with
  | ok d L1 =>
    cases d with
    | bl b =>
      refine ⟨b, rfl, fun H' α' e p => ?_⟩
      cases b with
      | true => exact k1 L1 H' α' e p (PostS.from rp.ne e (show PostS K fa ca W η (t L1) H α D from h))
      | false => exact k0 L1 H' α' e p (PostS.from rp.ne e (show PostS K fa ca W η (f L1) H α D from h))
    | _ => exact h.elim
  | exc c L1 => exact fun C H' α' hc e p => h C σ H' α' hc e (re.ext e rp) p
  | bad => exact h
end
section
variable {X : Cx} {ct : CT} {k : Nat} {fa ca : Str → Option Addr} {Φ : Str → List D → Hd → R D} {hot : Bool} {W : WX} {η : Option (Addr × Str)}
abbrev sS (X : Cx) (fa ca : Str → Option Addr) (Φ : Str → List D → Hd → R D) (W : WX) (η : Option (Addr × Str)) (m : Sm) : TS := semS X.K fa ca W η (run Φ m)
theorem psImp {s : Stmt} {t u : TS} (h : PS X s t) (i : ∀ D σ H, u D σ H → t D σ H) : PS X s u := ⟨fun pins s σ H D I q => h.run pins s σ H D I (i D σ H q)⟩
theorem pssImp {s : List Stmt} {t u : TS} (h : PSs X s t) (i : ∀ D σ H, u D σ H → t D σ H) : PSs X s u := ⟨fun pins s σ H D I q => h.run pins s σ H D I (i D σ H q)⟩
theorem ps_bad {s : Stmt} {m : Sm} (h : m = .bad) : PS X s (sS X fa ca Φ W η m) := ⟨fun _ _ _ _ _ _ q => by
  subst h
  obtain ⟨ρ, L, α, _, _, q⟩ := q
  exact q.elim⟩
/-- a block -/
theorem pss_sem {f : Stmt → Sm} (ih : ∀ s, PS X s (sS X fa ca Φ W η (f s))) : ∀ {ss : List Stmt}, PSs X ss (sS X fa ca Φ W η (compB f ss))
  | [] => pssImp pss_nil fun D σ H q => by
    obtain ⟨ρ, L, α, re, rp, q⟩ := q
    exact q σ H α Ext.refl re rp
  | s :: ss => by
    refine pssImp (pss_cons (ih s) (pss_sem ih)) fun D σ H q => ?_
    obtain ⟨ρ, L, α, re, rp, q⟩ := q
    refine ⟨ρ, L, α, re, rp, ?_⟩
    have q' : PostS X.K fa ca W η ((run Φ (f s) ρ L).then fun ρ L => run Φ (compB f ss) ρ L) H α D := q
    cases hr : run Φ (f s) ρ L with
    | nx ρ' L' =>
      rw [hr] at q'
      exact fun σ' H' α' e re' rp' => ⟨ρ', L', α', re', rp', PostS.from rp.ne e q'⟩
    | _ =>
      rw [hr] at q'
      exact q'
theorem swaps_no {e : Expr} {tg : Option Expr} {n : Nat} {env : PySem.Env} (h : noComp e = true) : swapsWith e tg n env = pure false := by
  cases e <;> first | rfl | cases h
theorem swaps_sub {e o i : Expr} {n : Nat} {env : PySem.Env} {p : Pos} : swapsWithSole [.Subscript o i p] e n env = pure false := by
  cases e <;> rfl
theorem stores_sub {e o i : Expr} {env : PySem.Env} {p : Pos} : swappedStores [.Subscript o i p] e env = pure none := rfl
/-- while -/
theorem wh_read {c : Ex} {b : Sm} {D : Ends} {σ : L2.St} {H : Hp} {K : PySem.W.Frag} (q : semS K fa ca W η (run Φ (.wh c b)) D σ H) : tWhile (semT K fa ca W η (evE Φ c)) (semS K fa ca W η (run Φ b)) D σ H := by
  obtain ⟨ρ, L, α, re, rp, q⟩ := q
  unfold run whL at q
  split at q
  · rename_i hex
    refine ⟨fun m σ H => ∃ ρ L α, REnv K fa η H α ρ σ ∧ RHp K fa H α L ∧ PostS K fa ca W η (whN (fun ρ L => evE Φ c ρ L) (fun ρ L => run Φ b ρ L) m ρ L) H α D, ⟨_, ρ, L, α, re, rp, q⟩, ?_⟩
    rintro m σ1 H1 ⟨ρ1, L1, α1, re1, rp1, q1⟩
    cases m with
    | zero => exact q1.elim
    | succ m =>
      refine ⟨ρ1, L1, α1, re1, rp1, PostS.test re1 rp1 q1 (fun L2 H2 α2 e2 p2 q2 => ?_) fun L2 H2 α2 e2 p2 q2 => ?_⟩
      · rw [if_pos rfl]
        refine ⟨fun σ H => ∃ ρ L α, REnv K fa η H α ρ σ ∧ RHp K fa H α L ∧ PostS K fa ca W η (whN (fun ρ L => evE Φ c ρ L) (fun ρ L => run Φ b ρ L) m ρ L) H α D, fun σ' H' h => ⟨m, Nat.lt_succ_self m, h⟩, ?_⟩
        refine ⟨ρ1, L2, α2, re1.ext e2 rp1, p2, ?_⟩
        replace q2 : PostS K fa ca W η ((run Φ b ρ1 L2).turn fun ρ L => whN (fun ρ L => evE Φ c ρ L) (fun ρ L => run Φ b ρ L) m ρ L) H2 α2 D := q2
        cases hr : run Φ b ρ1 L2 with
        | nx ρ' L' =>
          rw [hr] at q2
          exact fun σ' H' α' e re' rp' => ⟨ρ', L', α', re', rp', PostS.from p2.ne e q2⟩
        | ct ρ' L' =>
          rw [hr] at q2
          exact fun σ' H' α' e re' rp' => ⟨ρ', L', α', re', rp', PostS.from p2.ne e q2⟩
        | _ =>
          rw [hr] at q2
          exact q2
      · rw [if_neg Bool.false_ne_true]
        exact q2 σ1 H2 α2 Ext.refl (re1.ext e2 rp1) p2
  · exact q.elim
open Classical in
/-- for -/
theorem for_read {s : Nat} {it : Ex} {b : Sm} {D : Ends} {σ : L2.St} {H : Hp} {K : PySem.W.Frag} (q : semS K fa ca W η (run Φ (.for_ s it b)) D σ H) : tFor (semI K fa ca W η (evE Φ it)) (gName s) (semS K fa ca W η (run Φ b)) D σ H := by
  obtain ⟨ρ, L, α, re, rp, q⟩ := q
  unfold run at q
  refine ⟨ρ, L, α, re, rp, ?_⟩
  cases hr : evE Φ it ρ L with
  | exc c L1 =>
    rw [hr] at q
    exact fun C H' α' hc e p => q C σ H' α' hc e (re.ext e rp) p
  | bad =>
    rw [hr] at q
    exact q
  | ok d L1 =>
    rw [hr, R.on_ok] at q
    cases hi : items d L1 with
    | none =>
      rw [hi] at q
      exact q.elim
    | some wx =>
      obtain ⟨w, xs⟩ := wx
      rw [hi] at q
      refine ⟨w, xs, hi, fun J H1 α1 e1 p1 jok => ?_⟩
      have q1 := PostS.from rp.ne e1 q
      have re1 := re.ext e1 rp
      refine ⟨fun i m σ2 H2 => m = xs.length - i ∧ i ≤ xs.length ∧ ∃ ρ2 L2 α2, REnv K fa η H2 α2 ρ2 σ2 ∧ RHp K fa H2 α2 L2 ∧ Ext H1 α1 H2 α2 ∧ PostS K fa ca W η (forGo (fun ρ L => run Φ b ρ L) s w xs (xs.drop i) ρ2 L2) H2 α2 D,
        ⟨xs.length, by simp, Nat.zero_le _, ρ, L1, α1, re1, p1, Ext.refl, q1⟩, ?_⟩
      rintro i m σ2 H2 ⟨rfl, hle, ρ2, L2, α2, re2, p2, e2, q2⟩
      by_cases hlt : i < xs.length
      · have hdrop : xs.drop i = xs[i] :: xs.drop (i + 1) := List.drop_eq_getElem_cons hlt
        rw [hdrop] at q2
        unfold forGo at q2
        by_cases hs : seen w xs L2
        · rw [if_pos hs] at q2
          refine .inr ⟨jok.go i H2 α2 L2 p2 e2 hs hlt, fun σ3 H3 => ∃ ρ3 L3 α3, REnv K fa η H3 α3 ρ3 σ3 ∧ RHp K fa H3 α3 L3 ∧ Ext H1 α1 H3 α3 ∧ PostS K fa ca W η (forGo (fun ρ L => run Φ b ρ L) s w xs (xs.drop (i + 1)) ρ3 L3) H3 α3 D,
            fun σ3 H3 h => ⟨xs.length - (i + 1), by omega, rfl, hlt, h⟩, fun x H3 hy => ?_⟩
          obtain ⟨rfl, d0, hd0, rx⟩ := jok.yld i H2 α2 L2 x H3 p2 e2 hs hlt hy
          rw [List.getElem?_eq_getElem hlt] at hd0
          cases hd0
          refine ⟨ρ2.set s (some xs[i]), L2, α2, re2.set rx, p2, ?_⟩
          replace q2 : PostS K fa ca W η ((run Φ b (ρ2.set s (some xs[i])) L2).turn fun ρ L => forGo (fun ρ L => run Φ b ρ L) s w xs (xs.drop (i + 1)) ρ L) H3 α2 D := q2
          cases hr2 : run Φ b (ρ2.set s (some xs[i])) L2 with
          | nx ρ' L' =>
            rw [hr2] at q2
            exact fun σ' H' α' e re' rp' => ⟨ρ', L', α', re', rp', e2.trans p1.ne e, PostS.from p2.ne e q2⟩
          | ct ρ' L' =>
            rw [hr2] at q2
            exact fun σ' H' α' e re' rp' => ⟨ρ', L', α', re', rp', e2.trans p1.ne e, PostS.from p2.ne e q2⟩
          | _ =>
            rw [hr2] at q2
            exact q2
        · rw [if_neg hs] at q2
          exact q2.elim
      · have hi2 : i = xs.length := by omega
        rw [hi2, List.drop_length] at q2
        unfold forGo at q2
        by_cases hs : seen w xs L2
        · rw [if_pos hs] at q2
          exact .inl ⟨jok.stop i H2 α2 L2 p2 e2 hs (by omega), q2 σ2 H2 α2 Ext.refl re2 p2⟩
        · rw [if_neg hs] at q2
          exact q2.elim
open Classical in
/-- for, two names -/
theorem for_read2 {i0 j0 : Nat} {it : Ex} {b : Sm} {D : Ends} {σ : L2.St} {H : Hp} {K : PySem.W.Frag} (q : semS K fa ca W η (run Φ (.for2 i0 j0 it b)) D σ H) : tFor (semI K fa ca W η (evE Φ it)) (gTup K 2 (gCons (gName i0) (gCons (gName j0) gNil))) (semS K fa ca W η (run Φ b)) D σ H := by
  obtain ⟨ρ, L, α, re, rp, q⟩ := q
  unfold run at q
  refine ⟨ρ, L, α, re, rp, ?_⟩
  cases hr : evE Φ it ρ L with
  | exc c L1 =>
    rw [hr] at q
    exact fun C H' α' hc e p => q C σ H' α' hc e (re.ext e rp) p
  | bad =>
    rw [hr] at q
    exact q
  | ok d L1 =>
    rw [hr, R.on_ok] at q
    cases hi : items d L1 with
    | none =>
      rw [hi] at q
      exact q.elim
    | some wx =>
      obtain ⟨w, xs⟩ := wx
      rw [hi] at q
      refine ⟨w, xs, hi, fun J H1 α1 e1 p1 jok => ?_⟩
      have q1 := PostS.from rp.ne e1 q
      have re1 := re.ext e1 rp
      refine ⟨fun i m σ2 H2 => m = xs.length - i ∧ i ≤ xs.length ∧ ∃ ρ2 L2 α2, REnv K fa η H2 α2 ρ2 σ2 ∧ RHp K fa H2 α2 L2 ∧ Ext H1 α1 H2 α2 ∧ PostS K fa ca W η (forGo2 (fun ρ L => run Φ b ρ L) i0 j0 w xs (xs.drop i) ρ2 L2) H2 α2 D,
        ⟨xs.length, by simp, Nat.zero_le _, ρ, L1, α1, re1, p1, Ext.refl, q1⟩, ?_⟩
      rintro i m σ2 H2 ⟨rfl, hle, ρ2, L2, α2, re2, p2, e2, q2⟩
      by_cases hlt : i < xs.length
      · have hdrop : xs.drop i = xs[i] :: xs.drop (i + 1) := List.drop_eq_getElem_cons hlt
        rw [hdrop] at q2
        unfold forGo2 at q2
        by_cases hs : seen w xs L2
        · rw [if_pos hs] at q2
          refine .inr ⟨jok.go i H2 α2 L2 p2 e2 hs hlt, fun σ3 H3 => ∃ ρ3 L3 α3, REnv K fa η H3 α3 ρ3 σ3 ∧ RHp K fa H3 α3 L3 ∧ Ext H1 α1 H3 α3 ∧ PostS K fa ca W η (forGo2 (fun ρ L => run Φ b ρ L) i0 j0 w xs (xs.drop (i + 1)) ρ3 L3) H3 α3 D,
            fun σ3 H3 h => ⟨xs.length - (i + 1), by omega, rfl, hlt, h⟩, fun x H3 hy => ?_⟩
          obtain ⟨rfl, d0, hd0, rx⟩ := jok.yld i H2 α2 L2 x H3 p2 e2 hs hlt hy
          rw [List.getElem?_eq_getElem hlt] at hd0
          cases hd0
          cases hx : xs[i] with
          | tup ds =>
            rw [hx] at rx q2
            match ds, rx, q2 with
            | [y, z], rx, q2 =>
              cases rx with
              | tup sq rs =>
                cases rs with
                | cons ry rs =>
                  cases rs with
                  | cons rz rs =>
                    cases rs
                    refine ⟨_, _, rfl, sq, rfl, ?_⟩
                    refine ⟨_, _, rfl, ?_⟩
                    refine ⟨_, _, rfl, ?_⟩
                    refine ⟨rfl, ?_⟩
                    refine ⟨(ρ2.set i0 (some y)).set j0 (some z), L2, α2, (re2.set ry).set rz, p2, ?_⟩
                    replace q2 : PostS K fa ca W η ((run Φ b ((ρ2.set i0 (some y)).set j0 (some z)) L2).turn fun ρ L => forGo2 (fun ρ L => run Φ b ρ L) i0 j0 w xs (xs.drop (i + 1)) ρ L) H3 α2 D := q2
                    cases hr2 : run Φ b ((ρ2.set i0 (some y)).set j0 (some z)) L2 with
                    | nx ρ' L' =>
                      rw [hr2] at q2
                      exact fun σ' H' α' e re' rp' => ⟨ρ', L', α', re', rp', e2.trans p1.ne e, PostS.from p2.ne e q2⟩
                    | ct ρ' L' =>
                      rw [hr2] at q2
                      exact fun σ' H' α' e re' rp' => ⟨ρ', L', α', re', rp', e2.trans p1.ne e, PostS.from p2.ne e q2⟩
                    | _ =>
                      rw [hr2] at q2
                      exact q2
            | [], rx, q2 => exact q2.elim
            | [_], rx, q2 => exact q2.elim
            | _ :: _ :: _ :: _, rx, q2 => exact q2.elim
          | _ =>
            rw [hx] at q2
            exact q2.elim
        · rw [if_neg hs] at q2
          exact q2.elim
      · have hi2 : i = xs.length := by omega
        rw [hi2, List.drop_length] at q2
        unfold forGo2 at q2
        by_cases hs : seen w xs L2
        · rw [if_pos hs] at q2
          exact .inl ⟨jok.stop i H2 α2 L2 p2 e2 hs (by omega), q2 σ2 H2 α2 Ext.refl re2 p2⟩
        · rw [if_neg hs] at q2
          exact q2.elim
end
end MP

/-! All statements. -/
namespace MP
open PySem PySem.Spec PyProof.Rows L2

section
variable {X : Cx} {ct : CT} {k : Nat} {fa ca : Str → Option Addr} {Φ : Str → List D → Hd → R D} {hot : Bool} {W : WX} {η : Option (Addr × Str)}
theorem Sok.tr (S : Sok ct k fa ca Φ false W η X) {pn : List (Addr × Obj)} {xe : Value → Shared → Prop} {W' : WX} (tk : L2N.Takes (X.tr pn xe) W') (td : ct.dty = true → Takes (X.tr pn xe) W') (po : PassesOwn (model X.prog X.w) X.A X.env xe) : Sok ct k fa ca Φ false W' η (X.tr pn xe) :=
  ⟨⟨S.c.nd, fun σ => L2N.passAt tk σ, fun h σ => passAt (td h) σ, S.c.calm, S.c.room, S.c.units, S.c.gl, fun a c h => absurd (S.c.isE a c h).1 Bool.false_ne_true⟩, tk, td, po, S.stk, S.frm, S.fnm⟩
theorem Sok.su (S : Sok ct k fa ca Φ false W η X) {a : Addr} {oe : Obj} {C : Addr} {c : Str} {pn : List (Addr × Obj)} (hc : ca c = some C) (hz : Zc (.ref C) none oe) (hf : ∃ vs, oe.data = .fields vs) :
    Sok ct k fa ca Φ true W0 (some (a, c)) (X.suite a ((a, oe) :: pn)) :=
  ⟨⟨S.c.nd, fun σ => L2N.passAt takesN0 σ, fun _ σ => passAt takes0L σ, fun h => absurd h (by decide), fun h => absurd h (by decide), S.c.units, S.c.gl, fun a' c' h => by
    cases h
    exact ⟨rfl, C, hc, call_isE (S.c.gl.rs c C hc).2.2.2.2.2 hz hf⟩⟩, takesN0, fun _ => takes0L, PassesOwn.never, S.stk, S.frm, S.fnm⟩
theorem REnv.eta {K : PySem.W.Frag} {H : Hp} {α : List Addr} {ρ : Env} {σ : L2.St} {η' : Option (Addr × Str)} (h : REnv K fa none H α ρ σ) : REnv K fa η' H α ρ σ := ⟨h.1, h.2.1, fun i c e => by
  obtain ⟨a, z, _⟩ := h.2.2 i c e
  cases z⟩
theorem REnv.setExc {K : PySem.W.Frag} {H : Hp} {α : List Addr} {ρ : Env} {σ : L2.St} {a : Addr} {c : Str} {i : Nat} (h : REnv K fa none H α ρ σ) : REnv K fa (some (a, c)) H α (ρ.set i (some (.exc c))) (σ.set i (some (.ref a))) := by
  refine ⟨by simp [h.1], fun j e h1 h2 => ?_, fun j c' h1 => ?_⟩
  · by_cases hj : i = j
    · subst hj
      by_cases hl : i < ρ.length
      · rw [List.getElem?_set_self hl] at h1
        cases h1
        exact absurd rfl (h2 c)
      · rw [List.getElem?_eq_none (by simpa using hl)] at h1
        cases h1
    · rw [List.getElem?_set_ne hj] at h1 ⊢
      exact h.2.1 j e h1 h2
  · by_cases hj : i = j
    · subst hj
      by_cases hl : i < ρ.length
      · rw [List.getElem?_set_self hl] at h1
        cases h1
        exact ⟨a, rfl, List.getElem?_set_self (by rw [← h.1]; exact hl)⟩
      · rw [List.getElem?_eq_none (by simpa using hl)] at h1
        cases h1
    · rw [List.getElem?_set_ne hj] at h1 ⊢
      obtain ⟨b, z, _⟩ := h.2.2 j c' h1
      cases z
/-- what a suite does with an exception -/
def suN (X : Cx) (fa ca : Str → Option Addr) (Φ : Str → List D → Hd → R D) (m : Sm) : Addr → Value → Option Addr → TS := fun a cls d D σ H => ∃ c C, cls = .ref C ∧ d = none ∧ ca c = some C ∧ semS X.K fa ca W0 none (run Φ m) D σ H
def suA (X : Cx) (fa ca : Str → Option Addr) (Φ : Str → List D → Hd → R D) (m : Sm) : Addr → Value → Option Addr → TS := fun a cls d D σ H => ∃ c C, cls = .ref C ∧ d = none ∧ ca c = some C ∧ semS X.K fa ca W0 (some (a, c)) (run Φ m) D σ H
theorem eta_none (S : Sok ct k fa ca Φ false W η X) : η = none := by
  cases η with
  | none => rfl
  | some p => exact absurd (S.c.isE p.1 p.2 rfl).1 Bool.false_ne_true
theorem Sok.suN (S : Sok ct k fa ca Φ false W η X) {a : Addr} {oe : Obj} {pn : List (Addr × Obj)} : Sok ct k fa ca Φ true W0 none (X.suite a ((a, oe) :: pn)) :=
  ⟨⟨S.c.nd, fun σ => L2N.passAt takesN0 σ, fun _ σ => passAt takes0L σ, fun h => absurd h (by decide), fun h => absurd h (by decide), S.c.units, S.c.gl, fun a' c' h => by cases h⟩, takesN0, fun _ => takes0L, PassesOwn.never, S.stk, S.frm, S.fnm⟩
theorem names_of (S : Sok ct k fa ca Φ false W η X) {c : Str} (hg : isGl X.env.scope c = true) (ho : odd c = false) (hc : ct.cls.contains c = true) (hv : c ≠ "ValueError") : ∃ C, clsV X.mg c = some (.ref C) ∧ Names X c (.ref C) := by
  obtain ⟨C, hC⟩ := S.c.gl.cl c hc
  refine ⟨C, ?_, isGl_gl hg, odd_d ho, .inl hC⟩
  unfold clsV
  rw [if_neg hv]
  exact hC
/-- a block's run, step by step -/
theorem seq_read {a b : Sm} {D : Ends} {σ : L2.St} {H : Hp} (q : sS X fa ca Φ W η (.seq a b) D σ H) : tSeq (sS X fa ca Φ W η a) (sS X fa ca Φ W η b) D σ H := by
  obtain ⟨ρ, L, α, re, rp, q⟩ := q
  refine ⟨ρ, L, α, re, rp, ?_⟩
  have q' : PostS X.K fa ca W η ((run Φ a ρ L).then fun ρ L => run Φ b ρ L) H α D := q
  cases hr : run Φ a ρ L with
  | nx ρ' L' =>
    rw [hr] at q'
    exact fun σ' H' α' e re' rp' => ⟨ρ', L', α', re', rp', PostS.from rp.ne e q'⟩
  | _ =>
    rw [hr] at q'
    exact q'
theorem hot_suite (S : Sok ct k fa ca Φ false W η X) {a : Addr} {oe : Obj} {pn : List (Addr × Obj)} {cls : Value} {d : Option Addr} (hz : L2N.Zn cls d oe) (hf : ∃ vs, oe.data = .fields vs) {su : List Stmt} {m : Sm} (hm : hotSu ct X.N X.env.scope su = some m)
    (ihE : ∀ e, PE (X.suite a ((a, oe) :: pn)) e (sE (X.suite a ((a, oe) :: pn)) fa ca Φ W0 none (compE ct X.N true DEPTH X.env.scope e))) : PSs (X.suite a ((a, oe) :: pn)) su (sS (X.suite a ((a, oe) :: pn)) fa ca Φ W0 none m) := by
  unfold hotSu at hm
  split at hm
  · split at hm
    · rename_i h
      cases hm
      obtain ⟨h1, h2, h3, h4, h5⟩ := h
      have S' := S.suN (a := a) (oe := oe) (pn := pn)
      obtain ⟨vs, ev⟩ := hf
      have hc : L2H.HotC (X.suite a ((a, oe) :: pn)) := ⟨(a, oe), ⟨rfl, vs, ev, hz.2.2 vs ev⟩, List.mem_cons_self⟩
      have hr : L2H.RoomH k (X.suite a ((a, oe) :: pn)).A := ⟨(S.c.room rfl).dp, (S.c.room rfl).un⟩
      refine pssImp (pss_cons (ps_ret (pe_callHS S'.c takes0 hc hr ihE h2 h1 h3 h4 h5)) pss_nil) fun D σ H q => ?_
      have q1 := seq_read (X := X.suite a ((a, oe) :: pn)) q
      obtain ⟨ρ, L, α, re, rp, q1⟩ := q1
      unfold run at q1
      exact ⟨ρ, L, α, re, rp, PostS.val re rp q1 fun d L1 v H1 α1 e0 e1 p1 r1 q1 => q1 _ H1 α1 Ext.refl p1 r1⟩
    · cases hm
  · cases hm
theorem ps_tryN (S : Sok ct k fa ca Φ false W η X) {b : List Stmt} {s0 : Stmt} {su : List Stmt} {c : Str} {np p pos : Pos} {mb mh : Sm} (hd : ct.dty = false) (hg : isGl X.env.scope c = true) (ho : odd c = false) (hc : ct.cls.contains c = true) (hv : c ≠ "ValueError")
    (ihb : ∀ (W : WX) (pn : List (Addr × Obj)) (xe : Value → Shared → Prop), Sok ct k fa ca Φ false W η (X.tr pn xe) → PSs (X.tr pn xe) b (sS X fa ca Φ W η mb))
    (ihs : ∀ (a : Addr) (oe : Obj) (pn : List (Addr × Obj)) (cls : Value) (d : Option Addr), L2N.Zn cls d oe → (∃ vs, oe.data = .fields vs) → Sok ct k fa ca Φ true W0 none (X.suite a ((a, oe) :: pn)) → PSs (X.suite a ((a, oe) :: pn)) (s0 :: su) (sS X fa ca Φ W0 none mh)) :
    PS X (.Try b [.ExceptHandler (some (.Name c np)) none (s0 :: su) p] [] [] pos) (sS X fa ca Φ W η (.try_ mb c none mh)) := by
  obtain ⟨Cc, hCv, hN⟩ := names_of S hg ho hc hv
  have en := eta_none S
  subst en
  refine psImp (L2N.ps_try_many (l := [(.ref Cc, suN X fa ca Φ mh)]) S.stk S.frm S.tk (fun W' pn xe tk po => ihb W' pn xe (S.tr tk (fun h => absurd (hd.symm.trans h) Bool.false_ne_true) po)) (.cons hN (fun a oe cls d pn hz hf => ⟨fun pins s σ H D I q => ?_⟩) .nil)) fun D σ H q => ?_
  · obtain ⟨c', C', rfl, rfl, hc', q⟩ := q
    exact (ihs a oe pn _ _ hz hf S.suN).run pins s σ H D I q
  · obtain ⟨ρ, L, α, re, rp, q⟩ := q
    refine ⟨ρ, L, α, re, rp, ?_⟩
    unfold run at q
    cases hr : run Φ mb ρ L with
    | ex c' ρ' L' =>
      rw [hr] at q
      intro C' σ' H' α' hc' e re' rp'
      obtain ⟨u, hu, _, hx⟩ := S.c.gl.kit c' C' c hc' (.inl hc)
      rw [hCv] at hu
      cases hu
      refine ⟨_, hx, fun hs a na => ?_, fun hs => ?_⟩
      · dsimp only at q
        rw [if_pos hs] at q
        refine ⟨c', C', rfl, rfl, hc', ρ', L', α', re', rp', ?_⟩
        have q' := PostS.from rp.ne e q
        cases hr2 : run Φ mh ρ' L' with
        | ex c2 ρ2 L2 =>
          rw [hr2] at q'
          exact q'.elim
        | _ =>
          rw [hr2] at q'
          exact q'
      · dsimp only at q
        rw [if_neg (by rw [hs]; exact Bool.false_ne_true)] at q
        exact q C' σ' H' α' hc' e re' rp'
    | _ =>
      rw [hr] at q
      exact q
theorem ps_try2 (S : Sok ct k fa ca Φ false W η X) {b : List Stmt} {s1 s2 : Stmt} {su1 su2 : List Stmt} {c1 c2 : Str} {np1 p1 np2 p2 pos : Pos} {mb mh1 mh2 : Sm} (hd : ct.dty = false) (hg1 : isGl X.env.scope c1 = true ∧ odd c1 = false ∧ ct.cls.contains c1 = true ∧ c1 ≠ "ValueError") (hg2 : isGl X.env.scope c2 = true ∧ odd c2 = false ∧ ct.cls.contains c2 = true ∧ c2 ≠ "ValueError")
    (ihb : ∀ (W : WX) (pn : List (Addr × Obj)) (xe : Value → Shared → Prop), Sok ct k fa ca Φ false W η (X.tr pn xe) → PSs (X.tr pn xe) b (sS X fa ca Φ W η mb))
    (ih1 : ∀ (a : Addr) (oe : Obj) (pn : List (Addr × Obj)), Sok ct k fa ca Φ true W0 none (X.suite a ((a, oe) :: pn)) → PSs (X.suite a ((a, oe) :: pn)) (s1 :: su1) (sS X fa ca Φ W0 none mh1))
    (ih2 : ∀ (a : Addr) (oe : Obj) (pn : List (Addr × Obj)), Sok ct k fa ca Φ true W0 none (X.suite a ((a, oe) :: pn)) → PSs (X.suite a ((a, oe) :: pn)) (s2 :: su2) (sS X fa ca Φ W0 none mh2)) :
    PS X (.Try b [.ExceptHandler (some (.Name c1 np1)) none (s1 :: su1) p1, .ExceptHandler (some (.Name c2 np2)) none (s2 :: su2) p2] [] [] pos) (sS X fa ca Φ W η (.try2 mb c1 mh1 c2 mh2)) := by
  obtain ⟨Cc1, hCv1, hN1⟩ := names_of S hg1.1 hg1.2.1 hg1.2.2.1 hg1.2.2.2
  obtain ⟨Cc2, hCv2, hN2⟩ := names_of S hg2.1 hg2.2.1 hg2.2.2.1 hg2.2.2.2
  have en := eta_none S
  subst en
  refine psImp (L2N.ps_try_many (l := [(.ref Cc1, suN X fa ca Φ mh1), (.ref Cc2, suN X fa ca Φ mh2)]) S.stk S.frm S.tk (fun W' pn xe tk po => ihb W' pn xe (S.tr tk (fun h => absurd (hd.symm.trans h) Bool.false_ne_true) po)) (.cons hN1 (fun a oe cls d pn hz hf => ⟨fun pins s σ H D I q => ?_⟩) (.cons hN2 (fun a oe cls d pn hz hf => ⟨fun pins s σ H D I q => ?_⟩) .nil))) fun D σ H q => ?_
  · obtain ⟨c', C', rfl, rfl, hc', q⟩ := q
    exact (ih1 a oe pn S.suN).run pins s σ H D I q
  · obtain ⟨c', C', rfl, rfl, hc', q⟩ := q
    exact (ih2 a oe pn S.suN).run pins s σ H D I q
  · obtain ⟨ρ, L, α, re, rp, q⟩ := q
    refine ⟨ρ, L, α, re, rp, ?_⟩
    unfold run at q
    cases hr : run Φ mb ρ L with
    | ex c' ρ' L' =>
      rw [hr] at q
      intro C' σ' H' α' hc' e re' rp'
      obtain ⟨u1, hu1, _, hx1⟩ := S.c.gl.kit c' C' c1 hc' (.inl hg1.2.2.1)
      rw [hCv1] at hu1
      cases hu1
      obtain ⟨u2, hu2, _, hx2⟩ := S.c.gl.kit c' C' c2 hc' (.inl hg2.2.2.1)
      rw [hCv2] at hu2
      cases hu2
      refine ⟨_, hx1, fun hs a na => ?_, fun hs => ⟨_, hx2, fun hs2 a na => ?_, fun hs2 => ?_⟩⟩
      · dsimp only at q
        rw [if_pos hs] at q
        refine ⟨c', C', rfl, rfl, hc', ρ', L', α', re', rp', ?_⟩
        have q' := PostS.from rp.ne e q
        cases hr2 : run Φ mh1 ρ' L' with
        | ex c2 ρ2 L2 =>
          rw [hr2] at q'
          exact q'.elim
        | _ =>
          rw [hr2] at q'
          exact q'
      · dsimp only at q
        rw [if_neg (by rw [hs]; exact Bool.false_ne_true), if_pos hs2] at q
        refine ⟨c', C', rfl, rfl, hc', ρ', L', α', re', rp', ?_⟩
        have q' := PostS.from rp.ne e q
        cases hr2 : run Φ mh2 ρ' L' with
        | ex c2 ρ2 L2 =>
          rw [hr2] at q'
          exact q'.elim
        | _ =>
          rw [hr2] at q'
          exact q'
      · dsimp only at q
        rw [if_neg (by rw [hs]; exact Bool.false_ne_true), if_neg (by rw [hs2]; exact Bool.false_ne_true)] at q
        exact q C' σ' H' α' hc' e re' rp'
    | _ =>
      rw [hr] at q
      exact q
theorem ps_tryA (S : Sok ct k fa ca Φ false W η X) {b : List Stmt} {s0 : Stmt} {su : List Stmt} {c n : Str} {i : Nat} {np p pos : Pos} {mb mh : Sm} (hd : ct.dty = false) (hg : isGl X.env.scope c = true) (ho : odd c = false) (hc : ct.cls.contains c = true) (hv : c ≠ "ValueError")
    (hi : X.N[i]? = some n) (hl : isLoc X.env.scope n = true)
    (ihb : ∀ (W : WX) (pn : List (Addr × Obj)) (xe : Value → Shared → Prop), Sok ct k fa ca Φ false W η (X.tr pn xe) → PSs (X.tr pn xe) b (sS X fa ca Φ W η mb))
    (ihs : ∀ (a : Addr) (oe : Obj) (pn : List (Addr × Obj)) (c : Str), Sok ct k fa ca Φ true W0 (some (a, c)) (X.suite a ((a, oe) :: pn)) → PSs (X.suite a ((a, oe) :: pn)) (s0 :: su) (sS X fa ca Φ W0 (some (a, c)) mh)) :
    PS X (.Try b [.ExceptHandler (some (.Name c np)) (some n) (s0 :: su) p] [] [] pos) (sS X fa ca Φ W η (.try_ mb c (some i) mh)) := by
  obtain ⟨Cc, hCv, hN⟩ := names_of S hg ho hc hv
  have en := eta_none S
  subst en
  refine psImp (L2N.ps_try_as (ts := suA X fa ca Φ mh) S.stk S.frm S.c.nd hi (isLoc_loc hl) hN S.tk (fun W' pn xe tk po => ihb W' pn xe (S.tr tk (fun h => absurd (hd.symm.trans h) Bool.false_ne_true) po)) (fun a oe cls d pn hz hf => ⟨fun pins s σ H D I q => ?_⟩)) fun D σ H q => ?_
  · obtain ⟨c', C', rfl, rfl, hc', q⟩ := q
    exact (ihs a oe pn c' (S.su hc' hz.zc hf)).run pins s σ H D I q
  · obtain ⟨ρ, L, α, re, rp, q⟩ := q
    refine ⟨ρ, L, α, re, rp, ?_⟩
    unfold run at q
    cases hr : run Φ mb ρ L with
    | ex c' ρ' L' =>
      rw [hr] at q
      intro C' σ' H' α' hc' e re' rp'
      obtain ⟨u, hu, _, hx⟩ := S.c.gl.kit c' C' c hc' (.inl hc)
      rw [hCv] at hu
      cases hu
      refine ⟨_, hx, fun hs a na => ?_, fun hs => ?_⟩
      · dsimp only at q
        rw [if_pos hs] at q
        refine ⟨c', C', rfl, rfl, hc', ρ'.set i (some (.exc c')), L', α', re'.setExc, rp', ?_⟩
        have q' := PostS.from rp.ne e q
        cases hr2 : run Φ mh (ρ'.set i (some (.exc c'))) L' with
        | rt d2 L2 =>
          rw [hr2] at q'
          exact q'
        | _ =>
          rw [hr2] at q'
          exact q'.elim
      · dsimp only at q
        rw [if_neg (by rw [hs]; exact Bool.false_ne_true)] at q
        exact q C' σ' H' α' hc' e re' rp'
    | _ =>
      rw [hr] at q
      exact q
theorem ps_tryND (S : Sok ct k fa ca Φ false W η X) {b : List Stmt} {s0 : Stmt} {su : List Stmt} {c : Str} {np p pos : Pos} {mb mh : Sm} (hd : ct.dty = true) (hg : isGl X.env.scope c = true) (ho : odd c = false) (hc : ct.cls.contains c = true) (hv : c ≠ "ValueError")
    (ihb : ∀ (W : WX) (pn : List (Addr × Obj)) (xe : Value → Shared → Prop), Sok ct k fa ca Φ false W η (X.tr pn xe) → PSs (X.tr pn xe) b (sS X fa ca Φ W η mb))
    (ihs : ∀ (a : Addr) (oe : Obj) (pn : List (Addr × Obj)) (cls : Value) (d : Option Addr), Zc cls d oe → (∃ vs, oe.data = .fields vs) → Sok ct k fa ca Φ true W0 none (X.suite a ((a, oe) :: pn)) → PSs (X.suite a ((a, oe) :: pn)) (s0 :: su) (sS X fa ca Φ W0 none mh)) :
    PS X (.Try b [.ExceptHandler (some (.Name c np)) none (s0 :: su) p] [] [] pos) (sS X fa ca Φ W η (.try_ mb c none mh)) := by
  obtain ⟨Cc, hCv, hN⟩ := names_of S hg ho hc hv
  have en := eta_none S
  subst en
  refine psImp (L2.ps_try_many (l := [(.ref Cc, suN X fa ca Φ mh)]) S.stk S.frm (S.tdy hd) (fun W' pn xe tk po => ihb W' pn xe (S.tr (takesLN tk) (fun _ => tk) po)) (.cons hN (fun a oe cls d pn hz hf => ⟨fun pins s σ H D I q => ?_⟩) .nil)) fun D σ H q => ?_
  · obtain ⟨c', C', rfl, rfl, hc', q⟩ := q
    exact (ihs a oe pn _ _ hz hf S.suN).run pins s σ H D I q
  · obtain ⟨ρ, L, α, re, rp, q⟩ := q
    refine ⟨ρ, L, α, re, rp, ?_⟩
    unfold run at q
    cases hr : run Φ mb ρ L with
    | ex c' ρ' L' =>
      rw [hr] at q
      intro C' σ' H' α' hc' e re' rp'
      obtain ⟨u, hu, _, hx⟩ := S.c.gl.kit c' C' c hc' (.inl hc)
      rw [hCv] at hu
      cases hu
      refine ⟨_, hx, fun hs a na => ?_, fun hs => ?_⟩
      · dsimp only at q
        rw [if_pos hs] at q
        refine ⟨c', C', rfl, rfl, hc', ρ', L', α', re', rp', ?_⟩
        have q' := PostS.from rp.ne e q
        cases hr2 : run Φ mh ρ' L' with
        | ex c2 ρ2 L2 =>
          rw [hr2] at q'
          exact q'.elim
        | _ =>
          rw [hr2] at q'
          exact q'
      · dsimp only at q
        rw [if_neg (by rw [hs]; exact Bool.false_ne_true)] at q
        exact q C' σ' H' α' hc' e re' rp'
    | _ =>
      rw [hr] at q
      exact q
theorem ps_tryAD (S : Sok ct k fa ca Φ false W η X) {b : List Stmt} {s0 : Stmt} {su : List Stmt} {c n : Str} {i : Nat} {np p pos : Pos} {mb mh : Sm} (hd : ct.dty = true) (hg : isGl X.env.scope c = true) (ho : odd c = false) (hc : ct.cls.contains c = true) (hv : c ≠ "ValueError")
    (hi : X.N[i]? = some n) (hl : isLoc X.env.scope n = true)
    (ihb : ∀ (W : WX) (pn : List (Addr × Obj)) (xe : Value → Shared → Prop), Sok ct k fa ca Φ false W η (X.tr pn xe) → PSs (X.tr pn xe) b (sS X fa ca Φ W η mb))
    (ihs : ∀ (a : Addr) (oe : Obj) (pn : List (Addr × Obj)) (c : Str), Sok ct k fa ca Φ true W0 (some (a, c)) (X.suite a ((a, oe) :: pn)) → PSs (X.suite a ((a, oe) :: pn)) (s0 :: su) (sS X fa ca Φ W0 (some (a, c)) mh)) :
    PS X (.Try b [.ExceptHandler (some (.Name c np)) (some n) (s0 :: su) p] [] [] pos) (sS X fa ca Φ W η (.try_ mb c (some i) mh)) := by
  obtain ⟨Cc, hCv, hN⟩ := names_of S hg ho hc hv
  have en := eta_none S
  subst en
  refine psImp (L2.ps_try_as (ts := suA X fa ca Φ mh) S.stk S.frm S.c.nd hi (isLoc_loc hl) hN (S.tdy hd) (fun W' pn xe tk po => ihb W' pn xe (S.tr (takesLN tk) (fun _ => tk) po)) (fun a oe cls d pn hz hf => ⟨fun pins s σ H D I q => ?_⟩)) fun D σ H q => ?_
  · obtain ⟨c', C', rfl, rfl, hc', q⟩ := q
    exact (ihs a oe pn c' (S.su hc' hz hf)).run pins s σ H D I q
  · obtain ⟨ρ, L, α, re, rp, q⟩ := q
    refine ⟨ρ, L, α, re, rp, ?_⟩
    unfold run at q
    cases hr : run Φ mb ρ L with
    | ex c' ρ' L' =>
      rw [hr] at q
      intro C' σ' H' α' hc' e re' rp'
      obtain ⟨u, hu, _, hx⟩ := S.c.gl.kit c' C' c hc' (.inl hc)
      rw [hCv] at hu
      cases hu
      refine ⟨_, hx, fun hs a na => ?_, fun hs => ?_⟩
      · dsimp only at q
        rw [if_pos hs] at q
        refine ⟨c', C', rfl, rfl, hc', ρ'.set i (some (.exc c')), L', α', re'.setExc, rp', ?_⟩
        have q' := PostS.from rp.ne e q
        cases hr2 : run Φ mh (ρ'.set i (some (.exc c'))) L' with
        | rt d2 L2 =>
          rw [hr2] at q'
          exact q'
        | _ =>
          rw [hr2] at q'
          exact q'.elim
      · dsimp only at q
        rw [if_neg (by rw [hs]; exact Bool.false_ne_true)] at q
        exact q C' σ' H' α' hc' e re' rp'
    | _ =>
      rw [hr] at q
      exact q
theorem excBaseV : True := trivial
theorem ps_raiseS (S : Sok ct k fa ca Φ false W η X) {e : Expr} {pos : Pos} : PS X (.Raise (some e) none pos) (sS X fa ca Φ W η (raiseE ct X.env.scope e)) := by
  unfold raiseE
  split
  · rename_i c pc m j pm p
    split
    · rename_i h
      obtain ⟨h1, h2, h3⟩ := h
      obtain ⟨C, hC⟩ := S.c.gl.rsd c h3
      obtain ⟨g, xI, kp, bI, tI, _⟩ := S.c.gl.rs c C hC
      refine psImp (L2N.ps_raise (S.c.calm rfl) S.tk (L2N.pmk_own PySem.F.excBase_ValueError xI g kp (raises_own bI tI) (isGl_gl h1) (odd_d h2))) fun D σ H q => ?_
      obtain ⟨ρ, L, α, re, rp, q⟩ := q
      exact q C σ H α hC Ext.refl re rp
    · exact ps_bad rfl
  · exact ps_bad rfl
theorem augOf_spec {o : Operator} {b : Bop} (h : augOf o = some b) : (o = .Add ∧ b = .add) ∨ (o = .Sub ∧ b = .sub) := by
  cases o <;> cases h
  · exact .inl ⟨rfl, rfl⟩
  · exact .inr ⟨rfl, rfl⟩
theorem swaps_cel {e : Expr} {x : Str} {px : Pos} {n : Nat} {env : PySem.Env} (h : isCel env.scope x = true) : swapsWith e (some (.Name x px)) n env = pure false := by
  have hy : env.scope.names.lookup x = some .cell := by
    unfold isCel at h
    split at h
    · assumption
    · cases h
  have ky : env.kindOf x = some .cell := hy
  by_cases hn : noComp e = true
  · exact swaps_no hn
  · cases e <;> first | exact absurd rfl hn | skip
    all_goals
      unfold swapsWith
      simp only [ky]
      cases env.blockKind == .function <;> rfl
theorem sto_eq {sc : Scope} {x : Str} {px : Pos} {e : Expr} (h : compSto sc x px e = true) : ∃ elt g scope p, e = .ListComp elt [g] scope p ∧ isLoc sc x = true ∧ (px.line == p.line) = true ∧ (scope.names.any fun (n, k) => n == x && (k == .local || k == .cell)) = false := by
  unfold compSto at h
  split at h
  · rename_i elt a b c d scope p
    simp only [Bool.and_eq_true, Bool.not_eq_true'] at h
    exact ⟨elt, ⟨a, b, c, d⟩, scope, p, rfl, h.1.1, h.1.2, h.2⟩
  · cases h
/-- a comprehension stored at once -/
theorem ps_setLcS (S : Sok ct k fa ca Φ false W η X) {x : Str} {px spos : Pos} {elt : Expr} {g : Comprehension} {scope : Scope} {p : Pos} {i : Nat} (hi : ixOf X.N x = some i) (hl : isLoc X.env.scope x = true) (hln : (px.line == p.line) = true)
    (ha : (scope.names.any fun (n, k) => n == x && (k == .local || k == .cell)) = false) : PS X (.Assign [.Name x px] (.ListComp elt [g] scope p) spos) (sS X fa ca Φ W η (.set i (compE ct X.N false DEPTH X.env.scope (.ListComp elt [g] scope p)))) := by
  show PS X _ (sS X fa ca Φ W η (.set i (compE ct X.N false (59 + 1) X.env.scope (.ListComp elt [g] scope p))))
  have bad : ∀ {m : Ex}, m = .bad → PS X (.Assign [.Name x px] (.ListComp elt [g] scope p) spos) (sS X fa ca Φ W η (.set i m)) := fun h => ⟨fun _ _ _ _ _ _ q => by
    subst h
    obtain ⟨ρ, L, α, _, _, q⟩ := q
    exact q.elim⟩
  unfold compE
  dsimp only
  rw [if_neg (by decide)]
  split
  · rename_i y py it ifs heq
    cases heq
    split
    · rename_i j hj
      split
      · rename_i h
        obtain ⟨hb, hl2⟩ := h
        by_cases hset : noSet it = true
        · have C := S.c
          have key : ∀ mc, ((ifs = [] ∧ mc = .bl true) ∨ ∃ c, ifs = [c] ∧ mc = compE ct X.N false 59 (relS scope X.env.scope) c) →
              PS X (.Assign [.Name x px] (.ListComp elt [⟨.Name y py, it, ifs, 0⟩] scope p) spos) (sS X fa ca Φ W η (.set i (.lc j (iterE ct X.env.scope (compE ct X.N false 59 X.env.scope) it) mc (compE ct X.N false 59 (relS scope X.env.scope) elt)))) := fun mc hc => by
            obtain ⟨hg, ht, he⟩ := lc_parts (py := py) (elt := elt) C (fun X W C => (snd_E 59 false W X C).1) (fun X W C => (snd_E 59 false W X C).2) hj hb hl2 hc
            have ihE := (snd_E 59 false W X C).1
            have hsw := sw_true (elt := elt) (gs := [⟨.Name y py, it, ifs, 0⟩]) (scope := scope) (pos := p) (py := px) (y := x) (l := spos.line) (env := X.env)
            refine ⟨fun pins s σ H D I q => ?_⟩
            refine (ps_setLc (C.calm rfl) C.nd (ixOf_get hi) (isLoc_loc hl) (sw_true I.ok.kind (isLoc_loc hl) hln ha) (pi_iterE C ihE it) (blkOk_by hb) hg ht he (fold_ok hset)).run pins s σ H D I ?_
            refine lc_read ?_
            obtain ⟨ρ, L, α, re, rp, q⟩ := q
            refine ⟨ρ, L, α, re, rp, PostS.val re rp q fun d L1 v H1 α1 e0 e1 p1 r1 q1 => ?_⟩
            exact q1 _ H1 α1 Ext.refl ((re.ext e1 rp).set r1) p1
          split
          · exact key _ (.inl ⟨rfl, rfl⟩)
          · exact key _ (.inr ⟨_, rfl, rfl⟩)
          · exact bad rfl
        · rw [iterE_set (by simpa using hset)]
          split
          all_goals first
            | exact bad rfl
            | (refine ⟨fun pins s σ H D I q => ?_⟩
               obtain ⟨ρ, L, α, re, rp, q⟩ := q
               exact q.elim)
      · exact bad rfl
    · exact bad rfl
  · exact bad rfl
theorem ps_setixS (S : Sok ct k fa ca Φ hot W η X) {o i e : Expr} {p q : Pos} {mo mi me : Ex} (hs : noSl i = true) (ho : PE X o (sE X fa ca Φ W η mo)) (hi : PE X i (sE X fa ca Φ W η mi)) (he : PE X e (sE X fa ca Φ W η me)) :
    PS X (.Assign [.Subscript o i p] e q) (sS X fa ca Φ W η (.setix mo mi me)) := by
  refine psImp (ps_asg he (pg_sub ho hi set_list (fun v => by cases i <;> first | rfl | cases hs)) swaps_sub rfl rfl) fun D σ H q => ?_
  obtain ⟨ρ, L, α, re, rp, q⟩ := q
  unfold run at q
  refine ⟨ρ, L, α, re, rp, PostS.val re rp q fun d L1 v H1 α1 e0 e1 p1 r1 q1 => ?_⟩
  have re1 := re.ext e1 rp
  refine ⟨ρ, L1, α1, re1, p1, PostS.val re1 p1 q1 fun d2 L2 v2 H2 α2 e0 e2 p2 r2 q2 => ?_⟩
  have re2 := re1.ext e2 p1
  refine ⟨ρ, L2, α2, re2, p2, PostS.val re2 p2 q2 fun d3 L3 v3 H3 α3 e0 e3 p3 r3 q3 => ?_⟩
  have re3 := re2.ext e3 p2
  have r1' := r1.ext (e2.trans p1.ne e3) p1.tl
  have r2' := r2.ext e3 p2.tl
  split at q3
  · rename_i n j
    cases r2' with
    | ref h1 =>
      cases r3
      split at q3
      · exact q3.elim
      · rename_i hn
        split at q3
        · rename_i xs hx
          split at q3
          · rename_i pl hp
            obtain ⟨vs, rs, hH⟩ := p3.mut hn h1 hx
            obtain ⟨p', e'⟩ := p3.set hn h1 (rs.set pl r1')
            exact ⟨_, _, _, pl, rfl, rfl, hH, by rw [← rs.length]; exact hp, q3 σ _ α3 e' (re3.ext e' p3) p'⟩
          · exact q3.elim
        · exact q3.elim
  · exact q3.elim
theorem ps_augS (S : Sok ct k fa ca Φ hot W η X) {x : Str} {px q : Pos} {e : Expr} {op : Operator} {b : Bop} {i : Nat} {me : Ex} (hi : X.N[i]? = some x) (hx : isSto X.env.scope x = true) (hb : augOf op = some b) (he : PE X e (sE X fa ca Φ W η me)) :
    PS X (.AugAssign (.Name x px) op e q) (sS X fa ca Φ W η (.aug i b me)) := by
  have go : ∀ (f : Int → Int → Int), PIp X op (ipI f) → (∀ (a y : Int), augop b a (.int y) = some (f a y)) → (∀ (a : Int) (d : D), (∀ y, d ≠ .int y) → augop b a d = none) → PS X (.AugAssign (.Name x px) op e q) (sS X fa ca Φ W η (.aug i b me)) := fun f hp hf hn => by
    refine psImp (ps_aug S.c.nd hi (isSto_loc hx) he hp (.inl (S.fnm x))) fun D σ H q => ?_
    obtain ⟨ρ, L, α, re, rp, q⟩ := q
    unfold run at q
    split at q
    · rename_i a ha
      obtain ⟨v, hv, rv⟩ := re.2.1 i _ ha fun c z => by cases z
      cases rv
      refine ⟨_, hv, ρ, L, α, re, rp, PostS.val re rp q fun d L1 v H1 α1 e0 e1 p1 r1 q1 => ?_⟩
      by_cases hd : ∃ y, d = .int y
      · obtain ⟨y, rfl⟩ := hd
        rw [hf a y] at q1
        cases r1
        exact ⟨a, y, rfl, rfl, q1 _ H1 α1 Ext.refl ((re.ext e1 rp).set (.int _)) p1⟩
      · rw [hn a d fun y e => hd ⟨y, e⟩] at q1
        exact q1.elim
    · exact q.elim
  rcases augOf_spec hb with ⟨rfl, rfl⟩ | ⟨rfl, rfl⟩
  · exact go _ ip_add (fun a y => rfl) fun a d h => by cases d <;> first | rfl | exact absurd rfl (h _)
  · exact go _ ip_sub (fun a y => rfl) fun a d h => by cases d <;> first | rfl | exact absurd rfl (h _)
end
end MP

/-! Texts' replace: behind a token that is out. -/
namespace MP
open PySem PySem.Spec PyProof.Rows L2 CwR
section
variable {X : Cx} {ct : CT} {k : Nat} {fa ca : Str → Option Addr} {Φ : Str → List D → Hd → R D} {W : WX} {η : Option (Addr × Str)}
theorem pstImp {s : Stmt} {t u : TS} (h : PST X s t) (i : ∀ D σ H, u D σ H → t D σ H) : PST X s u := fun pins sh σ H D h0 I q => h pins sh σ H D h0 I (i D σ H q)
theorem psstImp {s : List Stmt} {t u : TS} (h : PSsT X s t) (i : ∀ D σ H, u D σ H → t D σ H) : PSsT X s u := fun pins sh σ H D h0 I q => h pins sh σ H D h0 I (i D σ H q)
theorem psst_sem {f : Stmt → Sm} (ih : ∀ s, PST X s (sS X fa ca Φ W η (f s))) : ∀ {ss : List Stmt}, PSsT X ss (sS X fa ca Φ W η (compB f ss))
  | [] => psstImp psst_nil fun D σ H q => by
    obtain ⟨ρ, L, α, re, rp, q⟩ := q
    exact q σ H α Ext.refl re rp
  | s :: ss => psstImp (psst_cons (ih s) (psst_sem ih)) fun D σ H q => seq_read q
/-- a % b, and a token is out -/
theorem mod_tok {pins : List (Addr × Obj)} {s : Shared} {σ : L2.St} {H : Hp} {x y : V} {v u : Value} {Q : VK} (I : Inv X pins σ H s) (rx : RelV x v) (ry : RelV y u) (h : rSem2 X.K fa (binop .mod) x y H Q) {QQ : Value → Shared → Prop} (hq : ∀ w s', 1 ≤ s'.toks → EP X pins σ Q w s' → QQ w s') : wpAny (model X.prog X.w) X.A (binaryOp .Mod v u) QQ X.xe s := by
  obtain ⟨d, e, L, α, p, r1, r2, q⟩ := h
  cases d with
  | int i =>
    cases e with
    | int j =>
      cases r1
      cases r2
      obtain ⟨t, rfl⟩ := rx
      obtain ⟨t', rfl⟩ := ry
      have q' : PostV X.K fa (if j ≠ 0 then .ok (.int (i.fmod j)) L else .bad) H α Q := q
      split at q'
      · rename_i hj
        refine mod_int' hj (hq _ _ (by show 1 ≤ s.toks + 1; omega) ⟨.int (i.fmod j), H, I.tok _, ⟨_, rfl⟩, ?_⟩)
        exact q' _ _ _ Ext.refl p (.int _)
      · exact q'.elim
    | _ => exact q.elim
  | _ => exact q.elim
theorem pss_mod {a b : Expr} {rest : List Stmt} {i : Nat} {x : Str} {px p pos : Pos} {ta tb : TE} {u : TS} (hN : X.N.Nodup) (hi : X.N[i]? = some x) (hx : Loc X.env.scope x) (hf : X.fn x = true ∨ X.env.scope.names.lookup x = some .local) (ha : PE X a ta) (hb : PE X b tb) (h2 : PSsT X rest u) :
    PSs X (.Assign [.Name x px] (.BinOp a .Mod b p) pos :: rest) (tSeq (tAsg (tOp (rSem2 X.K fa (binop .mod)) ta tb) (gName i)) u) := by
  refine ⟨fun pins s σ H D I h => ?_⟩
  refine wpAny_execs_cons (wpAny_Assign_Name (wpAny_BinOp (thn (ha.run pins s σ H _ I h) fun v s1 ⟨x1, H1, I1, r1, q1⟩ => thn (hb.run pins s1 σ H1 _ I1 q1) fun w s2 ⟨y1, H2, I2, r2, q2⟩ => ?_)) (swaps_no rfl))
  refine mod_tok I2 r1 r2 q2 fun z s3 h3 ⟨v3, H3, I3, r3, q3⟩ => ?_
  refine wpAny_mono (PySem.wpAny_toks (store_ok (Q := fun _ s4 => Inv X pins (σ.set i (some v3)) H3 s4) I3 hN hi hx r3 (fun _ I4 => I4) hf)) (fun _ s4 q4 => ?_) fun _ _ z => z.2
  exact h2 pins s4 _ H3 D (Nat.le_trans h3 q4.1) q4.2 q3
theorem petImp {e : Expr} {t u : TE} (h : PET X e t) (i : ∀ σ H Q, u σ H Q → t σ H Q) : PET X e u := fun pins sh σ H Q h0 I q => h pins sh σ H Q h0 I (i σ H Q q)
theorem patImp {es : List Expr} {t u : TA} (h : PAT X es t) (i : ∀ σ H Q, u σ H Q → t σ H Q) : PAT X es u := fun pos pins sh σ H Q h0 I q => h pos pins sh σ H Q h0 I (i σ H Q q)
/-- a method of a built-in thing, one token out -/
theorem pet_bm {T id : String} {name : Str} {r : V → List V → Hp → VK → Prop} {o e : Expr} {es : List Expr} {to : TE} {t : TA} {apos cpos : Pos} (pa : PlainAttrs T) (slot : Slot T name id) (hty : typeOf (.builtin id) = pure (.type "method_descriptor")) (hm : MtR X id r) (ho : PE X o to) (ha : PAT X (e :: es) t)
    (hbase : attributeBase o name X.env (eval o X.env) = eval o X.env)
    (hfew : ((backTo cpos (starEach (e :: es) X.env)).all (fun x => !x.1) && (backToKw cpos (keywordEach [] X.env)).all (fun x => x.1.isSome)
      && decide ((e :: es).length + ([] : List Keyword).length + (if ([] : List Keyword).isEmpty then 0 else 1) < 30)) = true)
    (hline : (apos.endLine == cpos.line) = true) (hs : starEach (e :: es) X.env = (false, eval e X.env) :: starEach es X.env) (hplain : (backTo cpos (starEach es X.env)).any (·.1) = false) :
    PET X (.Call (.Attribute o name apos) (e :: es) [] cpos) (tBM X.K T r to t) := by
  intro pins s σ H Q h0 I h
  refine wpAny_Call_method_late hbase hfew hline rfl (wpAny_mono (PySem.wpAny_toks (ho.run pins s σ H _ I h)) (fun v s1 q => ?_) fun _ _ z => z.2)
  obtain ⟨hk, x, H1, I1, r1, ty, q1⟩ := q
  obtain ⟨h1, h2⟩ := tyV_is I1 r1 ty
  refine ⟨T, id, pa, slot, hty, h1, h2, ?_⟩
  have hA := ha cpos pins s1 σ H1 _ (Nat.le_trans h0 hk) I1 q1
  rw [hs] at hA ⊢
  refine Calls.callWith_builtin (by show (false || (backTo cpos (starEach es X.env)).any (·.1)) = false; rw [hplain] <;> rfl) (Calls.evalArgs_plain ?_)
  exact thn hA fun us s2 ⟨vs, H2, I2, r2, q2⟩ => hm pins s2 σ H2 x vs v us Q I2 r1 r2 q2
theorem pat_sem {ce : Expr → Ex} (ih : ∀ e, PET X e (sE X fa ca Φ W η (ce e))) : ∀ {es : List Expr}, noStar es = true → PAT X es (sA X fa ca Φ W η (compA ce es))
  | [], _ => patImp pat_nil fun σ H Q q => by
    obtain ⟨ρ, L, α, re, rp, ds, e, q⟩ := q
    cases e
    exact q [] H α Ext.refl rp .nil
  | e :: es, h => by
    unfold noStar at h
    rw [List.all_cons, Bool.and_eq_true] at h
    refine patImp (pat_cons (ih e) (pat_sem ih h.2) (star_eq h.1)) fun σ H Q q => ?_
    obtain ⟨ρ, L, α, re, rp, q⟩ := q
    refine ⟨ρ, L, α, re, rp, PostA.first rp.ne q fun d L1 v H1 α1 e0 e1 p1 r1 q1 => ?_⟩
    refine ⟨ρ, L1, α1, re.ext e1 rp, p1, ?_⟩
    cases hr : evE Φ (compA ce es) ρ L1 with
    | ok d2 L2 =>
      rw [hr] at q1
      cases d2 with
      | tup ds =>
        refine ⟨ds, rfl, fun vs H2 α2 e2 p2 r2 => ?_⟩
        obtain ⟨ds', ed, q1⟩ := q1
        cases ed
        exact q1 _ H2 α2 e2 p2 (.cons (r1.ext e2 p1.tl) r2)
      | _ => exact q1.elim
    | exc c L2 =>
      rw [hr] at q1
      exact q1
    | bad =>
      rw [hr] at q1
      exact q1
theorem pet_tmS {ce ct' : Expr → Ex} (io : ∀ e, PE X e (sE X fa ca Φ W η (ct' e))) (ih : ∀ e, PET X e (sE X fa ca Φ W η (ce e))) {o : Expr} {x : Str} {ap p : Pos} {as : List Expr} {m : Tm} (ho : plainO o = true) (hl : (ap.endLine == p.line) = true) (hs : noStar as = true) (hm : tmOf x as.length = some m) :
    PET X (.Call (.Attribute o x ap) as [] p) (sE X fa ca Φ W η (.tm m (ct' o) (compA ce as))) := by
  have S := tmOf_spec hm
  cases as with
  | nil => exact absurd S.one (by decide)
  | cons e es =>
    have hs' := hs
    unfold noStar at hs'
    rw [List.all_cons, Bool.and_eq_true] at hs'
    have hmany := S.one
    refine petImp (pet_bm PySem.F.plainAttrs_str S.slot S.ty (mt_tm (fa := fa) m S.nr) (io o) (pat_sem ih hs) (base_eq ho) (by
      rw [star_all hs]
      simp only [List.length_cons] at hmany
      simp only [List.length_cons, List.length_nil, Bool.true_and]
      show (true && decide (es.length + 1 + 0 + 0 < 30)) = true
      rw [Bool.true_and, decide_eq_true_eq]
      omega) hl (star_eq hs'.1) (star_any hs'.2)) fun σ H Q q => ?_
    obtain ⟨ρ, L, α, re, rp, q⟩ := q
    unfold evE at q
    refine ⟨ρ, L, α, re, rp, Post.first rp.ne q fun d L1 v H1 α1 e0 e1 p1 r1 q1 => ?_⟩
    split at q1
    · rename_i hr
      obtain ⟨z, rfl⟩ := isStr_str hr
      have ht : tyV X.K "str" v H1 := by
        cases r1
        exact rfl
      refine ⟨ht, ρ, L1, α1, re.ext e1 rp, p1, Post.args p1.ne q1 (fun d L hd => ?_) fun ds L2 vs H2 α2 e0 e2 p2 r2 q2 => ?_⟩
      · cases d <;> first | rfl | exact absurd rfl (hd _)
      · exact ⟨_, ds, L2, α2, p2, r1.ext e2 p1.tl, r2, Post.v (tmop_calm _ _ _ _) q2⟩
    · exact q1.elim
end
end MP

/-! Statements, all; defs; a law's end. -/
namespace MP
open PySem PySem.Spec PyProof.Rows L2

section
variable {X : Cx} {ct : CT} {k : Nat} {fa ca : Str → Option Addr} {Φ : Str → List D → Hd → R D} {hot : Bool} {W : WX} {η : Option (Addr × Str)}
/-- THE RULE for statements -/
theorem snd_S : ∀ (n : Nat) (hot : Bool) (W : WX) (η : Option (Addr × Str)) (X : Cx), Sok ct k fa ca Φ hot W η X → ∀ s, PS X s (sS X fa ca Φ W η (compS ct X.N hot n X.env.scope s))
  | 0, hot, W, η, X, S, s => ps_bad rfl
  | n + 1, hot, W, η, X, S, s => by
    have E := (snd_E (η := η) DEPTH hot W X S.c).1
    have T := (snd_E (η := η) DEPTH hot W X S.c).2
    have B : ∀ ss, PSs X ss (sS X fa ca Φ W η (compB (compS ct X.N hot n X.env.scope) ss)) := fun ss => pss_sem (snd_S n hot W η X S)
    unfold compS
    split
    · exact psImp ps_pass fun D σ H q => by
        obtain ⟨ρ, L, α, re, rp, q⟩ := q
        exact q σ H α Ext.refl re rp
    · split
      · rename_i hn
        refine psImp (ps_expr (E _) (swaps_no hn)) fun D σ H q => ?_
        obtain ⟨ρ, L, α, re, rp, q⟩ := q
        unfold run at q
        exact ⟨ρ, L, α, re, rp, PostS.val re rp q fun d L1 v H1 α1 e0 e1 p1 r1 q1 => q1 σ H1 α1 Ext.refl (re.ext e1 rp) p1⟩
      · exact ps_bad rfl
    · split
      · split
        · rename_i h
          obtain ⟨h1, h2, h3⟩ := h
          split
          · rename_i i hi
            rcases h3 with h3 | h3 | h3
            · refine psImp (ps_set S.c.nd (ixOf_get hi) (isSto_loc h2) (E _) (swaps_no h3) (.inl (S.fnm _))) fun D σ H q => ?_
              obtain ⟨ρ, L, α, re, rp, q⟩ := q
              unfold run at q
              exact ⟨ρ, L, α, re, rp, PostS.val re rp q fun d L1 v H1 α1 e0 e1 p1 r1 q1 => q1 _ H1 α1 Ext.refl ((re.ext e1 rp).set r1) p1⟩
            · refine psImp (ps_set S.c.nd (ixOf_get hi) (isSto_loc h2) (E _) (swaps_cel h3) (.inl (S.fnm _))) fun D σ H q => ?_
              obtain ⟨ρ, L, α, re, rp, q⟩ := q
              unfold run at q
              exact ⟨ρ, L, α, re, rp, PostS.val re rp q fun d L1 v H1 α1 e0 e1 p1 r1 q1 => q1 _ H1 α1 Ext.refl ((re.ext e1 rp).set r1) p1⟩
            · obtain ⟨elt, g, scope, p, rfl, hl, hln, ha⟩ := sto_eq h3
              cases hot with
              | false => exact ps_setLcS S hi hl hln ha
              | true => exact ⟨fun _ _ _ _ _ _ q => by
                  obtain ⟨ρ, L, α, _, _, q⟩ := q
                  exact q.elim⟩
          · exact ps_bad rfl
        · exact ps_bad rfl
      · split
        · rename_i hs
          exact ps_setixS S hs (E _) (E _) (E _)
        · exact ps_bad rfl
      · exact ps_bad rfl
    · split
      · split
        · rename_i h
          obtain ⟨h1, h2⟩ := h
          split
          · rename_i i b hi hb
            exact ps_augS S (ixOf_get hi) h2 hb (E _)
          · exact ps_bad rfl
        · exact ps_bad rfl
      · exact ps_bad rfl
    · split
      · refine psImp (ps_ret (E _)) fun D σ H q => ?_
        obtain ⟨ρ, L, α, re, rp, q⟩ := q
        unfold run at q
        exact ⟨ρ, L, α, re, rp, PostS.val re rp q fun d L1 v H1 α1 e0 e1 p1 r1 q1 => q1 _ H1 α1 Ext.refl p1 r1⟩
      · exact psImp ps_retN fun D σ H q => by
          obtain ⟨ρ, L, α, re, rp, q⟩ := q
          exact q _ H α Ext.refl rp .non
    · refine psImp (ps_if (T _) (B _) (B _)) fun D σ H q => ?_
      obtain ⟨ρ, L, α, re, rp, q⟩ := q
      refine ⟨ρ, L, α, re, rp, PostS.test re rp q (fun L1 H1 α1 e1 p1 q1 => ?_) fun L1 H1 α1 e1 p1 q1 => ?_⟩
      · rw [if_pos rfl]
        exact ⟨ρ, L1, α1, re.ext e1 rp, p1, q1⟩
      · rw [if_neg Bool.false_ne_true]
        exact ⟨ρ, L1, α1, re.ext e1 rp, p1, q1⟩
    · split
      · rename_i h
        obtain ⟨rfl, h2⟩ := h
        obtain rfl := nil_of h2
        exact psImp (ps_while S.po (T _) (B _)) fun D σ H q => wh_read q
      · exact ps_bad rfl
    · split
      · rename_i h
        obtain ⟨rfl, h2⟩ := h
        obtain rfl := nil_of h2
        split
        · split
          · rename_i h
            obtain ⟨h1, h2, h3⟩ := h
            split
            · rename_i i hi
              exact psImp (ps_for S.po (S.c.calm rfl) (pi_iterE S.c E _) (pg_name S.c.nd (ixOf_get hi) (isSto_loc h2) (.inl (S.fnm _))) (B _) (fold_ok h3)) fun D σ H q => for_read q
            · exact ps_bad rfl
          · exact ps_bad rfl
        · split
          · rename_i h
            obtain ⟨⟨h1, h2, h3⟩, h4, h5⟩ := h
            split
            · rename_i i j hi hj
              exact psImp (ps_for S.po (S.c.calm rfl) (pi_iterE S.c E _) (pg_tup (S.c.calm rfl) (pgs_cons (pg_name S.c.nd (ixOf_get hi) (isSto_loc h2) (.inl (S.fnm _))) (pgs_cons (pg_name S.c.nd (ixOf_get hj) (isSto_loc h5) (.inl (S.fnm _))) pgs_nil))) (B _) (fold_ok h3)) fun D σ H q => for_read2 q
            · exact ps_bad rfl
          · exact ps_bad rfl
        · exact ps_bad rfl
      · exact ps_bad rfl
    · split
      · rename_i h
        subst h
        split
        · exact ps_raiseS S
        · exact ps_bad rfl
      · exact ps_bad rfl
    · exact psImp ps_break fun D σ H q => by
        obtain ⟨ρ, L, α, re, rp, q⟩ := q
        exact q σ H α Ext.refl re rp
    · exact psImp ps_continue fun D σ H q => by
        obtain ⟨ρ, L, α, re, rp, q⟩ := q
        exact q σ H α Ext.refl re rp
    · split
      · rename_i h
        obtain ⟨rfl, h2, h3⟩ := h
        obtain rfl := nil_of h2
        obtain rfl := nil_of h3
        split
        · split
          · rename_i h
            obtain ⟨h4, h5, h6, h7⟩ := h
            split
            · cases hd : ct.dty with
              | false =>
                exact ps_tryN S hd h4 h5 h6 h7 (fun W' pn xe S' => pss_sem (snd_S n false W' η (X.tr pn xe) S')) fun a oe pn cls d hz hf S' => by
                    rw [if_neg Bool.false_ne_true]
                    split
                    · rename_i m hm
                      exact hot_suite S hz hf hm (snd_E (η := none) DEPTH true W0 _ S'.c).1
                    · exact pss_sem (snd_S n true W0 none _ S')
              | true => exact ps_tryND S hd h4 h5 h6 h7 (fun W' pn xe S' => pss_sem (snd_S n false W' η (X.tr pn xe) S')) fun a oe pn cls d hz hf S' => pss_sem (snd_S n true W0 none _ S')
            · split
              · rename_i h
                obtain ⟨h8, h9⟩ := h
                split
                · rename_i i hi
                  cases hd : ct.dty with
                  | false => exact ps_tryA S hd h4 h5 h6 h7 (ixOf_get hi) h9 (fun W' pn xe S' => pss_sem (snd_S n false W' η (X.tr pn xe) S')) fun a oe pn c S' => pss_sem (snd_S n true W0 (some (a, c)) _ S')
                  | true => exact ps_tryAD S hd h4 h5 h6 h7 (ixOf_get hi) h9 (fun W' pn xe S' => pss_sem (snd_S n false W' η (X.tr pn xe) S')) fun a oe pn c S' => pss_sem (snd_S n true W0 (some (a, c)) _ S')
                · exact ps_bad rfl
              · exact ps_bad rfl
          · exact ps_bad rfl
        · split
          · rename_i h
            obtain ⟨hd, h4, h5⟩ := h
            exact ps_try2 S hd h4 h5 (fun W' pn xe S' => pss_sem (snd_S n false W' η (X.tr pn xe) S')) (fun a oe pn S' => pss_sem (snd_S n true W0 none _ S')) (fun a oe pn S' => pss_sem (snd_S n true W0 none _ S'))
          · exact ps_bad rfl
        · exact ps_bad rfl
      · exact ps_bad rfl
    · exact ps_bad rfl
open CwR in
theorem repl_read {e : Ex} {y z : Str} {σ : L2.St} {H : Hp} {Q : VK} (q : sE X fa ca Φ W η (.tm .replace e (.cons (.str y) (.cons (.str z) .nil))) σ H Q) : tReplC (sE X fa ca Φ W η e) y z σ H Q := by
  obtain ⟨ρ, L, α, re, rp, q⟩ := q
  unfold evE at q
  refine ⟨ρ, L, α, re, rp, Post.first rp.ne q fun d L1 v H1 α1 e0 e1 p1 r1 q1 => ?_⟩
  split at q1
  · rename_i hr
    obtain ⟨a, rfl⟩ := isStr_str hr
    have hl : evE Φ (.cons (.str y) (.cons (.str z) .nil)) ρ L1 = .ok (.tup [.str y, .str z]) L1 := lit_ev rfl
    rw [hl] at q1
    cases r1
    have q2 := Post.v (tmop_calm .replace (.str a) [.str y, .str z] L1) q1
    have q3 : PostV X.K fa (if (y == z) = false ∧ a.length + (a.length + 1) * z.length ≤ LIM then .ok (.str (Txt.replace a y z)) L1 else .bad) H1 α1 Q := q2
    split at q3
    · rename_i hc
      refine ⟨a, rfl, Nat.le_trans hc.2 (by decide), ?_⟩
      exact q3 _ _ _ Ext.refl p1 (.str _)
    · exact q3.elim
  · exact q1.elim
open CwR in
theorem compET_sem (C : Cok ct k fa ca Φ false W η X) : ∀ (n : Nat) (e : Expr), PET X e (sE X fa ca Φ W η (compET ct X.N n X.env.scope e))
  | 0, e => PET.of ((snd_E (η := η) DEPTH false W X C).1 e)
  | n + 1, e => by
    have E := (snd_E (η := η) DEPTH false W X C).1
    have ih := compET_sem C n
    have bad : ∀ {e : Expr}, PET X e (sE X fa ca Φ W η .bad) := fun {e} => PET.of (pe_bad rfl)
    unfold compET
    split
    · split
      · rename_i h
        split
        · split
          · rename_i h2
            obtain ⟨rfl, h4⟩ := h2
            exact petImp (pet_replC (E _) h4 rfl (base_eq h.1) h.2) fun σ H Q q => repl_read q
          · exact PET.of (E _)
        · split
          · rename_i hs
            split
            · rename_i m hm
              exact pet_tmS E ih h.1 h.2 hs hm
            · exact PET.of (E _)
          · exact PET.of (E _)
      · exact PET.of (E _)
    · split
      · rename_i o ho
        rw [bopOf_to ho]
        exact petImp (pet_op (op_bin o) (ih _) (ih _)) fun σ H Q q => sem2 (fun _ _ _ => binop_calm _ _ _ _) q
      · exact bad
    · split
      · rename_i hs
        refine petImp (pet_lst (pat_sem ih hs)) fun σ H Q q => ?_
        obtain ⟨ρ, L, α, re, rp, q⟩ := q
        unfold evE at q
        refine ⟨ρ, L, α, re, rp, Post.args rp.ne q (fun d L hd => by cases d <;> first | rfl | exact absurd rfl (hd _)) fun ds L1 vs H1 α1 e0 e1 p1 r1 q1 => ?_⟩
        have q2 := Post.v (alloc_calm _ _) q1
        have hl := alloc_lim q2
        rw [r1.length] at hl
        exact ⟨limLe hl, alloc_post p1 r1 q2⟩
      · exact bad
    · exact PET.of (E _)
open CwR in
theorem compT_sem (S : Sok ct k fa ca Φ false W η X) : ∀ s, PST X s (sS X fa ca Φ W η (compT ct X.N X.env.scope s)) := fun s => by
  unfold compT
  split
  · have T := (snd_E (η := η) DEPTH false W X S.c).2
    rename_i c e rp ip
    refine pstImp (pst_if (T c) (psst_one (pst_ret (compET_sem S.c 8 e))) psst_nil) fun D σ H q => ?_
    obtain ⟨ρ, L, α, re, rp, q⟩ := q
    refine ⟨ρ, L, α, re, rp, PostS.test re rp q (fun L1 H1 α1 e1 p1 q1 => ?_) fun L1 H1 α1 e1 p1 q1 => ?_⟩
    · rw [if_pos rfl]
      have q2 := seq_read (X := X) (fa := fa) (ca := ca) (W := W) (η := η) (Φ := Φ) ⟨ρ, L1, α1, re.ext e1 rp, p1, q1⟩
      obtain ⟨ρ', L', α', re', rp', q2⟩ := q2
      unfold run at q2
      exact ⟨ρ', L', α', re', rp', PostS.val re' rp' q2 fun d L1 v H1 α1 e0 e1 p1 r1 q1 => q1 _ H1 α1 Ext.refl p1 r1⟩
    · rw [if_neg Bool.false_ne_true]
      exact q1 σ H1 α1 Ext.refl (re.ext e1 rp) p1
  · exact PST.of (snd_S DEPTH false W η X S _)
theorem opt_isSome {α : Type} {o : Option α} (h : o.isSome = true) : ∃ a, o = some a := by
  cases o with
  | some a => exact ⟨a, rfl⟩
  | none => cases h
/-- a def's body -/
theorem compD_sem (S : Sok ct k fa ca Φ false W η X) : ∀ b, PSs X b (sS X fa ca Φ W η (compD ct X.N X.env.scope b))
  | [] => pssImp pss_nil fun D σ H q => by
    obtain ⟨ρ, L, α, re, rp, q⟩ := q
    exact q σ H α Ext.refl re rp
  | s :: r => by
    have ih := compD_sem S r
    unfold compD
    split
    · rename_i h
      unfold isTok at h
      split at h
      · rename_i x px a b p pos
        rw [Bool.and_eq_true, Bool.and_eq_true] at h
        obtain ⟨⟨h1, h2⟩, h3⟩ := h
        obtain ⟨i, hi⟩ := opt_isSome h3
        have h1 : odd x = false := by simpa using h1
        have E := (snd_E (η := η) 59 false W X S.c).1
        refine pssImp (pss_mod (fa := fa) S.c.nd (ixOf_get hi) (isSto_loc h2) (.inl (S.fnm _)) (E a) (E b) (psst_sem (X := X) (fa := fa) (ca := ca) (Φ := Φ) (W := W) (η := η) (compT_sem S))) fun D σ H q => ?_
        have q1 := seq_read q
        have ec : compS ct X.N false DEPTH X.env.scope (.Assign [.Name x px] (.BinOp a .Mod b p) pos) = .set i (.bin .mod (compE ct X.N false 59 X.env.scope a) (compE ct X.N false 59 X.env.scope b)) := by
          show (if odd x = false ∧ isSto X.env.scope x = true ∧ _ then (match ixOf X.N x with | some i => Sm.set i _ | none => .bad) else .bad) = _
          rw [if_pos ⟨h1, h2, .inl rfl⟩, hi]
          rfl
        rw [ec] at q1
        obtain ⟨ρ, L, α, re, rp, q2⟩ := q1
        unfold run at q2
        refine sem2 (fun _ _ _ => binop_calm _ _ _ _) (h := binop .mod) ⟨ρ, L, α, re, rp, ?_⟩
        exact PostS.val re rp q2 fun d L1 v H1 α1 e0 e1 p1 r1 q1 => q1 _ H1 α1 Ext.refl ((re.ext e1 rp).set r1) p1
      · cases h
    · exact pssImp (pss_cons (snd_S DEPTH false W η X S s) ih) fun D σ H q => seq_read q
/-! ### a def that may tell an exception with a context -/
theorem Glb.cln {P : Program} {w : World} {K : PySem.W.Frag} {mg : Str → Option Value} {base : Heap} (G : Glb ct P w K mg base k fa ca Φ) : Glb ct.cln P w K mg base k fa ca Φ := ⟨G.fn, G.fnv, G.co, G.bt, G.cl, G.kit, G.rsd, G.rs, G.fnh, G.fnd⟩
theorem Glb.dtc {P : Program} {w : World} {K : PySem.W.Frag} {mg : Str → Option Value} {base : Heap} (G : Glb ct P w K mg base k fa ca Φ) : Glb ct.dtc P w K mg base k fa ca Φ := ⟨G.fn, G.fnv, G.co, G.bt, G.cl, G.kit, G.rsd, G.rs, G.fnh, G.fnd⟩
structure Xok (ct : CT) (k : Nat) (fa ca : Str → Option Addr) (Φ : Str → List D → Hd → R D) (W : WX) (X : Cx) : Prop where
  nd : X.N.Nodup
  tk : Takes X W
  calm : X.calm = true
  room : Room k X.A
  units : X.A.units + 64 < cLine
  gl : Glb ct X.prog X.w X.K X.mg X.base k fa ca Φ
  po : PassesOwn (model X.prog X.w) X.A X.env X.xe
  pa : ∀ hd : Option Value, PassesOwnAt (model X.prog X.w) (X.A.mark hd) X.A X.env X.xe
  stk : X.stack = X.env :: X.outer
  frm : X.env.frame = some X.env.locals
  fnm : ∀ x, X.fn x = true
theorem Xok.sok (S : Xok ct k fa ca Φ W X) : Sok ct.dtc k fa ca Φ false W none X :=
  ⟨⟨S.nd, fun σ => L2N.passAt (takesLN S.tk) σ, fun _ σ => passAt S.tk σ, fun _ => S.calm, fun _ => S.room, S.units, S.gl.dtc, fun a c h => by cases h⟩, takesLN S.tk, fun _ => S.tk, S.po, S.stk, S.frm, S.fnm⟩
theorem Xok.body (S : Xok ct k fa ca Φ W X) {pn : List (Addr × Obj)} {xe : Value → Shared → Prop} {W' : WX} (tk : L2N.Takes (X.tr pn xe) W') (po : PassesOwn (model X.prog X.w) X.A X.env xe) : Sok ct.cln k fa ca Φ false W' none (X.tr pn xe) :=
  ⟨⟨S.nd, fun σ => L2N.passAt tk σ, fun h => absurd h Bool.false_ne_true, fun _ => S.calm, fun _ => S.room, S.units, S.gl.cln, fun a c h => by cases h⟩, tk, fun h => absurd h Bool.false_ne_true, po, S.stk, S.frm, S.fnm⟩
theorem ps_raiseX {X0 : Cx} {W0' : WX} (gl : Glb ct X0.prog X0.w X0.K X0.mg X0.base k fa ca Φ) (hot : L2H.HotC X0) (tk : Takes X0 W0') {e : Expr} {pos : Pos} : PS X0 (.Raise (some e) none pos) (sS X0 fa ca Φ W0' none (raiseE ct X0.env.scope e)) := by
  unfold raiseE
  split
  · rename_i c pc m j pm p
    split
    · rename_i h
      obtain ⟨h1, h2, h3⟩ := h
      obtain ⟨C, hC⟩ := gl.rsd c h3
      obtain ⟨g, xI, kp, bI, tI, _⟩ := gl.rs c C hC
      refine psImp (L2H.ps_raiseH hot tk (L2N.pmk_own PySem.F.excBase_ValueError xI g kp (raises_own bI tI) (isGl_gl h1) (odd_d h2))) fun D σ H q => ?_
      obtain ⟨ρ, L, α, re, rp, q⟩ := q
      exact q C σ H α hC Ext.refl re rp
    · exact ps_bad rfl
  · exact ps_bad rfl
/-- the wish of a block's exceptions: by the slots ahead of it -/
abbrev Wat (W : WX) (σ : L2.St) : WX := fun cls d _ H => W cls d σ H
open Classical in
/-- the comprehension's reading, where an exception may leave -/
theorem lc_readX {K : PySem.W.Frag} {s i0 : Nat} {mi mc me : Ex} {σ : L2.St} {H : Hp} {D0 : Ends} (q : semS K fa ca W η (run Φ (.setlc i0 s mi mc me)) D0 σ H) :
    tLc (semI K fa ca W η (evE Φ mi)) (gName s) (semT K fa ca (Wat W σ) η (evE Φ mc)) (semE K fa ca (Wat W σ) η (evE Φ me)) [s] σ H (fun v H1 => gName i0 v σ H1 D0.nx) := by
  obtain ⟨ρ, L, α, re, rp, q⟩ := q
  unfold run at q
  refine ⟨ρ, L, α, re, rp, ?_⟩
  cases hr : evE Φ mi ρ L with
  | exc c L1 =>
    rw [hr] at q
    exact fun C H' α' hc e p => q C σ H' α' hc e (re.ext e rp) p
  | bad =>
    rw [hr] at q
    exact q
  | ok d L1 =>
    rw [hr] at q
    have q : PostS K fa ca W η (match items d L1 with | some (w, xs) => if xs.length ≤ LIM then ((lcGoX (fun x L => evE Φ mc (ρ.set s (some x)) L) (fun x L => evE Φ me (ρ.set s (some x)) L) w xs xs L1).bind fun ys L => alloc ys L).on ρ fun d L => .nx (ρ.set i0 (some d)) L else .bad | none => .bad) H α D0 := q
    cases hi : items d L1 with
    | none =>
      rw [hi] at q
      exact q.elim
    | some wx =>
      obtain ⟨w, xs⟩ := wx
      rw [hi] at q
      have q : PostS K fa ca W η (if xs.length ≤ LIM then ((lcGoX (fun x L => evE Φ mc (ρ.set s (some x)) L) (fun x L => evE Φ me (ρ.set s (some x)) L) w xs xs L1).bind fun ys L => alloc ys L).on ρ fun d L => .nx (ρ.set i0 (some d)) L else .bad) H α D0 := q
      by_cases hlim : xs.length ≤ LIM
      case neg =>
        rw [if_neg hlim] at q
        exact q.elim
      rw [if_pos hlim] at q
      have q := PostS.val (Q := fun v H1 => gName i0 v σ H1 D0.nx) re rp q fun d2 L2 v H2 α2 _ e p rv q' => q' _ H2 α2 Ext.refl ((re.ext e rp).set rv) p
      refine ⟨w, xs, hi, fun J H1 α1 e1 p1 jok D hD => ?_⟩
      have q1 := Post.from rp.ne e1 q
      have re1 := re.ext e1 rp
      -- the turns
      refine ⟨fun i m H2 => m = xs.length - i ∧ i ≤ xs.length ∧ ∃ L2 α2 acc accV, RHp K fa H2 α2 L2 ∧ Ext H1 α1 H2 α2 ∧ H2 D = some (.lst accV) ∧ D ∉ α2.tail ∧ RVs K fa H2 α2 acc accV ∧ acc.length ≤ i ∧
        Post K fa ca W σ ((lcGoX (fun x L => evE Φ mc (ρ.set s (some x)) L) (fun x L => evE Φ me (ρ.set s (some x)) L) w xs (xs.drop i) L2).bind fun ys L => alloc (acc ++ ys) L) H1 α1 (fun v H1 => gName i0 v σ H1 D0.nx),
        ⟨xs.length, by simp, Nat.zero_le _, L1, α1, [], [], p1.new hD, Ext.new hD, upd_same, ?_, .nil, by simp, by simpa using q1⟩, ?_⟩
      · intro hm
        obtain ⟨us, z⟩ := p1.tl D hm
        rw [hD] at z
        cases z
      rintro i m H2 ⟨rfl, hle, L2, α2, acc, accV, p2, e2, hD2, hn2, ra, hal, q2⟩
      by_cases hlt : i < xs.length
      · have hdrop : xs.drop i = xs[i] :: xs.drop (i + 1) := List.drop_eq_getElem_cons hlt
        rw [hdrop] at q2
        unfold lcGoX at q2
        by_cases hs : seen w xs L2
        · rw [if_pos hs] at q2
          refine .inr ⟨jok.go i H2 α2 L2 p2 e2 hs hlt, fun H3 => ∃ m, m < xs.length - i ∧ m = xs.length - (i + 1) ∧ i + 1 ≤ xs.length ∧ ∃ L2 α2 acc accV, RHp K fa H3 α2 L2 ∧ Ext H1 α1 H3 α2 ∧ H3 D = some (.lst accV) ∧ D ∉ α2.tail ∧ RVs K fa H3 α2 acc accV ∧ acc.length ≤ i + 1 ∧
            Post K fa ca W σ ((lcGoX (fun x L => evE Φ mc (ρ.set s (some x)) L) (fun x L => evE Φ me (ρ.set s (some x)) L) w xs (xs.drop (i + 1)) L2).bind fun ys L => alloc (acc ++ ys) L) H1 α1 (fun v H1 => gName i0 v σ H1 D0.nx), fun H3 h => ?_, fun x H3 hy => ?_⟩
          · obtain ⟨m, h1, h2, h3, h4⟩ := h
            exact ⟨m, h1, h2, h3, h4⟩
          · obtain ⟨rfl, d0, hd0, rx⟩ := jok.yld i H2 α2 L2 x H3 p2 e2 hs hlt hy
            rw [List.getElem?_eq_getElem hlt] at hd0
            cases hd0
            show wipe ((wipe σ [s]).set s (some x)) [s] = wipe σ [s] ∧ _
            refine ⟨by rw [wipe1, wipe1, List.set_set, List.set_set], ?_⟩
            have re2 : REnv K fa η H3 α2 (ρ.set s (some xs[i])) ((wipe σ [s]).set s (some x)) := by
              rw [wipe1, List.set_set]
              exact (re1.ext e2 p1).set rx
            refine ⟨_, L2, α2, re2, p2, ?_⟩
            -- the test
            cases hc : evE Φ mc (ρ.set s (some xs[i])) L2 with
            | exc c L3 =>
              rw [hc] at q2
              exact q2.elim
            | bad =>
              rw [hc] at q2
              exact q2.elim
            | ok t L3 =>
              rw [hc] at q2
              cases t with
              | bl b =>
                refine ⟨b, rfl, fun H4 α4 e4 p4 => ?_⟩
                have e14 := e2.trans p1.ne e4
                obtain ⟨hn4, hD4⟩ := e4.notIn p2.ne hD2 hn2
                have ra4 := ra.ext e4 p2.tl
                cases b with
                | false =>
                  exact iteF ⟨xs.length - (i + 1), by omega, rfl, hlt, L3, α4, acc, accV, p4, e14, hD4, hn4, ra4, by omega, q2⟩
                | true =>
                  refine iteT ⟨_, L3, α4, re2.ext e4 p2, p4, ?_⟩
                  dsimp only at q2
                  cases he : evE Φ me (ρ.set s (some xs[i])) L3 with
                  | exc c L5 =>
                    rw [he] at q2
                    exact fun C H' α' hc e p => q2 C H' α' hc (e14.trans p1.ne e) p
                  | bad =>
                    rw [he] at q2
                    exact q2.elim
                  | ok y L5 =>
                    rw [he] at q2
                    intro v H5 α5 e5 p5 ry
                    obtain ⟨hn5, hD5⟩ := e5.notIn p4.ne hD4 hn4
                    have ra5 := ra4.ext e5 p4.tl
                    have hlen := ra5.length
                    -- how long the list may be
                    have q3 : Post K fa ca W σ ((lcGoX (fun x L => evE Φ mc (ρ.set s (some x)) L) (fun x L => evE Φ me (ρ.set s (some x)) L) w xs (xs.drop (i + 1)) L5).bind fun ys L => alloc (acc ++ y :: ys) L) H1 α1 (fun v H1 => gName i0 v σ H1 D0.nx) := by
                      dsimp only at q2
                      cases hg : lcGoX (fun x L => evE Φ mc (ρ.set s (some x)) L) (fun x L => evE Φ me (ρ.set s (some x)) L) w xs (xs.drop (i + 1)) L5 with
                      | ok ys L6 =>
                        rw [hg] at q2
                        exact q2
                      | exc c L6 =>
                        rw [hg] at q2
                        exact q2
                      | bad =>
                        rw [hg] at q2
                        exact q2.elim
                    have hshort : acc.length < sizeLine := limLt (by omega)
                    refine ⟨accV, hD5, by rw [← hlen]; exact hshort, ?_⟩
                    have e15 := e14.trans p1.ne e5
                    refine ⟨xs.length - (i + 1), by omega, rfl, hlt, L5, α5, acc ++ [y], accV ++ [v], p5.other hD5 hn5, e15.upd hD, upd_same, hn5, ?_, by simp; omega, ?_⟩
                    · exact (ra5.append (.cons ry .nil)).mono (fun _ _ h => h) (sqt_upd hD5)
                    · simpa using q3
              | _ => exact q2.elim
        · rw [if_neg hs] at q2
          exact q2.elim
      · have hi2 : i = xs.length := by omega
        rw [hi2, List.drop_length] at q2
        unfold lcGoX at q2
        by_cases hs : seen w xs L2
        · rw [if_pos hs, R.bind_ok, List.append_nil] at q2
          refine .inl ⟨jok.stop i H2 α2 L2 p2 e2 hs (by omega), ?_⟩
          have q3 := Post.v (alloc_calm _ _) q2
          have hl := alloc_lim q3
          unfold alloc at q3
          rw [if_pos hl] at q3
          refine q3 _ _ _ (e2.addL hD) (p2.addL hD2 hn2 ra) (.ref ?_)
          rw [← p2.len, List.getElem?_append_right (Nat.le_refl _)]
          simp
        · rw [if_neg hs] at q2
          exact q2.elim
theorem PTs.nilT {X : Cx} {K : PySem.W.Frag} {W : WX} {η : Option (Addr × Str)} (hK : X.K = K) : PTs X [] (semT K fa ca W η (evE Φ (.bl true))) := by
  refine ⟨fun pins s1 σ H1 Q I q => pts_nil.run pins s1 σ H1 Q I ?_⟩
  obtain ⟨ρ, L, α, re, rp, b, eb, q⟩ := q
  cases eb
  exact q H1 α Ext.refl rp
theorem ps_setLcX (S : Xok ct k fa ca Φ W X) {x y : Str} {px py p spos : Pos} {elt it : Expr} {ifs : List Expr} {scope : Scope} {i j : Nat} {mc : Ex} (hi : ixOf X.N x = some i) (hj : ixOf X.N y = some j) (hx : isLoc X.env.scope x = true) (hln : (px.line == p.line) = true)
    (ha : (scope.names.any fun (n, k) => n == x && (k == .local || k == .cell)) = false) (hset : noSet it = true) (hb : blkC X.N X.env.scope scope [(y, j)] = true) (hl : isLoc (relS scope X.env.scope) y = true)
    (hc : (ifs = [] ∧ mc = .bl true) ∨ ∃ c, ifs = [c] ∧ mc = compE ct.dtc X.N false DEPTH (relS scope X.env.scope) c) :
    PS X (.Assign [.Name x px] (.ListComp elt [⟨.Name y py, it, ifs, 0⟩] scope p) spos) (sS X fa ca Φ W none (.setlc i j (iterE ct.dtc X.env.scope (compE ct.dtc X.N false DEPTH X.env.scope) it) mc (compE ct.dtc X.N false DEPTH (relS scope X.env.scope) elt))) := by
  have K := S.sok
  have E := (snd_E (η := none) DEPTH false W X K.c).1
  have blk : ∀ (σ : L2.St) (s : Shared) (H : Hp) (C : Addr) (cl : List (Str × Addr)) (fp : List Addr), Cok ct.dtc k fa ca Φ false (Wat W σ) none (blkA X true W σ s H scope (compEnvC scope cl C X.env) fp) := fun σ s H C cl fp =>
    ⟨K.c.nd, fun σb => airN, fun _ σb => airD rfl, K.c.calm, K.c.room, K.c.units, K.c.gl, fun a c h => by cases h⟩
  refine ⟨fun pins s σ H D I q => ?_⟩
  have hsw := sw_true (elt := elt) (gs := [⟨.Name y py, it, ifs, 0⟩]) (scope := scope) (pos := p) (py := px) (y := x) (l := spos.line) (env := X.env) I.ok.kind (isLoc_loc hx) hln ha
  have h := lc_readX q
  rw [exec_Assign_Name_used _ _ _ _ hsw]
  apply wpAny_bind
  apply wpAny_standAt
  apply wpAny_bind
  show wpAny _ X.A (do let _ ← comprehension (.ListComp elt [⟨.Name y py, it, ifs, 0⟩] scope p) scope X.env (firstIterPos [⟨.Name y py, it, ifs, 0⟩] p) (newList []) false (eval it X.env) (some (assign (.Name x px) X.env))) _ _ s
  apply wpAny_bind
  refine thn (lc_air (dty := true) (W := W) (own := [(y, j)]) (Qf := fun _ t => SP X pins D .next t) (K.c.calm rfl) K.c.nd I S.stk S.frm (takesLN S.tk) (fun _ => S.tk) (pi_iterE K.c E it) (blkOk_by hb) (fun s H C cl fp => ?_) (fun s H C cl fp => ?_) (fun s H C cl fp => ?_) (fold_ok hset) h (fun L C t m H' I' q2 hn f => ?_)) fun _ t hq => wpAny_pure (wpAny_pure hq)
  · exact pg_name (X := blkA X true W σ s H scope (compEnvC scope cl C X.env) fp) K.c.nd (ixOf_get hj) (.inl (isLoc_loc hl)) (.inr (isLoc_loc hl))
  · rcases hc with ⟨rfl, rfl⟩ | ⟨c, rfl, rfl⟩
    · exact PTs.nilT rfl
    · exact pts_one ((snd_E DEPTH false _ _ (blk σ s H C cl fp)).2 c)
  · exact (snd_E DEPTH false _ _ (blk σ s H C cl fp)).1 elt
  · show wpAny _ _ (assign (.Name x px) X.env (.ref L)) _ _ _
    obtain ⟨f0, f1, f2, f3, f4, f5⟩ := f
    refine wpAny_assign_Name (store_ok2 (v := V.ref L) I' K.c.nd (ixOf_get hi) (.inl (isLoc_loc hx)) rfl (fun t2 I2 z => ?_) (.inr (isLoc_loc hx)))
    obtain ⟨a, sb, za⟩ := z
    have hne : C ≠ a := fun e => za.elim (fun z => f1 (e.trans z)) fun z => f4 x a z e.symm
    exact ⟨m, hn.sameBut sb hne, fun g sb2 => ⟨_, H', I2.turned (t' := t2.toks) (fun b o hb e => (sb2.2 b hb).trans e) f0 f1 f3 f4 f5, q2⟩⟩
def suX (X : Cx) (fa ca : Str → Option Addr) (W : WX) (r : Sm) (Φ : Str → List D → Hd → R D) : Addr → Value → Option Addr → TS := fun a cls d D σ H => ∃ c C, cls = .ref C ∧ d = none ∧ ca c = some C ∧ semS X.K fa ca W none (run Φ r) D σ H
theorem compX_sem (S : Xok ct k fa ca Φ W X) : ∀ s, PS X s (sS X fa ca Φ W none (compX ct X.N X.env.scope s)) := fun s => by
  unfold compX
  split
  · rename_i b c np e rp p pos
    split
    · rename_i h
      obtain ⟨hg, ho, hc, hv⟩ := h
      split
      · rename_i dd hdd
        obtain ⟨Cc, hCv, hN⟩ := names_of S.sok hg ho hc hv
        refine psImp (L2H.ps_try_onlyX (ts := suX X fa ca W (raiseE ct.cln X.env.scope e) Φ) (tb := fun W' => sS X fa ca Φ W' none (compB (compS ct.cln X.N false DEPTH X.env.scope) b)) S.stk S.frm hN S.pa S.tk (fun W' pn xe tk _ po => pss_sem (snd_S DEPTH false W' none (X.tr pn xe) (S.body tk po))) (fun a oe cls d pn hz hf tkS hot => ⟨fun pins s σ H D I q => ?_⟩)) fun D σ H q => ?_
        · obtain ⟨c', C', rfl, rfl, hc', q⟩ := q
          have R := ps_raiseX (ct := ct.cln) (k := k) (fa := fa) (ca := ca) (Φ := Φ) (X0 := L2H.suiteX X a ((a, oe) :: pn)) S.gl.cln hot tkS (e := e) (pos := rp)
          refine (pssImp (pss_cons R pss_nil) fun D σ H q => ?_).run pins s σ H D I q
          obtain ⟨ρ, L, α, re, rp, q⟩ := q
          refine ⟨ρ, L, α, re, rp, ?_⟩
          rw [hdd] at q ⊢
          exact q
        · obtain ⟨ρ, L, α, re, rp, q⟩ := q
          refine ⟨ρ, L, α, re, rp, ?_⟩
          unfold run at q
          cases hr : run Φ (compB (compS ct.cln X.N false DEPTH X.env.scope) b) ρ L with
          | ex c' ρ' L' =>
            rw [hr] at q
            intro C' σ' H' α' hc' e' re' rp'
            obtain ⟨u, hu, _, hx⟩ := S.gl.kit c' C' c hc' (.inl hc)
            rw [hCv] at hu
            cases hu
            refine ⟨_, hx, fun hs a na => ?_, fun hs => ?_⟩
            · dsimp only at q
              rw [if_pos hs] at q
              refine ⟨c', C', rfl, rfl, hc', ρ', L', α', re', rp', ?_⟩
              rw [hdd]
              exact PostS.from rp.ne e' q
            · dsimp only at q
              rw [if_neg (by rw [hs]; exact Bool.false_ne_true)] at q
              exact q C' σ' H' α' hc' e' re' rp'
          | _ =>
            rw [hr] at q
            exact q
      · exact ps_bad rfl
    · exact ps_bad rfl
  · rename_i x px elt y py it ifs scope p spos
    split
    · rename_i h
      obtain ⟨h1, h2, h3, h4, h5⟩ := h
      split
      · rename_i i j hi hj
        split
        · rename_i h
          obtain ⟨hb, hl⟩ := h
          split
          · exact ps_setLcX S hi hj h2 h3 h4 h5 hb hl (.inl ⟨rfl, rfl⟩)
          · exact ps_setLcX S hi hj h2 h3 h4 h5 hb hl (.inr ⟨_, rfl, rfl⟩)
          · exact ps_bad rfl
        · exact ps_bad rfl
      · exact ps_bad rfl
    · exact ps_bad rfl
  · exact snd_S DEPTH false W none X S.sok _
/-! ### where an exception is handled -/
structure Hok (ct : CT) (k : Nat) (fa ca : Str → Option Addr) (Φ : Str → List D → Hd → R D) (W : WX) (X : Cx) : Prop where
  c : Cok ct k fa ca Φ true W none X
  tk : Takes X W
  hc : L2H.HotC X
  hr : L2H.RoomH k X.A
  po : PassesOwn (model X.prog X.w) X.A X.env X.xe
  stk : X.stack = X.env :: X.outer
  frm : X.env.frame = some X.env.locals
  fnm : ∀ x, X.fn x = true
theorem Hok.tr (S : Hok ct k fa ca Φ W X) {pn : List (Addr × Obj)} {xe : Value → Shared → Prop} {W' : WX} (hpn : ∀ q ∈ X.pn, q ∈ pn) (tk : Takes (X.tr pn xe) W') (po : PassesOwn (model X.prog X.w) X.A X.env xe) : Hok ct k fa ca Φ W' (X.tr pn xe) := by
  obtain ⟨p, h1, h2⟩ := S.hc
  exact ⟨⟨S.c.nd, fun σ => L2N.passAt (takesLN tk) σ, fun _ σ => passAt tk σ, fun h => absurd h (by decide), fun h => absurd h (by decide), S.c.units, S.c.gl, fun a c h => by cases h⟩, tk, ⟨p, h1, hpn _ h2⟩, S.hr, po, S.stk, S.frm, S.fnm⟩
theorem Hok.su (S : Hok ct k fa ca Φ W X) {a : Addr} {oe : Obj} {C : Addr} {c : Str} {pn : List (Addr × Obj)} (hc : ca c = some C) (hz : Zc (.ref C) none oe) (hf : ∃ vs, oe.data = .fields vs) :
    Sok ct k fa ca Φ true W0 (some (a, c)) (X.suite a ((a, oe) :: pn)) :=
  ⟨⟨S.c.nd, fun σ => L2N.passAt takesN0 σ, fun _ σ => passAt takes0L σ, fun h => absurd h (by decide), fun h => absurd h (by decide), S.c.units, S.c.gl, fun a' c' h => by
    cases h
    exact ⟨rfl, C, hc, call_isE (S.c.gl.rs c C hc).2.2.2.2.2 hz hf⟩⟩, takesN0, fun _ => takes0L, PassesOwn.never, S.stk, S.frm, S.fnm⟩
theorem ps_tryAH (S : Hok ct k fa ca Φ W X) {b : List Stmt} {s0 : Stmt} {su : List Stmt} {c n : Str} {i : Nat} {np p pos : Pos} {mb mh : Sm} (hg : isGl X.env.scope c = true) (ho : odd c = false) (hc : ct.cls.contains c = true) (hv : c ≠ "ValueError")
    (hi : X.N[i]? = some n) (hl : isLoc X.env.scope n = true)
    (ihb : ∀ (W : WX) (pn : List (Addr × Obj)) (xe : Value → Shared → Prop), Hok ct k fa ca Φ W (X.tr pn xe) → PSs (X.tr pn xe) b (sS X fa ca Φ W none mb))
    (ihs : ∀ (a : Addr) (oe : Obj) (pn : List (Addr × Obj)) (c : Str), Sok ct k fa ca Φ true W0 (some (a, c)) (X.suite a ((a, oe) :: pn)) → PSs (X.suite a ((a, oe) :: pn)) (s0 :: su) (sS X fa ca Φ W0 (some (a, c)) mh)) :
    PS X (.Try b [.ExceptHandler (some (.Name c np)) (some n) (s0 :: su) p] [] [] pos) (sS X fa ca Φ W none (.try_ mb c (some i) mh)) := by
  obtain ⟨Cc, hC⟩ := S.c.gl.cl c hc
  have hCv : clsV X.mg c = some (.ref Cc) := by
    unfold clsV
    rw [if_neg hv]
    exact hC
  have hN : Names X c (.ref Cc) := ⟨isGl_gl hg, odd_d ho, .inl hC⟩
  refine psImp (L2H.ps_try_asH (ts := suA X fa ca Φ mh) S.stk S.frm S.c.nd hi (isLoc_loc hl) hN S.tk (fun W' pn xe hpn tk po => ihb W' pn xe (S.tr hpn tk po)) (fun a oe cls d pn hz hf => ⟨fun pins s σ H D I q => ?_⟩)) fun D σ H q => ?_
  · obtain ⟨c', C', rfl, rfl, hc', q⟩ := q
    exact (ihs a oe pn c' (S.su hc' hz hf)).run pins s σ H D I q
  · obtain ⟨ρ, L, α, re, rp, q⟩ := q
    refine ⟨ρ, L, α, re, rp, ?_⟩
    unfold run at q
    cases hr : run Φ mb ρ L with
    | ex c' ρ' L' =>
      rw [hr] at q
      intro C' σ' H' α' hc' e re' rp'
      obtain ⟨u, hu, _, hx⟩ := S.c.gl.kit c' C' c hc' (.inl hc)
      rw [hCv] at hu
      cases hu
      refine ⟨_, hx, fun hs a na => ?_, fun hs => ?_⟩
      · dsimp only at q
        rw [if_pos hs] at q
        refine ⟨c', C', rfl, rfl, hc', ρ'.set i (some (.exc c')), L', α', re'.setExc, rp', ?_⟩
        have q' := PostS.from rp.ne e q
        cases hr2 : run Φ mh (ρ'.set i (some (.exc c'))) L' with
        | rt d2 L2 =>
          rw [hr2] at q'
          exact q'
        | _ =>
          rw [hr2] at q'
          exact q'.elim
      · dsimp only at q
        rw [if_neg (by rw [hs]; exact Bool.false_ne_true)] at q
        exact q C' σ' H' α' hc' e re' rp'
    | _ =>
      rw [hr] at q
      exact q
theorem ps_raiseHS (S : Hok ct k fa ca Φ W X) {e : Expr} {pos : Pos} : PS X (.Raise (some e) none pos) (sS X fa ca Φ W none (raiseE ct X.env.scope e)) := by
  unfold raiseE
  split
  · rename_i c pc m j pm p
    split
    · rename_i h
      obtain ⟨h1, h2, h3⟩ := h
      obtain ⟨C, hC⟩ := S.c.gl.rsd c h3
      obtain ⟨g, xI, kp, bI, tI, _⟩ := S.c.gl.rs c C hC
      refine psImp (L2H.ps_raiseH S.hc S.tk (L2N.pmk_own PySem.F.excBase_ValueError xI g kp (raises_own bI tI) (isGl_gl h1) (odd_d h2))) fun D σ H q => ?_
      obtain ⟨ρ, L, α, re, rp, q⟩ := q
      exact q C σ H α hC Ext.refl re rp
    · exact ps_bad rfl
  · exact ps_bad rfl
theorem pe_hot (S : Hok ct k fa ca Φ W X) (e : Expr) : PE X e (sE X fa ca Φ W none (hotE ct X.N X.env.scope e)) := by
  have E := (snd_E (η := none) DEPTH true W X S.c).1
  unfold hotE
  split
  · split
    · rename_i h
      obtain ⟨h1, h2, h3, h4, h5⟩ := h
      exact pe_callHS S.c S.tk S.hc S.hr E h2 h1 h3 h4 h5
    · exact E _
  · exact E _
theorem pt_hot (S : Hok ct k fa ca Φ W X) (e : Expr) : PT X e (sT X fa ca Φ W none (hotT ct X.N X.env.scope e)) := by
  have E := (snd_E (η := none) DEPTH true W X S.c).1
  have T := (snd_E (η := none) DEPTH true W X S.c).2
  unfold hotT
  split
  · split
    · rename_i h
      obtain ⟨h1, h2, h3, h4, h5⟩ := h
      refine ptImp (pt_not (pt_other (pe_callHS S.c S.tk S.hc S.hr E h2 h1 h3 h4 h5) (fun _ => rfl))) fun σ H Q q => ?_
      obtain ⟨ρ, L, α, re, rp, q⟩ := q
      refine ⟨ρ, L, α, re, rp, PostT.test rp.ne q (fun L1 H1 α1 e0 e1 p1 q1 => ?_) fun L1 H1 α1 e0 e1 p1 q1 => ?_⟩
      · obtain ⟨b, eb, q1⟩ := q1
        cases eb
        exact q1 H1 α1 Ext.refl p1
      · obtain ⟨b, eb, q1⟩ := q1
        cases eb
        exact q1 H1 α1 Ext.refl p1
    · exact T _
  · exact T _
theorem snd_H : ∀ (n : Nat) (W : WX) (X : Cx), Hok ct k fa ca Φ W X → ∀ s, PS X s (sS X fa ca Φ W none (compH ct X.N n X.env.scope s))
  | 0, W, X, S, s => ps_bad rfl
  | n + 1, W, X, S, s => by
    have B : ∀ ss, PSs X ss (sS X fa ca Φ W none (compB (compH ct X.N n X.env.scope) ss)) := fun ss => pss_sem (snd_H n W X S)
    unfold compH
    split
    · split
      · rename_i hn
        refine psImp (ps_expr (pe_hot S _) (swaps_no hn)) fun D σ H q => ?_
        obtain ⟨ρ, L, α, re, rp, q⟩ := q
        unfold run at q
        exact ⟨ρ, L, α, re, rp, PostS.val re rp q fun d L1 v H1 α1 e0 e1 p1 r1 q1 => q1 σ H1 α1 Ext.refl (re.ext e1 rp) p1⟩
      · exact ps_bad rfl
    · split
      · refine psImp (ps_ret (pe_hot S _)) fun D σ H q => ?_
        obtain ⟨ρ, L, α, re, rp, q⟩ := q
        unfold run at q
        exact ⟨ρ, L, α, re, rp, PostS.val re rp q fun d L1 v H1 α1 e0 e1 p1 r1 q1 => q1 _ H1 α1 Ext.refl p1 r1⟩
      · exact psImp ps_retN fun D σ H q => by
          obtain ⟨ρ, L, α, re, rp, q⟩ := q
          exact q _ H α Ext.refl rp .non
    · refine psImp (ps_if (pt_hot S _) (B _) (B _)) fun D σ H q => ?_
      obtain ⟨ρ, L, α, re, rp, q⟩ := q
      refine ⟨ρ, L, α, re, rp, PostS.test re rp q (fun L1 H1 α1 e1 p1 q1 => ?_) fun L1 H1 α1 e1 p1 q1 => ?_⟩
      · rw [if_pos rfl]
        exact ⟨ρ, L1, α1, re.ext e1 rp, p1, q1⟩
      · rw [if_neg Bool.false_ne_true]
        exact ⟨ρ, L1, α1, re.ext e1 rp, p1, q1⟩
    · split
      · exact ps_raiseHS S
      · exact ps_bad rfl
    · split
      · rename_i h
        obtain ⟨⟨h4, h5, h6, h7⟩, h8, h9⟩ := h
        split
        · rename_i i hi
          exact ps_tryAH S h4 h5 h6 h7 (ixOf_get hi) h9 (fun W' pn xe S' => pss_sem (snd_H n W' (X.tr pn xe) S')) fun a oe pn c S' => pss_sem (snd_S n true W0 (some (a, c)) _ S')
        · exact ps_bad rfl
      · exact ps_bad rfl
    · exact ps_bad rfl
end

/-! ### defs -/
section
variable {P : Program} {w : World} {K : PySem.W.Frag} {mg : Str → Option Value} {base : Heap} {ct : CT} {k : Nat} {fa ca : Str → Option Addr} {Φ : Str → List D → Hd → R D}
theorem env_start {H : Hp} {α : List Addr} {N : List Str} {ds : List D} {vs : List V} (r : RVs K fa H α ds vs) : REnv K fa none H α (ds.map some ++ List.replicate (N.length - ds.length) none) (start N vs) := by
  have hl := r.length
  unfold L2.start
  have get : ∀ {i : Nat} {d : D}, (ds.map some ++ List.replicate (N.length - ds.length) none)[i]? = some (some d) → ds[i]? = some d := fun {i d} h => by
    by_cases hi : i < ds.length
    · rw [List.getElem?_append_left (by simpa using hi), List.getElem?_map] at h
      cases q : ds[i]? with
      | none =>
        rw [q] at h
        cases h
      | some e =>
        rw [q] at h
        cases h
        rfl
    · rw [List.getElem?_append_right (by simpa using hi), List.getElem?_replicate] at h
      split at h <;> cases h
  refine ⟨by simp [hl], fun i d h _ => ?_, fun i c h => ?_⟩
  · obtain ⟨v, hv, rv⟩ := r.get (get h)
    refine ⟨v, ?_, rv⟩
    have hi : i < vs.length := (List.getElem?_eq_some_iff.mp hv).1
    rw [List.getElem?_append_left (by simpa using hi), List.getElem?_map, hv]
    rfl
  · obtain ⟨v, hv, rv⟩ := r.get (get h)
    cases rv
theorem okN {CX : CXT} {x qual : Str} {st : Stmt} {f : Addr} {fd : FuncData} {N ps : List Str} {k : Nat} {sp : Sp} (F : Fun K x qual st f fd) (S : FnScope N ps (defScope st)) (len : ∀ vs H Q E, sp vs H Q E → vs.length = ps.length)
    (hbody : ∀ (cdv : Value) (A : Around) (outer : List PySem.Env) (s : Shared) (H : Hp) (vs : List V) (Q : VK) (E : XK), Room k (A.deeper (envOfC qual (defScope st) s.heap.objs.size f cdv)) → sp vs H Q E →
      ∃ t, PSs (cxOf CX P w K mg base N qual (defScope st) f cdv A outer s H E) (defBody st) t ∧ t { nx := fun _ H' => Q .non H', rt := Q } (start N vs) H) : FnOk P w K mg base CX (k + 1) f fd ps sp := by
  obtain ⟨oc, od, kV, doc, pm, an, cdv, ct, osl, rfl, lk, hcd⟩ := F.ex
  exact fn_of lk hcd S len fun A outer s H vs Q E hr hsp => hbody cdv A outer s H vs Q E hr hsp
theorem fn_ok (hd : ct.dty = false) (G : Glb ct P w K mg base k fa ca Φ) {x qual : Str} {st : Stmt} {f : Addr} {fdt : FuncData} {N ps : List Str} {fd : Fd} (F : Fun K x qual st f fdt) (S : FnScope N ps (defScope st)) (h1 : fd.np = ps.length) (h2 : fd.n = N.length)
    (h3 : fd.body = compD ct N (defScope st) (defBody st)) : FnOk P w K mg base (L2N.CX P w) (k + 1) f fdt ps (spF K fa ca ps.length (runF Φ fd)) := by
  refine okN F S (fun vs H Q E h => ?_) (fun cdv A outer s H vs Q E hr h => ?_)
  · obtain ⟨ds, L, α, hl, r, _⟩ := h
    rw [← r.length, hl]
  · obtain ⟨ds, L, α, hl, r, rp, q⟩ := h
    have hS : Sok ct k fa ca Φ false (fun cls d _ H => E cls d H) none (cxOf (L2N.CX P w) P w K mg base N qual (defScope st) f cdv A outer s H E) :=
      ⟨⟨S.nd, fun σ => L2N.passAt (L2N.takes_of rfl rfl rfl rfl) σ, fun h => absurd (hd.symm.trans h) Bool.false_ne_true, fun _ => rfl, fun _ => hr, hr.units, G, fun a c h => by cases h⟩, L2N.takes_of rfl rfl rfl rfl, fun h => absurd (hd.symm.trans h) Bool.false_ne_true, passes_of rfl, rfl, rfl, fun _ => rfl⟩
    refine ⟨_, compD_sem hS _, ds.map some ++ List.replicate (N.length - ds.length) none, L, α, env_start r, rp, ?_⟩
    unfold runF at q
    rw [if_pos (hl.trans h1.symm), h2, h3] at q
    show PostS K fa ca _ none (run Φ (compD ct N (defScope st) (defBody st)) (ds.map some ++ List.replicate (N.length - ds.length) none) L) H α _
    cases hr2 : run Φ (compD ct N (defScope st) (defBody st)) (ds.map some ++ List.replicate (N.length - ds.length) none) L with
    | nx ρ' L' =>
      rw [hr2] at q
      exact fun σ' H' α' e _ rp' => q _ H' α' e rp' .non
    | rt d L' =>
      rw [hr2] at q
      exact q
    | ex c ρ' L' =>
      rw [hr2] at q
      exact fun C σ' H' α' hc e _ rp' => q C H' α' hc e rp'
    | bk ρ' L' =>
      rw [hr2] at q
      exact q.elim
    | ct ρ' L' =>
      rw [hr2] at q
      exact q.elim
    | bad =>
      rw [hr2] at q
      exact q.elim
theorem fn_okD (G : Glb ct P w K mg base k fa ca Φ) {x qual : Str} {st : Stmt} {f : Addr} {fdt : FuncData} {N ps : List Str} {fd : Fd} (F : Fun K x qual st f fdt) (S : FnScope N ps (defScope st)) (h1 : fd.np = ps.length) (h2 : fd.n = N.length)
    (h3 : fd.body = compB (compX ct N (defScope st)) (defBody st)) : FnOk P w K mg base (L2.CX P w) (k + 1) f fdt ps (spF K fa ca ps.length (runF Φ fd)) := by
  refine okN F S (fun vs H Q E h => ?_) (fun cdv A outer s H vs Q E hr h => ?_)
  · obtain ⟨ds, L, α, hl, r, _⟩ := h
    rw [← r.length, hl]
  · obtain ⟨ds, L, α, hl, r, rp, q⟩ := h
    have hS : Xok ct k fa ca Φ (fun cls d _ H => E cls d H) (cxOf (L2.CX P w) P w K mg base N qual (defScope st) f cdv A outer s H E) :=
      ⟨S.nd, takes_of rfl rfl rfl rfl, rfl, hr, hr.units, G, passes_of rfl, L2H.passesAt_of rfl, rfl, rfl, fun _ => rfl⟩
    refine ⟨_, pss_sem (compX_sem hS), ds.map some ++ List.replicate (N.length - ds.length) none, L, α, env_start r, rp, ?_⟩
    unfold runF at q
    rw [if_pos (hl.trans h1.symm), h2, h3] at q
    show PostS K fa ca _ none (run Φ (compB (compX ct N (defScope st)) (defBody st)) (ds.map some ++ List.replicate (N.length - ds.length) none) L) H α _
    cases hr2 : run Φ (compB (compX ct N (defScope st)) (defBody st)) (ds.map some ++ List.replicate (N.length - ds.length) none) L with
    | nx ρ' L' =>
      rw [hr2] at q
      exact fun σ' H' α' e _ rp' => q _ H' α' e rp' .non
    | rt d L' =>
      rw [hr2] at q
      exact q
    | ex c ρ' L' =>
      rw [hr2] at q
      exact fun C σ' H' α' hc e _ rp' => q C H' α' hc e rp'
    | bk ρ' L' =>
      rw [hr2] at q
      exact q.elim
    | ct ρ' L' =>
      rw [hr2] at q
      exact q.elim
    | bad =>
      rw [hr2] at q
      exact q.elim
theorem okH {CX : CXT} {x qual : Str} {st : Stmt} {f : Addr} {fd : FuncData} {N ps : List Str} {k : Nat} {sp : Sp} (F : Fun K x qual st f fd) (S : FnScope N ps (defScope st)) (len : ∀ vs H Q E, sp vs H Q E → vs.length = ps.length)
    (hbody : ∀ (cdv : Value) (A : Around) (outer : List PySem.Env) (s : Shared) (H : Hp) (vs : List V) (Q : VK) (E : XK) (p : Addr × Obj), L2H.Hot1 A p → L2H.RoomH k (A.deeper (envOfC qual (defScope st) s.heap.objs.size f cdv)) → sp vs H Q E →
      ∃ t, PSs (L2H.cxH CX P w K mg base N qual (defScope st) f cdv A outer s H E p) (defBody st) t ∧ t { nx := fun _ H' => Q .non H', rt := Q } (start N vs) H) : L2H.FnH P w K mg base CX (k + 1) f fd ps sp := by
  obtain ⟨oc, od, kV, doc, pm, an, cdv, ct, osl, rfl, lk, hcd⟩ := F.ex
  exact L2H.fn_ofH lk hcd S len fun A outer s H vs Q E p hot hr hsp => hbody cdv A outer s H vs Q E p hot hr hsp
theorem fn_okH (G : Glb ct P w K mg base k fa ca Φ) {x qual : Str} {st : Stmt} {f : Addr} {fdt : FuncData} {N ps : List Str} {fd : Fd} (F : Fun K x qual st f fdt) (S : FnScope N ps (defScope st)) (h1 : fd.np = ps.length) (h2 : fd.n = N.length)
    (h3 : fd.body = compB (compH ct N DEPTH (defScope st)) (defBody st)) : L2H.FnH P w K mg base (L2.CX P w) (k + 1) f fdt ps (spF K fa ca ps.length (runF Φ fd)) := by
  refine okH F S (fun vs H Q E h => ?_) (fun cdv A outer s H vs Q E p hot hr h => ?_)
  · obtain ⟨ds, L, α, hl, r, _⟩ := h
    rw [← r.length, hl]
  · obtain ⟨ds, L, α, hl, r, rp, q⟩ := h
    have un := hr.un
    have hS : Hok ct k fa ca Φ (fun cls d _ H => E cls d H) (L2H.cxH (L2.CX P w) P w K mg base N qual (defScope st) f cdv A outer s H E p) :=
      ⟨⟨S.nd, fun σ => L2N.passAt (takesLN (takes_of rfl rfl rfl rfl)) σ, fun _ σ => passAt (takes_of rfl rfl rfl rfl) σ, fun h => absurd h (by decide), fun h => absurd h (by decide), by show (A.deeper (envOfC qual (defScope st) s.heap.objs.size f cdv)).units + 64 < cLine; omega, G, fun a c h => by cases h⟩, takes_of rfl rfl rfl rfl, ⟨p, hot, List.mem_singleton.mpr rfl⟩, hr, passes_of rfl, rfl, rfl, fun _ => rfl⟩
    refine ⟨_, pss_sem (snd_H DEPTH _ _ hS), ds.map some ++ List.replicate (N.length - ds.length) none, L, α, env_start r, rp, ?_⟩
    unfold runF at q
    rw [if_pos (hl.trans h1.symm), h2, h3] at q
    show PostS K fa ca _ none (run Φ (compB (compH ct N DEPTH (defScope st)) (defBody st)) (ds.map some ++ List.replicate (N.length - ds.length) none) L) H α _
    cases hr2 : run Φ (compB (compH ct N DEPTH (defScope st)) (defBody st)) (ds.map some ++ List.replicate (N.length - ds.length) none) L with
    | nx ρ' L' =>
      rw [hr2] at q
      exact fun σ' H' α' e _ rp' => q _ H' α' e rp' .non
    | rt d L' =>
      rw [hr2] at q
      exact q
    | ex c ρ' L' =>
      rw [hr2] at q
      exact fun C σ' H' α' hc e _ rp' => q C H' α' hc e rp'
    | bk ρ' L' =>
      rw [hr2] at q
      exact q.elim
    | ct ρ' L' =>
      rw [hr2] at q
      exact q.elim
    | bad =>
      rw [hr2] at q
      exact q.elim
end

/-! ### a program -/
/-- where the text's names stand, by the written part -/
def faOf (ct : CT) (K : PySem.W.Frag) : Str → Option Addr := fun f => if ct.fns.contains f = true then (match PySem.W.nsIn K mainGlobals f with
  | some (some (.ref a)) => some a
  | _ => none) else none
def caOf (ct : CT) (K : PySem.W.Frag) : Str → Option Addr := fun f => if ct.rs.contains f = true then (match PySem.W.nsIn K mainGlobals f with
  | some (some (.ref a)) => some a
  | _ => none) else none
/-- a def of the program -/
structure DefK (ct : CT) (K : PySem.W.Frag) (T : Str → Option Fd) (x : Str) : Prop where
  ex : ∃ (ad : Addr) (fdt : FuncData) (N ps : List Str) (st : Stmt) (fd : Fd), PySem.W.nsIn K mainGlobals x = some (some (.ref ad)) ∧ Fun K x x st ad fdt ∧ Binds K fdt ps [] ∧ FnScope N ps (defScope st) ∧ T x = some fd ∧ fd.np = ps.length ∧ fd.n = N.length ∧
    fd.body = compD ct N (defScope st) (defBody st)
theorem defK_mk {ct : CT} {K : PySem.W.Frag} {T : Str → Option Fd} {x : Str} {st : Stmt} {N ps : List Str} {fd : Fd} {ad : Addr} {oc : Value} {od an : Option Addr} {osl : Array (Option Value)} {kV doc pm cdv ct' : Value}
    (S : FnScope N ps (defScope st)) (hT : T x = some fd) (h1 : fd.np = ps.length) (h2 : fd.n = N.length) (h3 : fd.body = compD ct N (defScope st) (defBody st))
    (hb : ∀ (kV doc pm : Value) (an : Option Addr) (cdv ct : Value) (us : List Value), us.length = ps.length → bindArgs (PySem.W.fnOf x x (defArgs st) (defBody st) (defScope st) .none kV doc pm an cdv ct) ⟨us, []⟩ = pure (ps.zip us))
    (a : PySem.W.nsIn K mainGlobals x = some (some (.ref ad))) (l : K.lookup ad = some ⟨oc, od, .func (PySem.W.fnOf x x (defArgs st) (defBody st) (defScope st) .none kV doc pm an cdv ct'), osl⟩) (c : PySem.W.codeIn K cdv x = true) (kp : PySem.W.keepIn K (.ref ad) = true) : DefK ct K T x := by
  have F := fun_mk (st := st) l c kp
  exact ⟨ad, _, N, ps, st, fd, a, F, F.binds hb, S, hT, h1, h2, h3⟩
/-- a def of the program that may tell an exception with a context -/
structure DefX (ct : CT) (K : PySem.W.Frag) (T : Str → Option Fd) (x : Str) : Prop where
  ex : ∃ (ad : Addr) (fdt : FuncData) (N ps : List Str) (st : Stmt) (fd : Fd), PySem.W.nsIn K mainGlobals x = some (some (.ref ad)) ∧ Fun K x x st ad fdt ∧ Binds K fdt ps [] ∧ FnScope N ps (defScope st) ∧ T x = some fd ∧ fd.np = ps.length ∧ fd.n = N.length ∧
    fd.body = compB (compX ct N (defScope st)) (defBody st)
theorem defX_mk {ct : CT} {K : PySem.W.Frag} {T : Str → Option Fd} {x : Str} {st : Stmt} {N ps : List Str} {fd : Fd} {ad : Addr} {oc : Value} {od an : Option Addr} {osl : Array (Option Value)} {kV doc pm cdv ct' : Value}
    (S : FnScope N ps (defScope st)) (hT : T x = some fd) (h1 : fd.np = ps.length) (h2 : fd.n = N.length) (h3 : fd.body = compB (compX ct N (defScope st)) (defBody st))
    (hb : ∀ (kV doc pm : Value) (an : Option Addr) (cdv ct : Value) (us : List Value), us.length = ps.length → bindArgs (PySem.W.fnOf x x (defArgs st) (defBody st) (defScope st) .none kV doc pm an cdv ct) ⟨us, []⟩ = pure (ps.zip us))
    (a : PySem.W.nsIn K mainGlobals x = some (some (.ref ad))) (l : K.lookup ad = some ⟨oc, od, .func (PySem.W.fnOf x x (defArgs st) (defBody st) (defScope st) .none kV doc pm an cdv ct'), osl⟩) (c : PySem.W.codeIn K cdv x = true) (kp : PySem.W.keepIn K (.ref ad) = true) : DefX ct K T x := by
  have F := fun_mk (st := st) l c kp
  exact ⟨ad, _, N, ps, st, fd, a, F, F.binds hb, S, hT, h1, h2, h3⟩
/-- a def of the program, where an exception is handled -/
structure DefH (ct : CT) (K : PySem.W.Frag) (T : Str → Option Fd) (x : Str) : Prop where
  ex : ∃ (ad : Addr) (fdt : FuncData) (N ps : List Str) (st : Stmt) (fd : Fd), PySem.W.nsIn K mainGlobals x = some (some (.ref ad)) ∧ Fun K x x st ad fdt ∧ Binds K fdt ps [] ∧ FnScope N ps (defScope st) ∧ T (hotn x) = some fd ∧ fd.np = ps.length ∧ fd.n = N.length ∧
    fd.body = compB (compH ct N DEPTH (defScope st)) (defBody st)
theorem defH_mk {ct : CT} {K : PySem.W.Frag} {T : Str → Option Fd} {x : Str} {st : Stmt} {N ps : List Str} {fd : Fd} {ad : Addr} {oc : Value} {od an : Option Addr} {osl : Array (Option Value)} {kV doc pm cdv ct' : Value}
    (S : FnScope N ps (defScope st)) (hT : T (hotn x) = some fd) (h1 : fd.np = ps.length) (h2 : fd.n = N.length) (h3 : fd.body = compB (compH ct N DEPTH (defScope st)) (defBody st))
    (hb : ∀ (kV doc pm : Value) (an : Option Addr) (cdv ct : Value) (us : List Value), us.length = ps.length → bindArgs (PySem.W.fnOf x x (defArgs st) (defBody st) (defScope st) .none kV doc pm an cdv ct) ⟨us, []⟩ = pure (ps.zip us))
    (a : PySem.W.nsIn K mainGlobals x = some (some (.ref ad))) (l : K.lookup ad = some ⟨oc, od, .func (PySem.W.fnOf x x (defArgs st) (defBody st) (defScope st) .none kV doc pm an cdv ct'), osl⟩) (c : PySem.W.codeIn K cdv x = true) (kp : PySem.W.keepIn K (.ref ad) = true) : DefH ct K T x := by
  have F := fun_mk (st := st) l c kp
  exact ⟨ad, _, N, ps, st, fd, a, F, F.binds hb, S, hT, h1, h2, h3⟩
/-- a constant of the program -/
structure CoK (ct : CT) (K : PySem.W.Frag) (fa : Str → Option Addr) (x : Str) (e : Ex) : Prop where
  ex : ∃ d u v, lit e = some d ∧ PySem.W.nsIn K mainGlobals x = some (some u) ∧ RelV v u ∧ ∀ H α, RV K fa H α d v
theorem co_pair {ct : CT} {K : PySem.W.Frag} {fa : Str → Option Addr} {x : Str} {i j : Int} {a : Addr} {od : Option Addr} {t1 t2} {n : Nat} {osl : Array (Option Value)} (hn : PySem.W.nsIn K mainGlobals x = some (some (.ref a))) (hl : K.lookup a = some ⟨.type "tuple", od, .seq #[.int i t1, .int j t2] n, osl⟩) : CoK ct K fa x (.tup (.cons (.int i) (.cons (.int j) .nil))) := by
  refine ⟨.tup [.int i, .int j], .ref a, .ref a, rfl, hn, rfl, fun H α => ?_⟩
  refine .tup (vs := [.int i, .int j]) (.inr ⟨_, _, _, hl, rfl, rfl, ?_, ?_⟩) (.cons (.int i) (.cons (.int j) .nil))
  · show 2 ≤ _
    decide
  · exact .cons ⟨_, rfl⟩ (.cons ⟨_, rfl⟩ .nil)
/-- a class that is raised -/
structure RsK (K : PySem.W.Frag) (c : Str) (C : Addr) : Prop where
  ns : PySem.W.nsIn K mainGlobals c = some (some (.ref C))
  ex : PySem.W.excIn K C [.type "ValueError", .type "Exception", .type "BaseException", .type "object"] "ValueError.__new__" = true
  kp : PySem.W.keepIn K (.ref C) = true
  sb : PySem.W.subIn K (.ref C) (.type "BaseException") = some true
  ty : PySem.W.typeIn K (.ref C) = some (.type "type")
  ec : ExcC K C
def clsK (K : PySem.W.Frag) (c : Str) : Option Value := if c = "ValueError" then some (.type "ValueError") else match PySem.W.nsIn K mainGlobals c with
  | some v => v
  | none => none
theorem kit_own {K : PySem.W.Frag} {c c' : Str} {C U : Addr} {b : Bool} {x} (a : PySem.W.nsIn K mainGlobals c = some (some (.ref C))) (a' : PySem.W.nsIn K mainGlobals c' = some (some (.ref U))) (hv : c' ≠ "ValueError") (hb : b = isSub c c') (h1 : PySem.W.clsIn K U = some x) (h2 : PySem.W.typeIn K (.ref U) = some (.type "type")) (h3 : PySem.W.subIn K (.ref C) (.ref U) = some b) (h4 : PySem.W.subIn K (.ref U) (.type "BaseException") = some true) (hn : b = true ∨ C ≠ U) : ∃ C u, PySem.W.nsIn K mainGlobals c = some (some (.ref C)) ∧ clsK K c' = some u ∧ PySem.W.kitOne K (.ref C) u = some (isSub c c') ∧ PySem.W.exmOne K (.ref C) u = some (isSub c c') := by
  subst hb
  have hk : PySem.W.kitCls K (.ref C) (.ref U) = some (isSub c c') := by
    unfold PySem.W.kitCls
    simp only [h1, h2, Option.isSome_some, Bool.true_and, beq_self_eq_true, if_true]
    exact h3
  refine ⟨C, .ref U, a, ?_, ?_, ?_⟩
  · unfold clsK
    rw [if_neg hv, a']
  · unfold PySem.W.kitOne
    split
    · rename_i he
      have e2 : (Value.ref C) = .ref U := by simpa using he
      have e3 : C = U := by cases e2; rfl
      rcases hn with h | h
      · rw [h]
      · exact absurd e3 h
    · exact hk
  · unfold PySem.W.exmOne
    rw [h4]
    exact hk
theorem kit_val {K : PySem.W.Frag} {c : Str} {C : Addr} {b : Bool} (a : PySem.W.nsIn K mainGlobals c = some (some (.ref C))) (hb : b = isSub c "ValueError") (h0 : PySem.W.kitMeta "ValueError" = true) (h3 : PySem.W.subIn K (.ref C) (.type "ValueError") = some b) (h4 : PySem.W.subIn K (.type "ValueError") (.type "BaseException") = some true) : ∃ C u, PySem.W.nsIn K mainGlobals c = some (some (.ref C)) ∧ clsK K "ValueError" = some u ∧ PySem.W.kitOne K (.ref C) u = some (isSub c "ValueError") ∧ PySem.W.exmOne K (.ref C) u = some (isSub c "ValueError") := by
  subst hb
  have hk : PySem.W.kitCls K (.ref C) (.type "ValueError") = some (isSub c "ValueError") := by
    unfold PySem.W.kitCls
    simp only [h0, if_true]
    exact h3
  refine ⟨C, .type "ValueError", a, if_pos rfl, ?_, ?_⟩
  · unfold PySem.W.kitOne
    split
    · rename_i he
      exact absurd he (by simp)
    · exact hk
  · unfold PySem.W.exmOne
    rw [h4]
    exact hk
def KitP (K : PySem.W.Frag) (c c' : Str) : Prop := ∃ C u, PySem.W.nsIn K mainGlobals c = some (some (.ref C)) ∧ clsK K c' = some u ∧ PySem.W.kitOne K (.ref C) u = some (isSub c c') ∧ PySem.W.exmOne K (.ref C) u = some (isSub c c')
theorem cl_mk {K : PySem.W.Frag} {c : Str} {C : Addr} (a : PySem.W.nsIn K mainGlobals c = some (some (.ref C))) : ∃ C, PySem.W.nsIn K mainGlobals c = some (some (.ref C)) := ⟨C, a⟩
structure ProgK (ct : CT) (K : PySem.W.Frag) (T : Str → Option Fd) : Prop where
  fn : ∀ f ∈ ct.fns, DefK ct K T f
  co : ∀ p ∈ ct.cst, CoK ct K (faOf ct K) p.1 p.2
  bt : ∀ x ∈ ct.bt, PySem.W.nsIn K mainGlobals x = some none
  cl : ∀ c ∈ ct.cls, ∃ C, PySem.W.nsIn K mainGlobals c = some (some (.ref C))
  rs : ∀ c ∈ ct.rs, ∃ C, RsK K c C
  kit : ∀ c ∈ ct.rs, ∀ c', c' ∈ ct.cls ∨ c' = "ValueError" → KitP K c c'
  hot : ∀ f ∈ ct.hot, DefH ct K T f ∧ f ∈ ct.fns
  dirty : ∀ f ∈ ct.dirty, DefX ct K T f
  dty : ct.dty = false
theorem lookup_mem {α : Type} : ∀ {l : List (Str × α)} {x : Str} {e : α}, l.lookup x = some e → (x, e) ∈ l
  | [], _, _, h => by cases h
  | (y, d) :: r, x, e, h => by
    rw [List.lookup_cons] at h
    split at h
    · rename_i hxy
      cases h
      have e1 : x = y := by simpa using hxy
      rw [e1]
      exact List.mem_cons_self
    · exact List.mem_cons_of_mem _ (lookup_mem h)
section
variable {P : Program} {w : World} {K : PySem.W.Frag} {mg : Str → Option Value} {base h : Heap} {ct : CT} {T : Str → Option Fd}
theorem mem_of_contains {l : List Str} {x : Str} (h : l.contains x = true) : x ∈ l := by simpa using h
theorem faOf_some {f : Str} {ad : Addr} (hf : ct.fns.contains f = true) (a : PySem.W.nsIn K mainGlobals f = some (some (.ref ad))) : faOf ct K f = some ad := by
  unfold faOf
  rw [if_pos hf, a]
theorem faOf_in {f : Str} {ad : Addr} (h : faOf ct K f = some ad) : ct.fns.contains f = true := by
  unfold faOf at h
  split at h
  · assumption
  · cases h
theorem caOf_some {f : Str} {ad : Addr} (hf : ct.rs.contains f = true) (a : PySem.W.nsIn K mainGlobals f = some (some (.ref ad))) : caOf ct K f = some ad := by
  unfold caOf
  rw [if_pos hf, a]
theorem caOf_in {f : Str} {ad : Addr} (h : caOf ct K f = some ad) : ct.rs.contains f = true ∧ PySem.W.nsIn K mainGlobals f = some (some (.ref ad)) := by
  unfold caOf at h
  split at h
  · rename_i hf
    split at h
    · rename_i ha
      cases h
      exact ⟨hf, ha⟩
    · cases h
  · cases h
theorem glb_of (PK : ProgK ct K T) (X : K.In h) (G : h.Ns mainGlobals mg) {k : Nat} {Φ : Str → List D → Hd → R D} (hfn : ∀ f, ct.fns.contains f = true → FnK P w K mg base k (faOf ct K) (caOf ct K) (Φ f) f) (hfh : ∀ f, ct.hot.contains f = true → FnKH P w K mg base k (faOf ct K) (caOf ct K) (Φ (hotn f)) f) (hfd : ∀ f, ct.dirty.contains f = true → FnKD P w K mg base k (faOf ct K) (caOf ct K) (Φ f) f) : Glb ct P w K mg base k (faOf ct K) (caOf ct K) Φ := by
  refine ⟨hfn, fun f ad => faOf_in, fun x e he => ?_, fun x hx => ?_, fun c hc => ?_, fun c C c' hC hc' => ?_, fun c hc => ?_, fun c C hC => ?_, hfh, hfd⟩
  · obtain ⟨d, u, v, h1, h2, h3, h4⟩ := (PK.co _ (lookup_mem he)).ex
    exact ⟨d, u, v, h1, PySem.W.mg_of X G h2, h3, h4⟩
  · exact PySem.W.mg_none_of X G (PK.bt x (mem_of_contains hx))
  · obtain ⟨C, hC⟩ := PK.cl c (mem_of_contains hc)
    exact ⟨C, PySem.W.mg_of X G hC⟩
  · obtain ⟨h1, h2⟩ := caOf_in hC
    have hc2 : c' ∈ ct.cls ∨ c' = ("ValueError" : Str) := by
      rcases hc' with h | h
      · exact .inl (mem_of_contains h)
      · exact .inr h
    obtain ⟨C', u, h3, h4, h5, h6⟩ := PK.kit c (mem_of_contains h1) c' hc2
    rw [h2] at h3
    cases h3
    refine ⟨u, ?_, h5, h6⟩
    unfold clsK at h4
    unfold clsV
    split at h4
    · rename_i hv
      rw [if_pos hv]
      exact h4
    · rename_i hv
      rw [if_neg hv]
      split at h4
      · rename_i v hn
        subst h4
        exact PySem.W.mg_of X G hn
      · cases h4
  · obtain ⟨C, hR⟩ := PK.rs c (mem_of_contains hc)
    exact ⟨C, caOf_some hc hR.ns⟩
  · obtain ⟨h1, h2⟩ := caOf_in hC
    obtain ⟨C', hR⟩ := PK.rs c (mem_of_contains h1)
    have e := hR.ns
    rw [h2] at e
    cases e
    exact ⟨PySem.W.mg_of X G h2, hR.ex, hR.kp, hR.sb, hR.ty, hR.ec⟩
theorem runF_len {Φ : Str → List D → Hd → R D} {fd : Fd} {ds : List D} {L : Hd} (h : ds.length ≠ fd.np) : runF Φ fd ds L = .bad := by
  unfold runF
  rw [if_neg h]
theorem contains_of_mem {l : List Str} {x : Str} (h : x ∈ l) : l.contains x = true := by simpa using h
theorem fnK_both (PK : ProgK ct K T) (X : K.In h) (G : h.Ns mainGlobals mg) : ∀ (k : Nat), (∀ f, ct.fns.contains f = true → FnK P w K mg base k (faOf ct K) (caOf ct K) (runT T k f) f) ∧ (∀ f, ct.hot.contains f = true → (FnKH P w K mg base k (faOf ct K) (caOf ct K) (runT T k (hotn f)) f)) ∧ ∀ f, ct.dirty.contains f = true → FnKD P w K mg base k (faOf ct K) (caOf ct K) (runT T k f) f
  | 0 => ⟨fun f hf => by
    obtain ⟨ad, fdt, N, ps, st, fd, a, F, hb, S, hT, h1, h2, h3⟩ := (PK.fn f (mem_of_contains hf)).ex
    refine ⟨ad, fdt, ps, faOf_some hf a, PySem.W.mg_of X G a, F.kp, hb, fun ds L _ => rfl, fun vs H Q E q => ?_, fun A outer s H args us vs Q E _ _ _ _ q => ?_⟩
    · obtain ⟨ds, L, α, _, _, _, q⟩ := q
      exact q.elim
    · obtain ⟨ds, L, α, _, _, _, q⟩ := q
      exact q.elim, fun f hf => by
    obtain ⟨⟨ad, fdt, N, ps, st, fd, a, F, hb, S, hT, h1, h2, h3⟩, hm⟩ := PK.hot f (mem_of_contains hf)
    refine ⟨ad, fdt, ps, faOf_some (contains_of_mem hm) a, PySem.W.mg_of X G a, F.kp, hb, fun ds L _ => rfl, fun vs H Q E q => ?_, fun A outer s H args us vs Q E p _ _ _ _ _ _ q => ?_⟩
    · obtain ⟨ds, L, α, _, _, _, q⟩ := q
      exact q.elim
    · obtain ⟨ds, L, α, _, _, _, q⟩ := q
      exact q.elim, fun f hf => by
    obtain ⟨ad, fdt, N, ps, st, fd, a, F, hb, S, hT, h1, h2, h3⟩ := (PK.dirty f (mem_of_contains hf)).ex
    refine ⟨ad, fdt, ps, PySem.W.mg_of X G a, F.kp, hb, fun ds L _ => rfl, fun vs H Q E q => ?_, fun A outer s H args us vs Q E _ _ _ _ q => ?_⟩
    · obtain ⟨ds, L, α, _, _, _, q⟩ := q
      exact q.elim
    · obtain ⟨ds, L, α, _, _, _, q⟩ := q
      exact q.elim⟩
  | k + 1 => by
    obtain ⟨ih1, ih2, ih3⟩ := fnK_both PK X G k
    have gl := glb_of PK X G ih1 ih2 ih3
    have e : ∀ f fd, T f = some fd → runT T (k + 1) f = runF (runT T k) fd := fun f fd hT => by
      funext ds L
      show (match T f with | some fd => runF (runT T k) fd ds L | none => R.bad) = _
      rw [hT]
    refine ⟨fun f hf => ?_, fun f hf => ?_, fun f hf => ?_⟩
    · obtain ⟨ad, fdt, N, ps, st, fd, a, F, hb, S, hT, h1, h2, h3⟩ := (PK.fn f (mem_of_contains hf)).ex
      rw [e f fd hT]
      refine ⟨ad, fdt, ps, faOf_some hf a, PySem.W.mg_of X G a, F.kp, hb, fun ds L hl => runF_len (by rw [h1]; exact hl), ?_⟩
      exact fn_ok PK.dty gl F S h1 h2 h3
    · obtain ⟨⟨ad, fdt, N, ps, st, fd, a, F, hb, S, hT, h1, h2, h3⟩, hm⟩ := PK.hot f (mem_of_contains hf)
      rw [e _ fd hT]
      refine ⟨ad, fdt, ps, faOf_some (contains_of_mem hm) a, PySem.W.mg_of X G a, F.kp, hb, fun ds L hl => runF_len (by rw [h1]; exact hl), ?_⟩
      exact fn_okH gl F S h1 h2 h3
    · obtain ⟨ad, fdt, N, ps, st, fd, a, F, hb, S, hT, h1, h2, h3⟩ := (PK.dirty f (mem_of_contains hf)).ex
      rw [e f fd hT]
      refine ⟨ad, fdt, ps, PySem.W.mg_of X G a, F.kp, hb, fun ds L hl => runF_len (by rw [h1]; exact hl), ?_⟩
      exact fn_okD gl F S h1 h2 h3
/-- the law's own def -/
theorem law_F (PK : ProgK ct K T) (X : K.In h) (G : h.Ns mainGlobals mg) {n : Nat} {fa ad : Addr} {x : Str} {st : Stmt} {N : List Str} {fd : Fd} {oc : Value} {od an : Option Addr} {osl : Array (Option Value)} {kV doc pm cdv ct' : Value}
    (hfa : mg "law" = some (.ref fa)) (S : FnScope N [x] (defScope st)) (hT : T "law" = some fd) (h1 : fd.np = 1) (h2 : fd.n = N.length) (h3 : fd.body = compD ct N (defScope st) (defBody st))
    (hb : ∀ (kV doc pm : Value) (an : Option Addr) (cdv ct : Value) (s : Shared) (u : Value), BindsTo s (PySem.W.fnOf "law" "law" (defArgs st) (defBody st) (defScope st) .none kV doc pm an cdv ct) ⟨[u], []⟩ [(x, u)])
    (a : PySem.W.nsIn K mainGlobals "law" = some (some (.ref ad))) (l : K.lookup ad = some ⟨oc, od, .func (PySem.W.fnOf "law" "law" (defArgs st) (defBody st) (defScope st) .none kV doc pm an cdv ct'), osl⟩) (c : PySem.W.codeIn K cdv "law" = true) (kp : PySem.W.keepIn K (.ref ad) = true) :
    ∃ fdt : FuncData, (∀ (s : Shared) (u : Value), BindsTo s fdt ⟨[u], []⟩ [(x, u)]) ∧ ∀ base : Heap, K.In base → base.Ns mainGlobals mg → FnOk P w K mg base (L2N.CX P w) (n + 1) fa fdt [x] (spF K (faOf ct K) (caOf ct K) 1 (runT T (n + 1) "law")) := by
  have e := hfa.symm.trans (PySem.W.mg_of X G a)
  cases e
  refine ⟨_, hb kV doc pm an cdv ct', fun base _ _ => ?_⟩
  have e : runT T (n + 1) "law" = runF (runT T n) fd := by
    funext ds L
    show (match T "law" with | some fd => runF (runT T n) fd ds L | none => R.bad) = _
    rw [hT]
  rw [e]
  exact fn_ok (ps := [x]) PK.dty (glb_of PK X G (fnK_both PK X G n).1 (fnK_both PK X G n).2.1 (fnK_both PK X G n).2.2) (fun_mk (st := st) l c kp) S h1 h2 h3
/-- the law's own def, where it may tell an exception with a context -/
theorem law_FD (PK : ProgK ct K T) (X : K.In h) (G : h.Ns mainGlobals mg) {n : Nat} {fa ad : Addr} {x : Str} {st : Stmt} {N : List Str} {fd : Fd} {oc : Value} {od an : Option Addr} {osl : Array (Option Value)} {kV doc pm cdv ct' : Value}
    (hfa : mg "law" = some (.ref fa)) (S : FnScope N [x] (defScope st)) (hT : T "law" = some fd) (h1 : fd.np = 1) (h2 : fd.n = N.length) (h3 : fd.body = compB (compX ct N (defScope st)) (defBody st))
    (hb : ∀ (kV doc pm : Value) (an : Option Addr) (cdv ct : Value) (s : Shared) (u : Value), BindsTo s (PySem.W.fnOf "law" "law" (defArgs st) (defBody st) (defScope st) .none kV doc pm an cdv ct) ⟨[u], []⟩ [(x, u)])
    (a : PySem.W.nsIn K mainGlobals "law" = some (some (.ref ad))) (l : K.lookup ad = some ⟨oc, od, .func (PySem.W.fnOf "law" "law" (defArgs st) (defBody st) (defScope st) .none kV doc pm an cdv ct'), osl⟩) (c : PySem.W.codeIn K cdv "law" = true) (kp : PySem.W.keepIn K (.ref ad) = true) :
    ∃ fdt : FuncData, (∀ (s : Shared) (u : Value), BindsTo s fdt ⟨[u], []⟩ [(x, u)]) ∧ ∀ base : Heap, K.In base → base.Ns mainGlobals mg → FnOk P w K mg base (L2.CX P w) (n + 1) fa fdt [x] (spF K (faOf ct K) (caOf ct K) 1 (runT T (n + 1) "law")) := by
  have e := hfa.symm.trans (PySem.W.mg_of X G a)
  cases e
  refine ⟨_, hb kV doc pm an cdv ct', fun base _ _ => ?_⟩
  have e : runT T (n + 1) "law" = runF (runT T n) fd := by
    funext ds L
    show (match T "law" with | some fd => runF (runT T n) fd ds L | none => R.bad) = _
    rw [hT]
  rw [e]
  exact fn_okD (ps := [x]) (glb_of PK X G (fnK_both PK X G n).1 (fnK_both PK X G n).2.1 (fnK_both PK X G n).2.2) (fun_mk (st := st) l c kp) S h1 h2 h3
theorem law_sp {ca : Str → Option Addr} {fa : Str → Option Addr} {H : Hp} {a : Addr} {ns : List Int} {φ : List D → Hd → R D} (hO : Only H) (hS : SqL K H a (ns.map V.int)) (hr : ∃ L', φ [.ref 0] [.lst (ns.map D.int)] = .ok (.bl true) L') :
    spF K fa ca 1 φ [.ref a] H (fun v _ => v = .bl true) (fun _ _ _ => False) := by
  obtain ⟨L', hr⟩ := hr
  refine ⟨[.ref 0], [.lst (ns.map D.int)], [a], rfl, .cons (.ref rfl) .nil, ⟨rfl, by simp, by simp, fun b xs h1 h2 => ?_, fun n b xs h1 h2 => by simp at h1⟩, ?_⟩
  · cases h1
    cases h2
    refine ⟨ns.map V.int, RVs.ofInts ns, ?_⟩
    rcases hS with (hS | ⟨o, hS⟩) | hS
    · rcases hO a with z | ⟨o, xs, z⟩
      · rw [hS] at z
        cases z
      · rw [hS] at z
        cases z
    · exact .inl ⟨o, hS⟩
    · exact .inr hS
  · rw [hr]
    intro v H' α' _ _ r
    cases r
    rfl
theorem law_noX {w : World} {H : Hp} {s : Shared} {e : Value} {s' : Shared} : L2N.CX P w [] H s (fun _ _ _ => False) e s' → False := fun h => by
  obtain ⟨_, _, _, _, _, _, _, _, _, _, _, _, z⟩ := h
  exact z
theorem law_noXD {w : World} {H : Hp} {s : Shared} {e : Value} {s' : Shared} : L2.CX P w [] H s (fun _ _ _ => False) e s' → False := fun h => by
  obtain ⟨_, _, _, _, _, _, _, _, _, _, _, _, z⟩ := h
  exact z
end
end MP

/-! How MP's runs are reckoned. -/
namespace MP
open PySem PySem.Spec PyProof.Rows L2

theorem onBl_bl (b : Bool) (t f : R D) : onBl (.bl b) t f = if b = true then t else f := by cases b <;> rfl
theorem ifB_bl (b : Bool) (t f : O) : ifB (.bl b) t f = if b = true then t else f := by cases b <;> rfl
theorem O.then_nx (ρ : Env) (L : Hd) (f : Env → Hd → O) : (O.nx ρ L).then f = f ρ L := rfl
theorem O.then_rt (d : D) (L : Hd) (f : Env → Hd → O) : (O.rt d L).then f = .rt d L := rfl
theorem O.then_ex (c : Str) (ρ : Env) (L : Hd) (f : Env → Hd → O) : (O.ex c ρ L).then f = .ex c ρ L := rfl
theorem O.then_bk (ρ : Env) (L : Hd) (f : Env → Hd → O) : (O.bk ρ L).then f = .bk ρ L := rfl
theorem O.then_ct (ρ : Env) (L : Hd) (f : Env → Hd → O) : (O.ct ρ L).then f = .ct ρ L := rfl
theorem O.then_bad (f : Env → Hd → O) : O.bad.then f = .bad := rfl
theorem O.turn_nx (ρ : Env) (L : Hd) (f : Env → Hd → O) : (O.nx ρ L).turn f = f ρ L := rfl
theorem O.turn_ct (ρ : Env) (L : Hd) (f : Env → Hd → O) : (O.ct ρ L).turn f = f ρ L := rfl
theorem O.turn_bk (ρ : Env) (L : Hd) (f : Env → Hd → O) : (O.bk ρ L).turn f = .nx ρ L := rfl
theorem O.turn_rt (d : D) (L : Hd) (f : Env → Hd → O) : (O.rt d L).turn f = .rt d L := rfl
theorem O.turn_ex (c : Str) (ρ : Env) (L : Hd) (f : Env → Hd → O) : (O.ex c ρ L).turn f = .ex c ρ L := rfl
theorem onPart_int (i : Int) (f : Option Int → R D) : onPart (.int i) f = f (some i) := rfl
theorem onPart_abs (x : Str) (f : Option Int → R D) : onPart (.exc x) f = f none := rfl
theorem eqop_int (i j : Int) (L : Hd) : eqop (.int i) (.int j) L id = .ok (.bl (decide (i = j))) L := by
  have e : PyData.eqv (.int i) (.int j) = decide (i = j) := by
    unfold PyData.eqv
    exact Bool.beq_eq_decide_eq i j
  show (if SeqAt.shaped (.int i) = true ∧ SeqAt.shaped (.int j) = true then R.ok (D.bl (id (PyData.eqv (.int i) (.int j)))) L else .bad) = _
  rw [if_pos ⟨rfl, rfl⟩, e]
  rfl
theorem neop_int (i j : Int) (L : Hd) : eqop (.int i) (.int j) L not = .ok (.bl (!decide (i = j))) L := by
  have e : PyData.eqv (.int i) (.int j) = decide (i = j) := by
    unfold PyData.eqv
    exact Bool.beq_eq_decide_eq i j
  show (if SeqAt.shaped (.int i) = true ∧ SeqAt.shaped (.int j) = true then R.ok (D.bl (not (PyData.eqv (.int i) (.int j)))) L else .bad) = _
  rw [if_pos ⟨rfl, rfl⟩, e]
theorem eqop_bl (i j : Bool) (L : Hd) : eqop (.bl i) (.bl j) L id = .ok (.bl (i == j)) L := by
  cases i <;> cases j <;> rfl
theorem neop_bl (i j : Bool) (L : Hd) : eqop (.bl i) (.bl j) L not = .ok (.bl (!(i == j))) L := by
  cases i <;> cases j <;> rfl
theorem lim1 : (1 ≤ LIM) = True := by decide
theorem lim2 : (2 ≤ LIM) = True := by decide
theorem lim3 : (3 ≤ LIM) = True := by decide
theorem lim4 : (4 ≤ LIM) = True := by decide
theorem lim5 : (5 ≤ LIM) = True := by decide
theorem runT_succ {T : Str → Option Fd} {k : Nat} {f : Str} {fd : Fd} (h : T f = some fd) : runT T (k + 1) f = runF (runT T k) fd := by
  funext ds L
  show (match T f with | some fd => runF (runT T k) fd ds L | none => R.bad) = _
  rw [h]

/-! ### the turns of MP, one by one -/
noncomputable def whW (Φ : Str → List D → Hd → R D) (c : Ex) (b : Sm) (ρ : Env) (L : Hd) : O := whL (fun ρ L => evE Φ c ρ L) (fun ρ L => run Φ b ρ L) ρ L
noncomputable def forW (Φ : Str → List D → Hd → R D) (s : Nat) (b : Sm) (w : Option Nat) (all xs : List D) (ρ : Env) (L : Hd) : O := forGo (fun ρ L => run Φ b ρ L) s w all xs ρ L
noncomputable def lcW (Φ : Str → List D → Hd → R D) (s : Nat) (c e : Ex) (ρ : Env) (w : Option Nat) (all xs : List D) (L : Hd) : R (List D) := lcGo (fun x L => evE Φ c (ρ.set s (some x)) L) (fun x L => evE Φ e (ρ.set s (some x)) L) w all xs L
section
variable {Φ : Str → List D → Hd → R D} {ρ : Env} {L : Hd}
theorem x_bad : evE Φ .bad ρ L = .bad := rfl
theorem x_non : evE Φ .non ρ L = .ok .non L := rfl
theorem x_bl {b : Bool} : evE Φ (.bl b) ρ L = .ok (.bl b) L := rfl
theorem x_int {i : Int} : evE Φ (.int i) ρ L = .ok (.int i) L := rfl
theorem x_str {x : Str} : evE Φ (.str x) ρ L = .ok (.str x) L := rfl
theorem x_v {i : Nat} : evE Φ (.v i) ρ L = getV ρ[i]? L := rfl
theorem x_k {x : Str} {e : Ex} : evE Φ (.k x e) ρ L = evE Φ e [] L := rfl
theorem x_f {x : Str} : evE Φ (.f x) ρ L = .ok (.fn x) L := rfl
theorem x_nil : evE Φ .nil ρ L = .ok (.tup []) L := rfl
theorem x_absent : evE Φ .absent ρ L = .ok (.exc ⟨#[]⟩) L := rfl
def consOp (x y : D) (L : Hd) : R D := match y with
  | .tup ys => .ok (.tup (x :: ys)) L
  | _ => .bad
def tupOp (x : D) (L : Hd) : R D := match x with
  | .tup xs => if xs.length ≤ LIM then .ok (.tup xs) L else .bad
  | _ => .bad
def lstOp (x : D) (L : Hd) : R D := match x with
  | .tup xs => alloc xs L
  | _ => .bad
def negOp (x : D) (L : Hd) : R D := match x with
  | .int i => .ok (.int (-i)) L
  | _ => .bad
def onTup (x : D) (f : List D → R D) : R D := match x with
  | .tup xs => f xs
  | _ => .bad
def isNon (x : D) : Bool := match x with
  | .non => true
  | _ => false
def okOnly (r : R D) : R D := match r with
  | .ok d L => .ok d L
  | _ => .bad
def onFn (o : Option (Option D)) (f : Str → R D) : R D := match o with
  | some (some (.fn g)) => f g
  | _ => .bad
def onExc (o : Option (Option D)) (f : Str → R D) : R D := match o with
  | some (some (.exc g)) => f g
  | _ => .bad
theorem x_cons {a b : Ex} : evE Φ (.cons a b) ρ L = (evE Φ a ρ L).bind fun x L => (evE Φ b ρ L).bind fun y L => consOp x y L := rfl
theorem x_tup {a : Ex} : evE Φ (.tup a) ρ L = (evE Φ a ρ L).bind tupOp := rfl
theorem x_lst {a : Ex} : evE Φ (.lst a) ρ L = (evE Φ a ρ L).bind lstOp := rfl
theorem x_bin {o : Bop} {a b : Ex} : evE Φ (.bin o a b) ρ L = (evE Φ a ρ L).bind fun x L => (evE Φ b ρ L).bind fun y L => binop o x y L := rfl
theorem x_neg {a : Ex} : evE Φ (.neg a) ρ L = (evE Φ a ρ L).bind negOp := rfl
theorem x_not {a : Ex} : evE Φ (.not a) ρ L = (evE Φ a ρ L).bind fun x L => onBl x (.ok (.bl false) L) (.ok (.bl true) L) := rfl
theorem x_and {a b : Ex} : evE Φ (.and a b) ρ L = (evE Φ a ρ L).bind fun x L => onBl x (evE Φ b ρ L) (.ok (.bl false) L) := rfl
theorem x_or {a b : Ex} : evE Φ (.or a b) ρ L = (evE Φ a ρ L).bind fun x L => onBl x (.ok (.bl true) L) (evE Φ b ρ L) := rfl
theorem x_cmp {o : Cop} {a b : Ex} : evE Φ (.cmp o a b) ρ L = (evE Φ a ρ L).bind fun x L => (evE Φ b ρ L).bind fun y L => cmpop o x y L := rfl
theorem x_isn {a : Ex} : evE Φ (.isn a) ρ L = (evE Φ a ρ L).bind fun x L => .ok (.bl (isNon x)) L := rfl
theorem x_notn {a : Ex} : evE Φ (.notn a) ρ L = (evE Φ a ρ L).bind fun x L => .ok (.bl (!isNon x)) L := by
  show (evE Φ a ρ L).bind _ = _
  congr
  funext x L
  cases x <;> rfl
theorem x_ix {a i : Ex} : evE Φ (.ix a i) ρ L = (evE Φ a ρ L).bind fun x L => (evE Φ i ρ L).bind fun y L => ixop x y L := rfl
theorem x_sl {a lo hi : Ex} : evE Φ (.sl a lo hi) ρ L = (evE Φ a ρ L).bind fun x L => (evE Φ lo ρ L).bind fun l L => onPart l fun l => (evE Φ hi ρ L).bind fun u L => onPart u fun u => slop x l u L := rfl
theorem x_call {f : Str} {as : Ex} : evE Φ (.call f as) ρ L = (evE Φ as ρ L).bind fun d L => callOn Φ f d L := rfl
theorem x_callv {i : Nat} {as : Ex} : evE Φ (.callv i as) ρ L = onFn ρ[i]? fun f => (evE Φ as ρ L).bind fun d L => okOnly (callOn Φ f d L) := by
  have e : evE Φ (.callv i as) ρ L = (match ρ[i]? with
    | some (some (.fn f)) => (evE Φ as ρ L).bind fun d L => (match callOn Φ f d L with
      | .ok d L => .ok d L
      | _ => .bad)
    | _ => .bad) := rfl
  rw [e]
  generalize ρ[i]? = o
  rcases o with _ | _ | d
  · rfl
  · rfl
  · cases d <;> rfl
theorem x_bi {b : Bi} {as : Ex} : evE Φ (.bi b as) ρ L = (evE Φ as ρ L).bind fun d L => onTup d fun ds => biop b ds L := rfl
theorem x_isi {a : Ex} {t : Ty} : evE Φ (.isi a t) ρ L = (evE Φ a ρ L).bind fun x L => tyop x t L := rfl
theorem x_ise {i : Nat} {c : Str} : evE Φ (.ise i c) ρ L = onExc ρ[i]? fun a => .ok (.bl (isSub a c)) L := by
  have e : evE Φ (.ise i c) ρ L = (match ρ[i]? with
    | some (some (.exc a)) => .ok (.bl (isSub a c)) L
    | _ => .bad) := rfl
  rw [e]
  generalize ρ[i]? = o
  rcases o with _ | _ | d
  · rfl
  · rfl
  · cases d <;> rfl
theorem x_me {m : Me} {o as : Ex} : evE Φ (.me m o as) ρ L = (evE Φ o ρ L).bind fun x L => if recv m x = true then (evE Φ as ρ L).bind fun d L => onTup d fun ds => meop m x ds L else .bad := rfl
def lcOn (o : Option (Option Nat × List D)) (f : Option Nat → List D → R (List D)) : R D := match o with
  | some (w, xs) => (f w xs).bind fun ys L => alloc ys L
  | none => .bad
theorem x_lc {s : Nat} {it c e : Ex} : evE Φ (.lc s it c e) ρ L = (evE Φ it ρ L).bind fun d L => lcOn (items d L) fun w xs => lcW Φ s c e ρ w xs xs L := by
  have e : evE Φ (.lc s it c e) ρ L = (evE Φ it ρ L).bind fun d L => (match items d L with
    | some (w, xs) => (lcGo (fun x L => evE Φ c (ρ.set s (some x)) L) (fun x L => evE Φ e (ρ.set s (some x)) L) w xs xs L).bind fun ys L => alloc ys L
    | none => .bad) := rfl
  rw [e]
  have h : ∀ (f g : D → Hd → R D), (∀ d L, f d L = g d L) → (evE Φ it ρ L).bind f = (evE Φ it ρ L).bind g := fun f g h => by
    rw [show f = g from funext fun d => funext fun L => h d L]
  exact h _ _ fun d L => by cases items d L <;> rfl
theorem x_rng {as : Ex} : evE Φ (.rng as) ρ L = (evE Φ as ρ L).bind fun d L => onTup d fun ds => rngop ds L := rfl
theorem x_rev {a : Ex} : evE Φ (.rev a) ρ L = (evE Φ a ρ L).bind fun d L => revop d L := rfl
theorem s_bad : run Φ .bad ρ L = .bad := rfl
theorem s_pass : run Φ .pass ρ L = .nx ρ L := rfl
theorem s_seq {a b : Sm} : run Φ (.seq a b) ρ L = (run Φ a ρ L).then fun ρ L => run Φ b ρ L := rfl
theorem s_set {i : Nat} {e : Ex} : run Φ (.set i e) ρ L = (evE Φ e ρ L).on ρ fun d L => .nx (ρ.set i (some d)) L := rfl
def setixOp (ρ : Env) (y x k : D) (L : Hd) : O := match x, k with
  | .ref n, .int j => if n = 0 then .bad else (match getL L n with
    | some xs => (match L2.ixN xs.length j with
      | some p => .nx ρ (setL L n (xs.set p y))
      | none => .bad)
    | none => .bad)
  | _, _ => .bad
theorem s_setix {a i e : Ex} : run Φ (.setix a i e) ρ L = (evE Φ e ρ L).on ρ fun y L => (evE Φ a ρ L).on ρ fun x L => (evE Φ i ρ L).on ρ fun k L => setixOp ρ y x k L := rfl
def onInt (o : Option (Option D)) (f : Int → O) : O := match o with
  | some (some (.int x)) => f x
  | _ => .bad
def augNx (o : Option Int) (f : Int → O) : O := match o with
  | some z => f z
  | none => .bad
theorem s_aug {i : Nat} {o : Bop} {e : Ex} : run Φ (.aug i o e) ρ L = onInt ρ[i]? fun x => (evE Φ e ρ L).on ρ fun y L => augNx (augop o x y) fun z => .nx (ρ.set i (some (.int z))) L := by
  have he0 : run Φ (.aug i o e) ρ L = (match ρ[i]? with
    | some (some (.int x)) => (evE Φ e ρ L).on ρ fun y L => (match augop o x y with
      | some z => .nx (ρ.set i (some (.int z))) L
      | none => .bad)
    | _ => .bad) := rfl
  rw [he0]
  generalize ρ[i]? = q
  rcases q with _ | _ | d
  · rfl
  · rfl
  · cases d with
    | int x =>
      have h : ∀ (f g : D → Hd → O), (∀ d L, f d L = g d L) → (evE Φ e ρ L).on ρ f = (evE Φ e ρ L).on ρ g := fun f g h => by
        rw [show f = g from funext fun d => funext fun L => h d L]
      exact h _ _ fun y L => by cases augop o x y <;> rfl
    | _ => rfl
theorem s_ex {e : Ex} : run Φ (.ex e) ρ L = (evE Φ e ρ L).on ρ fun _ L => .nx ρ L := rfl
theorem s_ite {c : Ex} {a b : Sm} : run Φ (.ite c a b) ρ L = (evE Φ c ρ L).on ρ fun d L => ifB d (run Φ a ρ L) (run Φ b ρ L) := rfl
theorem s_wh {c : Ex} {b : Sm} : run Φ (.wh c b) ρ L = whW Φ c b ρ L := rfl
def forOn (o : Option (Option Nat × List D)) (f : Option Nat → List D → O) : O := match o with
  | some (w, xs) => f w xs
  | none => .bad
theorem s_for {s : Nat} {it : Ex} {b : Sm} : run Φ (.for_ s it b) ρ L = (evE Φ it ρ L).on ρ fun d L => forOn (items d L) fun w xs => forW Φ s b w xs xs ρ L := by
  have e : run Φ (.for_ s it b) ρ L = (evE Φ it ρ L).on ρ fun d L => (match items d L with
    | some (w, xs) => forGo (fun ρ L => run Φ b ρ L) s w xs xs ρ L
    | none => .bad) := rfl
  rw [e]
  have h : ∀ (f g : D → Hd → O), (∀ d L, f d L = g d L) → (evE Φ it ρ L).on ρ f = (evE Φ it ρ L).on ρ g := fun f g h => by
    rw [show f = g from funext fun d => funext fun L => h d L]
  exact h _ _ fun d L => by cases items d L <;> rfl
noncomputable def forW2 (Φ : Str → List D → Hd → R D) (i j : Nat) (b : Sm) (w : Option Nat) (all xs : List D) (ρ : Env) (L : Hd) : O := forGo2 (fun ρ L => run Φ b ρ L) i j w all xs ρ L
theorem s_for2 {i j : Nat} {it : Ex} {b : Sm} : run Φ (.for2 i j it b) ρ L = (evE Φ it ρ L).on ρ fun d L => forOn (items d L) fun w xs => forW2 Φ i j b w xs xs ρ L := by
  have e : run Φ (.for2 i j it b) ρ L = (evE Φ it ρ L).on ρ fun d L => (match items d L with
    | some (w, xs) => forGo2 (fun ρ L => run Φ b ρ L) i j w xs xs ρ L
    | none => .bad) := rfl
  rw [e]
  have h : ∀ (f g : D → Hd → O), (∀ d L, f d L = g d L) → (evE Φ it ρ L).on ρ f = (evE Φ it ρ L).on ρ g := fun f g h => by
    rw [show f = g from funext fun d => funext fun L => h d L]
  exact h _ _ fun d L => by cases items d L <;> rfl
theorem s_ret {e : Ex} : run Φ (.ret e) ρ L = (evE Φ e ρ L).on ρ fun d L => .rt d L := rfl
theorem s_retn : run Φ .retn ρ L = .rt .non L := rfl
theorem s_brk : run Φ .brk ρ L = .bk ρ L := rfl
theorem s_cnt : run Φ .cnt ρ L = .ct ρ L := rfl
theorem s_raise {c : Str} : run Φ (.raise c) ρ L = .ex c ρ L := rfl
def tryN (o : O) (c : Str) (h : Env → Hd → O) : O := match o with
  | .ex c' ρ' L' => if isSub c' c = true then (match h ρ' L' with
    | .ex _ _ _ => .bad
    | o => o) else .ex c' ρ' L'
  | o => o
def tryA (o : O) (c : Str) (i : Nat) (h : Env → Hd → O) : O := match o with
  | .ex c' ρ' L' => if isSub c' c = true then (match h (ρ'.set i (some (.exc c'))) L' with
    | .rt d L2 => .rt d L2
    | _ => .bad) else .ex c' ρ' L'
  | o => o
theorem s_tryN {b h : Sm} {c : Str} : run Φ (.try_ b c none h) ρ L = tryN (run Φ b ρ L) c fun ρ L => run Φ h ρ L := by
  have e : run Φ (.try_ b c none h) ρ L = (match run Φ b ρ L with
    | .ex c' ρ' L' => if isSub c' c = true then (match run Φ h ρ' L' with
      | .ex _ _ _ => .bad
      | o => o) else .ex c' ρ' L'
    | o => o) := rfl
  rw [e]
  generalize run Φ b ρ L = o
  cases o <;> rfl
theorem s_tryA {b h : Sm} {c : Str} {i : Nat} : run Φ (.try_ b c (some i) h) ρ L = tryA (run Φ b ρ L) c i fun ρ L => run Φ h ρ L := by
  have e : run Φ (.try_ b c (some i) h) ρ L = (match run Φ b ρ L with
    | .ex c' ρ' L' => if isSub c' c = true then (match run Φ h (ρ'.set i (some (.exc c'))) L' with
      | .rt d L2 => .rt d L2
      | _ => .bad) else .ex c' ρ' L'
    | o => o) := rfl
  rw [e]
  generalize run Φ b ρ L = o
  cases o <;> rfl
def tryRo (o : O) (c d : Str) : O := match o with
  | .ex c' ρ' L' => if isSub c' c = true then .ex d ρ' L' else .ex c' ρ' L'
  | o => o
theorem s_tryR {b : Sm} {c d : Str} : run Φ (.tryR b c d) ρ L = tryRo (run Φ b ρ L) c d := by
  have e : run Φ (.tryR b c d) ρ L = (match run Φ b ρ L with
    | .ex c' ρ' L' => if isSub c' c = true then .ex d ρ' L' else .ex c' ρ' L'
    | o => o) := rfl
  rw [e]
  generalize run Φ b ρ L = o
  cases o <;> rfl
def try2o (o : O) (c1 : Str) (h1 : Env → Hd → O) (c2 : Str) (h2 : Env → Hd → O) : O := match o with
  | .ex c' ρ' L' => if isSub c' c1 = true then (match h1 ρ' L' with
    | .ex _ _ _ => .bad
    | o => o) else if isSub c' c2 = true then (match h2 ρ' L' with
    | .ex _ _ _ => .bad
    | o => o) else .ex c' ρ' L'
  | o => o
theorem s_try2 {b h1 h2 : Sm} {c1 c2 : Str} : run Φ (.try2 b c1 h1 c2 h2) ρ L = try2o (run Φ b ρ L) c1 (fun ρ L => run Φ h1 ρ L) c2 fun ρ L => run Φ h2 ρ L := by
  have e : run Φ (.try2 b c1 h1 c2 h2) ρ L = (match run Φ b ρ L with
    | .ex c' ρ' L' => if isSub c' c1 = true then (match run Φ h1 ρ' L' with
        | .ex _ _ _ => .bad
        | o => o) else if isSub c' c2 = true then (match run Φ h2 ρ' L' with
        | .ex _ _ _ => .bad
        | o => o) else .ex c' ρ' L'
    | o => o) := rfl
  rw [e]
  generalize run Φ b ρ L = o
  cases o <;> rfl
theorem consOp_t {x : D} {ys : List D} : consOp x (.tup ys) L = .ok (.tup (x :: ys)) L := rfl
theorem tupOp_t {xs : List D} : tupOp (.tup xs) L = if xs.length ≤ LIM then .ok (.tup xs) L else .bad := rfl
theorem lstOp_t {xs : List D} : lstOp (.tup xs) L = alloc xs L := rfl
theorem negOp_i {i : Int} : negOp (.int i) L = .ok (.int (-i)) L := rfl
theorem onTup_t {xs : List D} {f : List D → R D} : onTup (.tup xs) f = f xs := rfl
theorem callOn_t {f : Str} {ds : List D} : callOn Φ f (.tup ds) L = Φ f ds L := rfl
theorem getV_int {i : Int} : getV (some (some (.int i))) L = .ok (.int i) L := rfl
theorem getV_bl {i : Bool} : getV (some (some (.bl i))) L = .ok (.bl i) L := rfl
theorem getV_str {i : Str} : getV (some (some (.str i))) L = .ok (.str i) L := rfl
theorem getV_tup {i : List D} : getV (some (some (.tup i))) L = .ok (.tup i) L := rfl
theorem getV_ref {i : Nat} : getV (some (some (.ref i))) L = .ok (.ref i) L := rfl
theorem getV_fn {i : Str} : getV (some (some (.fn i))) L = .ok (.fn i) L := rfl
theorem getV_non : getV (some (some .non)) L = .ok .non L := rfl
theorem onFn_f {g : Str} {f : Str → R D} : onFn (some (some (.fn g))) f = f g := rfl
theorem onExc_f {g : Str} {f : Str → R D} : onExc (some (some (.exc g))) f = f g := rfl
theorem onInt_i {x : Int} {f : Int → O} : onInt (some (some (.int x))) f = f x := rfl
theorem augNx_s {z : Int} {f : Int → O} : augNx (some z) f = f z := rfl
theorem augop_a {x y : Int} : augop .add x (.int y) = some (x + y) := rfl
theorem augop_s {x y : Int} : augop .sub x (.int y) = some (x - y) := rfl
theorem okOnly_ok {d : D} : okOnly (.ok d L) = .ok d L := rfl
theorem b_add {i j : Int} : binop .add (.int i) (.int j) L = .ok (.int (i + j)) L := rfl
theorem b_sub {i j : Int} : binop .sub (.int i) (.int j) L = .ok (.int (i - j)) L := rfl
theorem b_mul {i j : Int} : binop .mul (.int i) (.int j) L = if mulOk i j then .ok (.int (i * j)) L else .bad := rfl
theorem b_fdiv {i j : Int} : binop .fdiv (.int i) (.int j) L = if divOk i j then .ok (.int (i.fdiv j)) L else .bad := rfl
theorem b_mod {i j : Int} : binop .mod (.int i) (.int j) L = if j ≠ 0 then .ok (.int (i.fmod j)) L else .bad := rfl
theorem b_pow {i j : Int} : binop .pow (.int i) (.int j) L = if powOk i j then .ok (.int (i ^ j.toNat)) L else .bad := rfl
theorem b_addt {a b : List D} : binop .add (.tup a) (.tup b) L = if a.length + b.length ≤ LIM then .ok (.tup (a ++ b)) L else .bad := rfl
theorem c_lt {i j : Int} : cmpop .lt (.int i) (.int j) L = .ok (.bl (decide (i < j))) L := rfl
theorem c_le {i j : Int} : cmpop .le (.int i) (.int j) L = .ok (.bl (decide (i ≤ j))) L := rfl
theorem c_gt {i j : Int} : cmpop .gt (.int i) (.int j) L = .ok (.bl (decide (j < i))) L := rfl
theorem c_ge {i j : Int} : cmpop .ge (.int i) (.int j) L = .ok (.bl (decide (j ≤ i))) L := rfl
theorem c_eq {x y : D} : cmpop .eq x y L = eqop x y L id := by cases x <;> cases y <;> rfl
theorem c_ne {x y : D} : cmpop .ne x y L = eqop x y L not := by cases x <;> cases y <;> rfl
theorem ix_t {xs : List D} {i : Int} {v : D} (h : L2.atI xs i = some v) : ixop (.tup xs) (.int i) L = .ok v L := by
  show (match L2.atI xs i with | some v => R.ok v L | none => .bad) = _
  rw [h]
theorem ix_l {n : Nat} {xs : List D} {i : Int} {v : D} (hx : getL L n = some xs) (h : L2.atI xs i = some v) : ixop (.ref n) (.int i) L = .ok v L := by
  show (match getL L n with | some xs => (match L2.atI xs i with | some v => R.ok v L | none => .bad) | none => .bad) = _
  rw [hx]
  show (match L2.atI xs i with | some v => R.ok v L | none => .bad) = _
  rw [h]
theorem ix_2_0 {a b : D} : ixop (.tup [a, b]) (.int 0) L = .ok a L := rfl
theorem ix_2_1 {a b : D} : ixop (.tup [a, b]) (.int 1) L = .ok b L := rfl
theorem ix_3_0 {a b c : D} : ixop (.tup [a, b, c]) (.int 0) L = .ok a L := rfl
theorem ix_3_1 {a b c : D} : ixop (.tup [a, b, c]) (.int 1) L = .ok b L := rfl
theorem ix_3_2 {a b c : D} : ixop (.tup [a, b, c]) (.int 2) L = .ok c L := rfl
theorem bi_abs {i : Int} : biop .abs [.int i] L = .ok (.int (if i < 0 then -i else i)) L := rfl
theorem bi_lent {xs : List D} : biop .len [.tup xs] L = .ok (.int xs.length) L := rfl
theorem bi_lenl {n : Nat} {xs : List D} (hx : getL L n = some xs) : biop .len [.ref n] L = .ok (.int xs.length) L := by
  show (match getL L n with | some xs => R.ok (D.int xs.length) L | none => .bad) = _
  rw [hx]
theorem bi_max {i j : Int} : biop .max [.int i, .int j] L = .ok (.int (if j > i then j else i)) L := rfl
theorem bi_min {i j : Int} : biop .min [.int i, .int j] L = .ok (.int (if j < i then j else i)) L := rfl
theorem bi_int {i : Int} : biop .int [.int i] L = .ok (.int i) L := rfl
theorem bi_intb {k : Bool} : biop .int [.bl k] L = .ok (.int (if k then 1 else 0)) L := rfl
theorem bi_listt {xs : List D} : biop .list [.tup xs] L = alloc xs L := rfl
theorem bi_listl {n : Nat} {xs : List D} (hx : getL L n = some xs) : biop .list [.ref n] L = alloc xs L := by
  show (match getL L n with | some xs => alloc xs L | none => .bad) = _
  rw [hx]
theorem bi_tupt {xs : List D} : biop .tuple [.tup xs] L = .ok (.tup xs) L := rfl
theorem bi_tupl {n : Nat} {xs : List D} (hx : getL L n = some xs) : biop .tuple [.ref n] L = .ok (.tup xs) L := by
  show (match getL L n with | some xs => R.ok (D.tup xs) L | none => .bad) = _
  rw [hx]
theorem ty_non {t : Ty} : tyop .non t L = .ok (.bl false) L := rfl
theorem ty_bl {b : Bool} {t : Ty} : tyop (.bl b) t L = .ok (.bl (t == .bool || t == .int)) L := rfl
theorem ty_int {i : Int} {t : Ty} : tyop (.int i) t L = .ok (.bl (t == .int)) L := rfl
theorem ty_str {i : Str} {t : Ty} : tyop (.str i) t L = .ok (.bl (t == .str)) L := rfl
theorem ty_tup {i : List D} {t : Ty} : tyop (.tup i) t L = .ok (.bl (t == .tuple)) L := rfl
theorem tb1 : (Ty.int == Ty.int) = true := rfl
theorem tb2 : (Ty.bool == Ty.bool) = true := rfl
theorem tb3 : (Ty.tuple == Ty.tuple) = true := rfl
theorem tb4 : (Ty.list == Ty.list) = true := rfl
theorem tb5 : (Ty.str == Ty.str) = true := rfl
theorem tn1 : (Ty.int == Ty.bool) = false := rfl
theorem tn2 : (Ty.bool == Ty.int) = false := rfl
theorem tn3 : (Ty.tuple == Ty.int) = false := rfl
theorem tn4 : (Ty.tuple == Ty.bool) = false := rfl
theorem tn5 : (Ty.int == Ty.tuple) = false := rfl
theorem tn6 : (Ty.bool == Ty.tuple) = false := rfl
theorem isNon_non : isNon .non = true := rfl
theorem isNon_tup {x : List D} : isNon (.tup x) = false := rfl
theorem isNon_int {x : Int} : isNon (.int x) = false := rfl
theorem isNon_ref {x : Nat} : isNon (.ref x) = false := rfl
theorem items_t {xs : List D} : items (.tup xs) L = some (none, xs) := rfl
theorem items_l {n : Nat} {xs : List D} (hx : getL L n = some xs) : items (.ref n) L = some (some n, xs) := by
  show (getL L n).map (fun xs => (some n, xs)) = _
  rw [hx]
  rfl
theorem forOn_s {w : Option Nat} {xs : List D} {f : Option Nat → List D → O} : forOn (some (w, xs)) f = f w xs := rfl
theorem lcOn_s {w : Option Nat} {xs : List D} {f : Option Nat → List D → R (List D)} : lcOn (some (w, xs)) f = (f w xs).bind fun ys L => alloc ys L := rfl
theorem alloc_ok {xs : List D} (h : xs.length ≤ LIM) : alloc xs L = .ok (.ref L.length) (L ++ [.lst xs]) := if_pos h
theorem forW_nil {s : Nat} {b : Sm} {w : Option Nat} {all : List D} (h : seen w all L) : forW Φ s b w all [] ρ L = .nx ρ L := if_pos h
theorem forW_cons {s : Nat} {b : Sm} {w : Option Nat} {all xs : List D} {x : D} (h : seen w all L) : forW Φ s b w all (x :: xs) ρ L = (run Φ b (ρ.set s (some x)) L).turn fun ρ L => forW Φ s b w all xs ρ L := if_pos h
theorem fw_nil_n {s : Nat} {b : Sm} {all : List D} : forW Φ s b none all [] ρ L = .nx ρ L := forW_nil trivial
theorem fw_cons_n {s : Nat} {b : Sm} {all xs : List D} {x : D} : forW Φ s b none all (x :: xs) ρ L = (run Φ b (ρ.set s (some x)) L).turn fun ρ L => forW Φ s b none all xs ρ L := forW_cons trivial
theorem fw_nil_s {s n : Nat} {b : Sm} {all : List D} (h : getL L n = some all) : forW Φ s b (some n) all [] ρ L = .nx ρ L := forW_nil h
theorem fw_cons_s {s n : Nat} {b : Sm} {all xs : List D} {x : D} (h : getL L n = some all) : forW Φ s b (some n) all (x :: xs) ρ L = (run Φ b (ρ.set s (some x)) L).turn fun ρ L => forW Φ s b (some n) all xs ρ L := forW_cons h
theorem seen_none {all : List D} : seen none all L := trivial
end

/-! ### while -/
theorem whN_mono {c : Env → Hd → R D} {b : Env → Hd → O} : ∀ {n : Nat} {ρ : Env} {L : Hd}, whN c b n ρ L ≠ .bad → whN c b (n + 1) ρ L = whN c b n ρ L
  | 0, _, _, h => absurd rfl h
  | n + 1, ρ, L, h => by
    unfold whN at h ⊢
    cases hc : c ρ L with
    | ok d L1 =>
      rw [hc] at h
      simp only [R.on_ok] at h ⊢
      cases d with
      | bl t =>
        cases t with
        | false => rfl
        | true =>
          simp only [ifB] at h ⊢
          cases hb : b ρ L1 with
          | nx ρ' L' =>
            rw [hb] at h
            exact whN_mono h
          | ct ρ' L' =>
            rw [hb] at h
            exact whN_mono h
          | _ => rfl
      | _ => exact absurd rfl h
    | _ => rfl
theorem whN_le {c : Env → Hd → R D} {b : Env → Hd → O} {n m : Nat} {ρ : Env} {L : Hd} (h : whN c b n ρ L ≠ .bad) (hm : n ≤ m) : whN c b m ρ L = whN c b n ρ L := by
  induction hm with
  | refl => rfl
  | step hm ih => rw [whN_mono (by rw [ih]; exact h), ih]
theorem whL_of {c : Env → Hd → R D} {b : Env → Hd → O} {n : Nat} {ρ : Env} {L : Hd} (h : whN c b n ρ L ≠ .bad) : whL c b ρ L = whN c b n ρ L := by
  unfold whL
  have hex : ∃ n, whN c b n ρ L ≠ .bad := ⟨n, h⟩
  rw [dif_pos hex]
  have h2 := Classical.choose_spec hex
  by_cases hle : n ≤ Classical.choose hex
  · exact whN_le h hle
  · exact (whN_le h2 (by omega)).symm
theorem whL_bad {c : Env → Hd → R D} {b : Env → Hd → O} {ρ : Env} {L : Hd} (h : whL c b ρ L = .bad) (n : Nat) : whN c b n ρ L = .bad := by
  cases q : whN c b n ρ L with
  | bad => rfl
  | _ =>
    have h2 : whN c b n ρ L ≠ .bad := by rw [q]; exact fun z => by cases z
    rw [whL_of h2, q] at h
    cases h
/-- a while is its first turn, and itself -/
theorem whL_step (c : Env → Hd → R D) (b : Env → Hd → O) (ρ : Env) (L : Hd) : whL c b ρ L = (c ρ L).on ρ fun d L => ifB d ((b ρ L).turn fun ρ L => whL c b ρ L) (.nx ρ L) := by
  by_cases hex : ∃ n, whN c b n ρ L ≠ .bad
  · obtain ⟨n, h⟩ := hex
    rw [whL_of h]
    cases n with
    | zero => exact absurd rfl h
    | succ n =>
      unfold whN at h ⊢
      cases hc : c ρ L with
      | ok d L1 =>
        rw [hc] at h
        simp only [R.on_ok] at h ⊢
        cases d with
        | bl t =>
          cases t with
          | false => rfl
          | true =>
            simp only [ifB] at h ⊢
            cases hb : b ρ L1 with
            | nx ρ' L' =>
              rw [hb] at h
              exact (whL_of h).symm
            | ct ρ' L' =>
              rw [hb] at h
              exact (whL_of h).symm
            | _ => rfl
        | _ => rfl
      | _ => rfl
  · have hb : whL c b ρ L = .bad := by
      unfold whL
      rw [dif_neg hex]
    rw [hb]
    symm
    have all : ∀ n, whN c b n ρ L = .bad := whL_bad hb
    cases hc : c ρ L with
    | ok d L1 =>
      simp only [R.on_ok]
      cases d with
      | bl t =>
        cases t with
        | false =>
          have := all 1
          unfold whN at this
          rw [hc] at this
          exact this
        | true =>
          simp only [ifB]
          cases hb2 : b ρ L1 with
          | nx ρ' L' =>
            have : ∀ n, whN c b n ρ' L' = .bad := fun n => by
              have := all (n + 1)
              unfold whN at this
              rw [hc] at this
              simp only [R.on_ok, ifB] at this
              rw [hb2] at this
              exact this
            show whL c b ρ' L' = .bad
            unfold whL
            rw [dif_neg (fun ⟨n, z⟩ => z (this n))]
          | ct ρ' L' =>
            have : ∀ n, whN c b n ρ' L' = .bad := fun n => by
              have := all (n + 1)
              unfold whN at this
              rw [hc] at this
              simp only [R.on_ok, ifB] at this
              rw [hb2] at this
              exact this
            show whL c b ρ' L' = .bad
            unfold whL
            rw [dif_neg (fun ⟨n, z⟩ => z (this n))]
          | bad => rfl
          | _ =>
            have := all 1
            unfold whN at this
            rw [hc] at this
            simp only [R.on_ok, ifB] at this
            rw [hb2] at this
            exact this
      | _ =>
        have := all 1
        unfold whN at this
        rw [hc] at this
        exact this
    | exc c' L1 =>
      have := all 1
      unfold whN at this
      rw [hc] at this
      exact this
    | bad => rfl
theorem whW_step {Φ : Str → List D → Hd → R D} {c : Ex} {b : Sm} {ρ : Env} {L : Hd} : whW Φ c b ρ L = (evE Φ c ρ L).on ρ fun d L => ifB d ((run Φ b ρ L).turn fun ρ L => whW Φ c b ρ L) (.nx ρ L) := whL_step _ _ ρ L
def ofO (o : O) : R D := match o with
  | .nx _ L => .ok .non L
  | .rt d L => .ok d L
  | .ex c _ L => .exc c L
  | _ => .bad
theorem runF_mk {Φ : Str → List D → Hd → R D} {np n : Nat} {b : Sm} {ds : List D} {L : Hd} : runF Φ ⟨np, n, b⟩ ds L = if ds.length = np then ofO (run Φ b (ds.map some ++ List.replicate (n - ds.length) none) L) else .bad := rfl
theorem ofO_nx {ρ : Env} {L : Hd} : ofO (.nx ρ L) = .ok .non L := rfl
theorem ofO_rt {d : D} {L : Hd} : ofO (.rt d L) = .ok d L := rfl
theorem ofO_ex {c : Str} {ρ : Env} {L : Hd} : ofO (.ex c ρ L) = .exc c L := rfl
theorem items_r {n : Nat} {L : Hd} : items (.ref n) L = (getL L n).map fun xs => (some n, xs) := rfl
/-- a body's first rows, and the rest -/
def takeS : Nat → Sm → Sm
  | 0, _ => .pass
  | n + 1, .seq a b => .seq a (takeS n b)
  | _ + 1, s => s
def dropS : Nat → Sm → Sm
  | 0, s => s
  | n + 1, .seq _ b => dropS n b
  | _ + 1, _ => .pass
theorem takeS_0 {s : Sm} : takeS 0 s = .pass := rfl
theorem takeS_s {n : Nat} {a b : Sm} : takeS (n + 1) (.seq a b) = .seq a (takeS n b) := rfl
theorem dropS_0 {s : Sm} : dropS 0 s = s := rfl
theorem dropS_s {n : Nat} {a b : Sm} : dropS (n + 1) (.seq a b) = dropS n b := rfl
theorem then_nx (o : O) : (o.then fun ρ L => .nx ρ L) = o := by cases o <;> rfl
theorem then_then (o : O) (f g : Env → Hd → O) : (o.then f).then g = o.then fun ρ L => (f ρ L).then g := by cases o <;> rfl
theorem run_cut (Φ : Str → List D → Hd → R D) : ∀ (n : Nat) (s : Sm) (ρ : Env) (L : Hd), run Φ s ρ L = (run Φ (takeS n s) ρ L).then fun ρ L => run Φ (dropS n s) ρ L
  | 0, s, ρ, L => rfl
  | n + 1, s, ρ, L => by
    cases s with
    | seq a b =>
      rw [takeS_s, dropS_s, s_seq, s_seq, then_then]
      rw [show (fun ρ L => run Φ b ρ L) = (fun ρ L => (run Φ (takeS n b) ρ L).then fun ρ L => run Φ (dropS n b) ρ L) from funext fun ρ => funext fun L => run_cut Φ n b ρ L]
    | _ => exact (then_nx _).symm
theorem runF_cut {Φ : Str → List D → Hd → R D} {fd : Fd} (k : Nat) {ds : List D} {L : Hd} (h : ds.length = fd.np) : runF Φ fd ds L = ofO ((run Φ (takeS k fd.body) (ds.map some ++ List.replicate (fd.n - ds.length) none) L).then fun ρ L => run Φ (dropS k fd.body) ρ L) := by
  rw [← run_cut]
  exact if_pos h
/-! ### lists on the heap -/
def onL (o : Option (List D)) (f : List D → R D) : R D := match o with
  | some xs => f xs
  | none => .bad
theorem onL_s {xs : List D} {f : List D → R D} : onL (some xs) f = f xs := rfl
def onLo (o : Option (List D)) (f : List D → O) : O := match o with
  | some xs => f xs
  | none => .bad
theorem onLo_s {xs : List D} {f : List D → O} : onLo (some xs) f = f xs := rfl
def atV (o : Option D) (L : Hd) : R D := match o with
  | some v => .ok v L
  | none => .bad
theorem atV_s {v : D} {L : Hd} : atV (some v) L = .ok v L := rfl
def onV (o : Option D) (f : D → R D) : R D := match o with
  | some y => f y
  | none => .bad
theorem onV_s {y : D} {f : D → R D} : onV (some y) f = f y := rfl
section
variable {L M : Hd} {xs ys : List D} {n : Nat} {x y : D} {i : Int}
theorem lr_len : biop .len [.ref n] L = onL (getL L n) fun xs => .ok (.int xs.length) L := by
  show (match getL L n with | some xs => R.ok (D.int xs.length) L | none => .bad) = _
  cases getL L n <;> rfl
theorem lr_list : biop .list [.ref n] L = onL (getL L n) fun xs => alloc xs L := by
  show (match getL L n with | some xs => alloc xs L | none => .bad) = _
  cases getL L n <;> rfl
theorem lr_tuple : biop .tuple [.ref n] L = onL (getL L n) fun xs => .ok (.tup xs) L := by
  show (match getL L n with | some xs => R.ok (D.tup xs) L | none => .bad) = _
  cases getL L n <;> rfl
theorem ix_t' : ixop (.tup xs) (.int i) L = atV (L2.atI xs i) L := by
  show (match L2.atI xs i with | some v => R.ok v L | none => .bad) = _
  cases L2.atI xs i <;> rfl
theorem ix_r' : ixop (.ref n) (.int i) L = onL (getL L n) fun xs => atV (L2.atI xs i) L := by
  show (match getL L n with | some xs => (match L2.atI xs i with | some v => R.ok v L | none => .bad) | none => .bad) = _
  cases getL L n with
  | none => rfl
  | some xs =>
    show (match L2.atI xs i with | some v => R.ok v L | none => .bad) = atV (L2.atI xs i) L
    cases L2.atI xs i <;> rfl
theorem me_app : meop .append (.ref n) [y] L = if n = 0 then .bad else onL (getL L n) fun xs => if xs.length < LIM then .ok .non (setL L n (xs ++ [y])) else .bad := by
  show (if n = 0 then R.bad else (match getL L n with | some xs => if xs.length < LIM then R.ok D.non (setL L n (xs ++ [y])) else .bad | none => .bad)) = _
  cases getL L n <;> rfl
theorem me_pop : meop .pop (.ref n) [] L = if n = 0 then .bad else onL (getL L n) fun xs => onV xs[xs.length - 1]? fun y => .ok y (setL L n xs.dropLast) := by
  show (if n = 0 then R.bad else (match getL L n with | some xs => (match xs[xs.length - 1]? with | some y => R.ok y (setL L n xs.dropLast) | none => .bad) | none => .bad)) = _
  cases getL L n with
  | none => rfl
  | some xs =>
    show (if n = 0 then R.bad else (match xs[xs.length - 1]? with | some y => R.ok y (setL L n xs.dropLast) | none => .bad)) = (if n = 0 then R.bad else onV xs[xs.length - 1]? fun y => .ok y (setL L n xs.dropLast))
    cases xs[xs.length - 1]? <;> rfl
theorem me_rev : meop .reverse (.ref n) [] L = if n = 0 then .bad else onL (getL L n) fun xs => .ok .non (setL L n xs.reverse) := by
  show (if n = 0 then R.bad else (match getL L n with | some xs => R.ok D.non (setL L n xs.reverse) | none => .bad)) = _
  cases getL L n <;> rfl
theorem sl_r' {lo hi : Option Int} : slop (.ref n) lo hi L = onL (getL L n) fun xs => alloc (cut xs lo hi) L := by
  show (match getL L n with | some xs => alloc (cut xs lo hi) L | none => .bad) = _
  cases getL L n <;> rfl
theorem sl_t' {lo hi : Option Int} : slop (.tup xs) lo hi L = .ok (.tup (cut xs lo hi)) L := rfl
theorem recv_app : recv .append (.ref n) = true := rfl
theorem recv_pop : recv .pop (.ref n) = true := rfl
theorem recv_popAt : recv .popAt (.ref n) = true := rfl
theorem recv_clear : recv .clear (.ref n) = true := rfl
theorem recv_rev : recv .reverse (.ref n) = true := rfl
theorem recv_ins : recv .insert (.ref n) = true := rfl
theorem getL_at0 : getL (L ++ .lst xs :: M) L.length = some xs := by
  unfold getL
  rw [List.getElem?_append_right (Nat.le_refl _), Nat.sub_self]
  rfl
theorem getL_at1 {c : Cell} : getL (L ++ c :: .lst xs :: M) (L.length + 1) = some xs := by
  unfold getL
  rw [List.getElem?_append_right (by omega), Nat.add_sub_cancel_left]
  rfl
theorem getL_at2 {c d : Cell} : getL (L ++ c :: d :: .lst xs :: M) (L.length + 2) = some xs := by
  unfold getL
  rw [List.getElem?_append_right (by omega), Nat.add_sub_cancel_left]
  rfl
theorem getL_at3 {c d e : Cell} : getL (L ++ c :: d :: e :: .lst xs :: M) (L.length + 3) = some xs := by
  unfold getL
  rw [List.getElem?_append_right (by omega), Nat.add_sub_cancel_left]
  rfl
theorem setL_at0 {c : Cell} : setL (L ++ c :: M) L.length ys = L ++ .lst ys :: M := by
  unfold setL
  rw [List.set_append_right _ _ (Nat.le_refl _), Nat.sub_self]
  rfl
theorem setL_at1 {c d : Cell} : setL (L ++ c :: d :: M) (L.length + 1) ys = L ++ c :: .lst ys :: M := by
  unfold setL
  rw [List.set_append_right _ _ (by omega), Nat.add_sub_cancel_left]
  rfl
theorem setL_at2 {c d e : Cell} : setL (L ++ c :: d :: e :: M) (L.length + 2) ys = L ++ c :: d :: .lst ys :: M := by
  unfold setL
  rw [List.set_append_right _ _ (by omega), Nat.add_sub_cancel_left]
  rfl
theorem getL_0 {xs : List D} {L : Hd} : getL (.lst xs :: L) 0 = some xs := (rfl)
theorem getL_1 {c : Cell} {xs : List D} {L : Hd} : getL (c :: .lst xs :: L) 1 = some xs := (rfl)
theorem getL_2 {c d : Cell} {xs : List D} {L : Hd} : getL (c :: d :: .lst xs :: L) 2 = some xs := (rfl)
theorem getL_3 {c d e : Cell} {xs : List D} {L : Hd} : getL (c :: d :: e :: .lst xs :: L) 3 = some xs := (rfl)
theorem getL_4 {c d e f : Cell} {xs : List D} {L : Hd} : getL (c :: d :: e :: f :: .lst xs :: L) 4 = some xs := (rfl)
theorem setL_1 {c d : Cell} : setL (c :: d :: M) 1 ys = c :: .lst ys :: M := rfl
theorem setL_2 {c d e : Cell} : setL (c :: d :: e :: M) 2 ys = c :: d :: .lst ys :: M := rfl
theorem setL_3 {c d e f : Cell} : setL (c :: d :: e :: f :: M) 3 ys = c :: d :: e :: .lst ys :: M := rfl
theorem atI_0 {a : D} : L2.atI (a :: xs) 0 = some a := by
  unfold L2.atI L2.ixN
  simp
theorem atI_nat {k : Nat} (h : k < xs.length) : L2.atI xs (k : Int) = xs[k]? := by
  unfold L2.atI L2.ixN
  rw [if_pos (by omega), if_pos (by omega)]
  rfl
theorem atI_1 {a b : D} : L2.atI (a :: b :: xs) 1 = some b := (atI_nat (k := 1) (by simp)).trans rfl
theorem atI_2 {a b c : D} : L2.atI (a :: b :: c :: xs) 2 = some c := (atI_nat (k := 2) (by simp)).trans rfl
theorem atI_m1 {a : D} : L2.atI (xs ++ [a]) (-1) = some a := by
  unfold L2.atI L2.ixN
  rw [if_neg (by decide), if_pos (by simp; omega)]
  have e : (-1 + ((xs ++ [a]).length : Int)).toNat = xs.length := by simp; omega
  show (xs ++ [a])[(-1 + ((xs ++ [a]).length : Int)).toNat]? = _
  rw [e]
  simp
end
end MP

/-! MP without a heap: lists are values, a name may own one. Syntax is MP's. -/
namespace FP
open PySem MP

inductive Dv where
  | non | bl (b : Bool) | int (i : Int) | str (x : Str) | tup (xs : List Dv) | lst (xs : List Dv) | scr (xs : List Dv) | own (xs : List Dv) | fn (f : Str) | exc (c : Str)
deriving Inhabited
inductive Rv (α : Type) where
  | ok (a : α) | exc (c : Str) | bad
def Rv.bind {α β : Type} (r : Rv α) (f : α → Rv β) : Rv β := match r with
  | .ok a => f a
  | .exc c => .exc c
  | .bad => .bad
theorem Rv.bind_ok {α β : Type} (a : α) (f : α → Rv β) : (Rv.ok a).bind f = f a := rfl
theorem Rv.bind_exc {α β : Type} (c : Str) (f : α → Rv β) : (Rv.exc c : Rv α).bind f = .exc c := rfl
theorem Rv.bind_bad {α β : Type} (f : α → Rv β) : (Rv.bad : Rv α).bind f = .bad := rfl
abbrev Ev := List (Option Dv)

/-- a list handed on is changed no more -/
def frz (d : Dv) : Dv := match d with
  | .own xs => .lst xs
  | d => d
/-- may a list stand in it? -/
def lsF : Nat → Dv → Bool
  | 0, _ => true
  | n + 1, .tup xs => xs.any (lsF n)
  | _ + 1, .lst _ => true
  | _ + 1, .scr _ => true
  | _ + 1, .own _ => true
  | _ + 1, _ => false
def FUEL : Nat := 12
def inL (d : Dv) : Bool := match d with
  | .own xs => xs.any (lsF FUEL)
  | d => lsF FUEL d

/-! ### operators -/
noncomputable def binP (o : Bop) (x y : Dv) : Rv Dv := match o, x, y with
  | .add, .int i, .int j => .ok (.int (i + j))
  | .add, .str a, .str b => if a.length + b.length ≤ LIM then .ok (.str (a ++ b)) else .bad
  | .add, .tup a, .tup b => if a.length + b.length ≤ LIM then .ok (.tup (a ++ b)) else .bad
  | .add, .lst a, .lst b => if a.length + b.length ≤ LIM then .ok (.own (a ++ b)) else .bad
  | .sub, .int i, .int j => .ok (.int (i - j))
  | .mul, .int i, .int j => if mulOk i j then .ok (.int (i * j)) else .bad
  | .fdiv, .int i, .int j => if divOk i j then .ok (.int (i.fdiv j)) else .bad
  | .mod, .int i, .int j => if j ≠ 0 then .ok (.int (i.fmod j)) else .bad
  | .pow, .int i, .int j => if powOk i j then .ok (.int (i ^ j.toNat)) else .bad
  | _, _, _ => .bad
def pyAllP (f : Dv → Option PyData) : List Dv → Option (List PyData)
  | [] => some []
  | x :: xs => match f x, pyAllP f xs with
    | some p, some ps => some (p :: ps)
    | _, _ => none
def pyP : Nat → Dv → Option PyData
  | 0, _ => none
  | _ + 1, .non => some .none
  | _ + 1, .bl b => some (.bool b)
  | _ + 1, .int i => some (.int i)
  | _ + 1, .str x => some (.str x)
  | n + 1, .tup xs => (pyAllP (pyP n) xs).map PyData.tuple
  | n + 1, .lst xs => (pyAllP (pyP n) xs).map PyData.list
  | n + 1, .scr xs => (pyAllP (pyP n) xs).map PyData.list
  | _ + 1, _ => none
def eqP (x y : Dv) (f : Bool → Bool) : Rv Dv := match pyP DEEP x, pyP DEEP y with
  | some p, some q => if SeqAt.shaped p = true ∧ SeqAt.shaped q = true then .ok (.bl (f (PyData.eqv p q))) else .bad
  | _, _ => .bad
def strsP : List Dv → Option (List Str)
  | [] => some []
  | .str x :: xs => (strsP xs).map (x :: ·)
  | _ :: _ => none
def cmpP (o : Cop) (x y : Dv) : Rv Dv := match o, x, y with
  | .lt, .int i, .int j => .ok (.bl (decide (i < j)))
  | .le, .int i, .int j => .ok (.bl (decide (i ≤ j)))
  | .gt, .int i, .int j => .ok (.bl (decide (j < i)))
  | .ge, .int i, .int j => .ok (.bl (decide (j ≤ i)))
  | .eq, x, y => eqP x y id
  | .ne, x, y => eqP x y not
  | .in_, .str a, .str b => match a.cps.toList with
    | [c] => .ok (.bl (decide (c ∈ b.cps.toList)))
    | _ => .bad
  | .nin, .str a, .str b => match a.cps.toList with
    | [c] => .ok (.bl (!decide (c ∈ b.cps.toList)))
    | _ => .bad
  | .in_, .str a, .tup xs => match strsP xs with
    | some ys => .ok (.bl (decide (a ∈ ys)))
    | none => .bad
  | .nin, .str a, .tup xs => match strsP xs with
    | some ys => .ok (.bl (!decide (a ∈ ys)))
    | none => .bad
  | _, _, _ => .bad
/-- a list's things -/
def lsOf (d : Dv) : Option (List Dv) := match d with
  | .lst xs => some xs
  | .scr xs => some xs
  | _ => none
def atP (o : Option Dv) : Rv Dv := match o with
  | some v => .ok v
  | none => .bad
def ixP (x i : Dv) : Rv Dv := match x, i with
  | .tup xs, .int i => atP (L2.atI xs i)
  | .lst xs, .int i => atP (L2.atI xs i)
  | .scr xs, .int i => atP (L2.atI xs i)
  | .str z, .int i => if z.length ≤ LIM then (match L2.atI z.cps.toList i with
    | some c => .ok (.str ⟨#[c]⟩)
    | none => .bad) else .bad
  | _, _ => .bad
def partP : Dv → Option (Option Int)
  | .exc _ => some none
  | .int i => some (some i)
  | _ => none
def allocP (xs : List Dv) : Rv Dv := if xs.length ≤ LIM then .ok (.own xs) else .bad
def slP (x : Dv) (lo hi : Option Int) : Rv Dv := match x with
  | .tup xs => .ok (.tup (cut xs lo hi))
  | .lst xs => allocP (cut xs lo hi)
  | .scr xs => allocP (cut xs lo hi)
  | .str z => if z.length ≤ LIM then .ok (.str (L2.cutS z lo hi)) else .bad
  | _ => .bad
def onPartP (d : Dv) (f : Option Int → Rv Dv) : Rv Dv := match partP d with
  | some o => f o
  | none => .bad
def intsP : List Dv → Option (List Int)
  | [] => some []
  | .int x :: xs => (intsP xs).map (x :: ·)
  | _ :: _ => none
def sortP (o : Option (List Int)) (r : Bool) : Rv Dv := match o with
  | some ns => allocP ((if r = true then (up ns).reverse else up ns).map Dv.int)
  | none => .bad
def biP (b : Bi) (ds : List Dv) : Rv Dv := match b, ds with
  | .abs, [.int i] => .ok (.int (if i < 0 then -i else i))
  | .len, [.tup xs] => .ok (.int xs.length)
  | .len, [.lst xs] => .ok (.int xs.length)
  | .len, [.scr xs] => .ok (.int xs.length)
  | .len, [.str z] => if z.length ≤ LIM then .ok (.int z.length) else .bad
  | .max, [.int i, .int j] => .ok (.int (if j > i then j else i))
  | .min, [.int i, .int j] => .ok (.int (if j < i then j else i))
  | .int, [.int i] => .ok (.int i)
  | .int, [.bl k] => .ok (.int (if k then 1 else 0))
  | .int, [.str z] => (match intText? z with
    | some n => if z.length ≤ 640 then .ok (.int n) else .bad
    | none => .bad)
  | .str, [.int i] => if i.natAbs.log2 < 1920 then .ok (.str (Str.ofString (toString i))) else .bad
  | .list, [.tup xs] => allocP xs
  | .list, [.lst xs] => allocP xs
  | .list, [.scr xs] => allocP xs
  | .tuple, [.tup xs] => .ok (.tup xs)
  | .tuple, [.lst xs] => .ok (.tup xs)
  | .tuple, [.scr xs] => .ok (.tup xs)
  | .sorted, [.lst xs] => sortP (intsP xs) false
  | .sortedR, [.lst xs] => sortP (intsP xs) true
  | _, _ => .bad
def isStrP (x : Dv) : Bool := match x with
  | .str _ => true
  | _ => false
def seqP (d : Dv) : Option (List Dv) := match d with
  | .tup xs => some xs
  | .lst xs => some xs
  | .scr xs => some xs
  | _ => none
def tmP (m : Tm) (x : Dv) (ds : List Dv) : Rv Dv := match m, x, ds with
  | .partition, .str a, [.str b] => if (b.length == 0) = false ∧ a.length ≤ LIM then .ok (.tup [.str (Txt.partition a b).1, .str (Txt.partition a b).2.1, .str (Txt.partition a b).2.2]) else .bad
  | .split, .str a, [.str b] => if (b.length == 0) = false ∧ a.length ≤ LIM then allocP ((Txt.split a b).map Dv.str) else .bad
  | .startswith, .str a, [.str b] => .ok (.bl (Txt.startswith a b))
  | .replace, .str a, [.str y, .str z] => if (y == z) = false ∧ a.length + (a.length + 1) * z.length ≤ LIM then .ok (.str (Txt.replace a y z)) else .bad
  | .join, .str a, [d] => (match (seqP d).bind strsP with
    | some ys => if (ys.map (·.length)).sum + ys.length * a.length ≤ LIM then .ok (.str (Txt.join a ys)) else .bad
    | none => .bad)
  | _, _, _ => .bad
def tyP (x : Dv) (t : Ty) : Rv Dv := match x with
  | .non => .ok (.bl false)
  | .bl _ => .ok (.bl (t == .bool || t == .int))
  | .int _ => .ok (.bl (t == .int))
  | .str _ => .ok (.bl (t == .str))
  | .tup _ => .ok (.bl (t == .tuple))
  | .lst _ => .ok (.bl (t == .list))
  | .scr _ => .ok (.bl (t == .list))
  | _ => .bad
def stepsP (lo c : Int) : Nat → List Dv
  | 0 => []
  | n + 1 => .int lo :: stepsP (lo + c) c n
noncomputable def rngP (ds : List Dv) : Rv Dv := match ds with
  | [.int j] => if small j then .ok (.tup (stepsP 0 1 j.toNat)) else .bad
  | [.int i, .int j] => if small i ∧ small j then .ok (.tup (stepsP i 1 (j - i).toNat)) else .bad
  | [.int i, .int j, .int c] => if rngOk i j c then .ok (.tup (stepsP i c (Builtin.Range.rangeSize i j c).toNat)) else .bad
  | _ => .bad
def revP (d : Dv) : Rv Dv := match d with
  | .tup xs => .ok (.tup xs.reverse)
  | _ => .bad
def itemsP (d : Dv) : Option (List Dv) := match d with
  | .tup xs => some xs
  | .lst xs => some xs
  | .scr xs => some xs
  | .str z => some (z.cps.toList.map fun c => Dv.str ⟨#[c]⟩)
  | _ => none
def lcP (c e : Dv → Rv Dv) : List Dv → Rv (List Dv)
  | [] => .ok []
  | x :: xs => match c x with
    | .ok (.bl true) => (match e x with
      | .ok y => (match lcP c e xs with
        | .ok ys => .ok (frz y :: ys)
        | _ => .bad)
      | _ => .bad)
    | .ok (.bl false) => lcP c e xs
    | _ => .bad

def lcPX (c e : Dv → Rv Dv) : List Dv → Rv (List Dv)
  | [] => .ok []
  | x :: xs => match c x with
    | .ok (.bl true) => (match e x with
      | .ok y => (match lcPX c e xs with
        | .ok ys => .ok (frz y :: ys)
        | .exc k => .exc k
        | .bad => .bad)
      | .exc k => .exc k
      | .bad => .bad)
    | .ok (.bl false) => lcPX c e xs
    | _ => .bad

/-! ### expressions -/
def callP (Φ : Str → List Dv → Rv Dv) (f : Str) (d : Dv) : Rv Dv := match d with
  | .tup ds => Φ f ds
  | _ => .bad
def onBlP (d : Dv) (t f : Rv Dv) : Rv Dv := match d with
  | .bl true => t
  | .bl false => f
  | _ => .bad
def getP (o : Option (Option Dv)) : Rv Dv := match o with
  | some (some (.exc _)) => .bad
  | some (some d) => .ok d
  | _ => .bad
def consP (x y : Dv) : Rv Dv := match y with
  | .tup ys => .ok (.tup (frz x :: ys))
  | _ => .bad
def tupP (x : Dv) : Rv Dv := match x with
  | .tup xs => if xs.length ≤ LIM then .ok (.tup xs) else .bad
  | _ => .bad
def lstP (x : Dv) : Rv Dv := match x with
  | .tup xs => allocP xs
  | _ => .bad
def negP (x : Dv) : Rv Dv := match x with
  | .int i => .ok (.int (-i))
  | _ => .bad
def onTupP (x : Dv) (f : List Dv → Rv Dv) : Rv Dv := match x with
  | .tup xs => f xs
  | _ => .bad
def isNonP (x : Dv) : Bool := match x with
  | .non => true
  | _ => false
def okOnlyP (r : Rv Dv) : Rv Dv := match r with
  | .ok d => .ok d
  | _ => .bad
def onFnP (o : Option (Option Dv)) (f : Str → Rv Dv) : Rv Dv := match o with
  | some (some (.fn g)) => f g
  | _ => .bad
def onExcP (o : Option (Option Dv)) (f : Str → Rv Dv) : Rv Dv := match o with
  | some (some (.exc g)) => f g
  | _ => .bad
def onItemsP {α : Type} (o : Option (List Dv)) (z : α) (f : List Dv → α) : α := match o with
  | some xs => f xs
  | none => z
noncomputable def evP (Φ : Str → List Dv → Rv Dv) : Ex → Ev → Rv Dv
  | .bad, _ => .bad
  | .non, _ => .ok .non
  | .bl b, _ => .ok (.bl b)
  | .int i, _ => .ok (.int i)
  | .str x, _ => .ok (.str x)
  | .v i, σ => (getP σ[i]?).bind fun d => .ok (frz d)
  | .k _ e, _ => evP Φ e []
  | .f x, _ => .ok (.fn x)
  | .nil, _ => .ok (.tup [])
  | .absent, _ => .ok (.exc ⟨#[]⟩)
  | .cons a b, σ => (evP Φ a σ).bind fun x => (evP Φ b σ).bind fun y => consP x y
  | .tup a, σ => (evP Φ a σ).bind tupP
  | .lst a, σ => (evP Φ a σ).bind lstP
  | .bin o a b, σ => (evP Φ a σ).bind fun x => (evP Φ b σ).bind fun y => binP o (frz x) (frz y)
  | .neg a, σ => (evP Φ a σ).bind negP
  | .not a, σ => (evP Φ a σ).bind fun x => onBlP x (.ok (.bl false)) (.ok (.bl true))
  | .and a b, σ => (evP Φ a σ).bind fun x => onBlP x (evP Φ b σ) (.ok (.bl false))
  | .or a b, σ => (evP Φ a σ).bind fun x => onBlP x (.ok (.bl true)) (evP Φ b σ)
  | .cmp o a b, σ => (evP Φ a σ).bind fun x => (evP Φ b σ).bind fun y => cmpP o (frz x) (frz y)
  | .isn a, σ => (evP Φ a σ).bind fun x => .ok (.bl (isNonP x))
  | .notn a, σ => (evP Φ a σ).bind fun x => .ok (.bl (!isNonP x))
  | .ix a i, σ => (evP Φ a σ).bind fun x => (evP Φ i σ).bind fun y => ixP (frz x) y
  | .sl a lo hi, σ => (evP Φ a σ).bind fun x => (evP Φ lo σ).bind fun l => onPartP l fun l => (evP Φ hi σ).bind fun u => onPartP u fun u => slP (frz x) l u
  | .call f as, σ => (evP Φ as σ).bind fun d => callP Φ f d
  | .callv i as, σ => onFnP σ[i]? fun f => (evP Φ as σ).bind fun d => okOnlyP (callP Φ f d)
  | .bi b as, σ => (evP Φ as σ).bind fun d => onTupP d fun ds => biP b ds
  | .isi a t, σ => (evP Φ a σ).bind fun x => tyP (frz x) t
  | .ise i c, σ => onExcP σ[i]? fun a => .ok (.bl (isSub a c))
  | .me _ _ _, _ => .bad
  | .tm m o as, σ => (evP Φ o σ).bind fun x => if isStrP (frz x) = true then (evP Φ as σ).bind fun d => onTupP d fun ds => tmP m (frz x) ds else .bad
  | .lc s it c e, σ => (evP Φ it σ).bind fun d => onItemsP (itemsP (frz d)) .bad fun xs => (lcP (fun x => evP Φ c (σ.set s (some x))) (fun x => evP Φ e (σ.set s (some x))) xs).bind allocP
  | .rng as, σ => (evP Φ as σ).bind fun d => onTupP d rngP
  | .rev a, σ => (evP Φ a σ).bind revP
/-- the names that an expression reads -/
def vars : Ex → List Nat
  | .v i => [i]
  | .cons a b => vars a ++ vars b
  | .tup a => vars a
  | .lst a => vars a
  | .bin _ a b => vars a ++ vars b
  | .neg a => vars a
  | .not a => vars a
  | .and a b => vars a ++ vars b
  | .or a b => vars a ++ vars b
  | .cmp _ a b => vars a ++ vars b
  | .isn a => vars a
  | .notn a => vars a
  | .ix a i => vars a ++ vars i
  | .sl a lo hi => vars a ++ (vars lo ++ vars hi)
  | .call _ as => vars as
  | .tm _ o as => vars o ++ vars as
  | .callv i as => i :: vars as
  | .bi _ as => vars as
  | .isi a _ => vars a
  | .ise i _ => [i]
  | .lc _ it c e => vars it ++ (vars c ++ vars e)
  | .rng as => vars as
  | .rev a => vars a
  | _ => []
/-- the names' lists are handed on -/
def frzAt (i : Nat) (σ : Ev) : Ev := match σ[i]? with
  | some (some d) => σ.set i (some (frz d))
  | _ => σ
def frzs : List Nat → Ev → Ev
  | [], σ => σ
  | i :: vs, σ => frzs vs (frzAt i σ)
def frzIf (b : Bool) (vs : List Nat) (σ : Ev) : Ev := if b = true then frzs vs σ else σ

/-- of an own list's element, read by a number, the list itself is not handed on -/
def varsX : Ex → List Nat
  | .ix (.v _) (.int _) => []
  | e => vars e

/-! ### statements -/
inductive Op where
  | nx (σ : Ev) | rt (d : Dv) | bk (σ : Ev) | ct (σ : Ev) | ex (c : Str) (σ : Ev) | bad
def Rv.on {α : Type} (r : Rv α) (σ : Ev) (f : α → Op) : Op := match r with
  | .ok a => f a
  | .exc c => .ex c σ
  | .bad => .bad
theorem Rv.on_ok {α : Type} (a : α) (σ : Ev) (f : α → Op) : (Rv.ok a).on σ f = f a := rfl
theorem Rv.on_exc {α : Type} (c : Str) (σ : Ev) (f : α → Op) : (Rv.exc c : Rv α).on σ f = .ex c σ := rfl
theorem Rv.on_bad {α : Type} (σ : Ev) (f : α → Op) : (Rv.bad : Rv α).on σ f = .bad := rfl
def Op.then (o : Op) (f : Ev → Op) : Op := match o with
  | .nx σ => f σ
  | o => o
def ifP (d : Dv) (t f : Op) : Op := match d with
  | .bl true => t
  | .bl false => f
  | _ => .bad
def Op.turn (o : Op) (f : Ev → Op) : Op := match o with
  | .nx σ => f σ
  | .ct σ => f σ
  | .bk σ => .nx σ
  | o => o
def whNP (c : Ev → Rv Dv) (b : Ev → Op) : Nat → Ev → Op
  | 0, _ => .bad
  | n + 1, σ => (c σ).on σ fun d => ifP d ((b σ).turn fun σ => whNP c b n σ) (.nx σ)
open Classical in
noncomputable def whLP (c : Ev → Rv Dv) (b : Ev → Op) (σ : Ev) : Op := if h : ∃ n, whNP c b n σ ≠ .bad then whNP c b (choose h) σ else .bad
def forP (b : Ev → Op) (s : Nat) : List Dv → Ev → Op
  | [], σ => .nx σ
  | x :: xs, σ => (b (σ.set s (some x))).turn fun σ => forP b s xs σ
def forP2 (b : Ev → Op) (i j : Nat) : List Dv → Ev → Op
  | [], σ => .nx σ
  | x :: xs, σ => (match x with
    | .tup [y, z] => (b ((σ.set i (some y)).set j (some z))).turn fun σ => forP2 b i j xs σ
    | _ => .bad)
def augP (o : Bop) (x : Int) (y : Dv) : Option Int := match o, y with
  | .add, .int y => some (x + y)
  | .sub, .int y => some (x - y)
  | _, _ => none
/-- a method of a name's own list: what it tells, the list behind it -/
noncomputable def meP (m : Me) (xs ds : List Dv) : Option (Dv × List Dv) := match m, ds with
  | .append, [y] => if xs.length < LIM then some (.non, xs ++ [y]) else none
  | .pop, [] => match xs[xs.length - 1]? with
    | some y => some (y, xs.dropLast)
    | none => none
  | .popAt, [.int i] => match L2.ixN xs.length i with
    | some k => (match xs[k]? with
      | some y => if popOk i then some (y, xs.eraseIdx k) else none
      | none => none)
    | none => none
  | .clear, [] => some (.non, [])
  | .reverse, [] => some (.non, xs.reverse)
  | .insert, [.int i, y] => if 0 ≤ i ∧ i ≤ xs.length ∧ xs.length < LIM then some (.non, xs.take i.toNat ++ y :: xs.drop i.toNat) else none
  | _, _ => none
def meX : Ex → Option (Me × Nat × Ex)
  | .me m (.v j) as => some (m, j, as)
  | _ => none
def varX : Ex → Option Nat
  | .v j => some j
  | _ => none
def onOwn (o : Option (Option Dv)) (f : List Dv → Op) : Op := match o with
  | some (some (.own xs)) => f xs
  | _ => .bad
def onSome {α : Type} (o : Option α) (f : α → Op) : Op := match o with
  | some x => f x
  | none => .bad
def onTupO (x : Dv) (f : List Dv → Op) : Op := match x with
  | .tup xs => f xs
  | _ => .bad
def onIntP (o : Option (Option Dv)) (f : Int → Op) : Op := match o with
  | some (some (.int x)) => f x
  | _ => .bad
/-- a call of a method of the name j's own list -/
noncomputable def meGo (Φ : Str → List Dv → Rv Dv) (m : Me) (j : Nat) (as : Ex) (σ : Ev) (f : Dv → Ev → Op) : Op :=
  if recv m (.ref 0) = true then onOwn σ[j]? fun _ => (evP Φ as σ).on σ fun d => onTupO d fun ds => onOwn (frzIf (inL d) (vars as) σ)[j]? fun xs => onSome (meP m xs ds) fun p => f p.1 ((frzIf (inL d) (vars as) σ).set j (some (.own p.2))) else .bad
def rawP (o : Option (Option Dv)) : Op := match o with
  | some (some (.exc _)) => .bad
  | some (some d) => .rt d
  | _ => .bad
def isL (d : Dv) : Bool := match d with
  | .lst _ => true
  | .own _ => true
  | _ => false
def setixP (xs : List Dv) (k y : Dv) (f : List Dv → Op) : Op := match k with
  | .int j => (match L2.ixN xs.length j with
    | some p => f (xs.set p y)
    | none => .bad)
  | _ => .bad
def tryRP (o : Op) (c d : Str) : Op := match o with
  | .ex c' σ => if isSub c' c = true then .ex d σ else .ex c' σ
  | o => o
def noExP (o : Op) : Op := match o with
  | .ex _ _ => .bad
  | o => o
def try2P (o : Op) (c1 : Str) (h1 : Ev → Op) (c2 : Str) (h2 : Ev → Op) : Op := match o with
  | .ex c' σ => if isSub c' c1 = true then noExP (h1 σ) else if isSub c' c2 = true then noExP (h2 σ) else .ex c' σ
  | o => o
def tryNP (o : Op) (c : Str) (h : Ev → Op) : Op := match o with
  | .ex c' σ' => if isSub c' c = true then (match h σ' with
    | .ex _ _ => .bad
    | o => o) else .ex c' σ'
  | o => o
def tryAP (o : Op) (c : Str) (i : Nat) (h : Ev → Op) : Op := match o with
  | .ex c' σ' => if isSub c' c = true then (match h (σ'.set i (some (.exc c'))) with
    | .rt d => .rt d
    | _ => .bad) else .ex c' σ'
  | o => o
noncomputable def runP (Φ : Str → List Dv → Rv Dv) : Sm → Ev → Op
  | .bad, _ => .bad
  | .pass, σ => .nx σ
  | .seq a b, σ => (runP Φ a σ).then fun σ => runP Φ b σ
  | .set i e, σ => (match meX e with
    | some (m, j, as) => meGo Φ m j as σ fun d σ => .nx (σ.set i (some d))
    | none => (evP Φ e σ).on σ fun d => .nx ((frzIf (inL d) (vars e) σ).set i (some d)))
  | .setix a i e, σ => (match varX a with
    | some j => (evP Φ e σ).on σ fun y => onOwn (frzIf (inL (frz y)) (varsX e) σ)[j]? fun xs => (evP Φ i (frzIf (inL (frz y)) (varsX e) σ)).on (frzIf (inL (frz y)) (varsX e) σ) fun k => setixP xs k (frz y) fun xs => .nx ((frzIf (inL (frz y)) (varsX e) σ).set j (some (.own xs)))
    | none => .bad)
  | .aug i o e, σ => onIntP σ[i]? fun x => (evP Φ e σ).on σ fun y => onSome (augP o x y) fun z => .nx (σ.set i (some (.int z)))
  | .ex e, σ => (match meX e with
    | some (m, j, as) => meGo Φ m j as σ fun _ σ => .nx σ
    | none => (evP Φ e σ).on σ fun _ => .nx σ)
  | .ite c a b, σ => (evP Φ c σ).on σ fun d => ifP d (runP Φ a σ) (runP Φ b σ)
  | .wh c b, σ => whLP (fun σ => evP Φ c σ) (fun σ => runP Φ b σ) σ
  | .for_ s it b, σ => (evP Φ it σ).on σ fun d => onItemsP (itemsP (frz d)) .bad fun xs => forP (fun σ => runP Φ b σ) s xs (frzIf (isL d || inL d) (vars it) σ)
  | .for2 i j it b, σ => (evP Φ it σ).on σ fun d => onItemsP (itemsP (frz d)) .bad fun xs => forP2 (fun σ => runP Φ b σ) i j xs (frzIf (isL d || inL d) (vars it) σ)
  | .ret e, σ => (match varX e with
    | some j => rawP σ[j]?
    | none => (evP Φ e σ).on σ fun d => .rt d)
  | .retn, _ => .rt .non
  | .brk, σ => .bk σ
  | .cnt, σ => .ct σ
  | .raise c, σ => .ex c σ
  | .try_ b c s h, σ => (match s with
    | none => tryNP (runP Φ b σ) c fun σ => runP Φ h σ
    | some i => tryAP (runP Φ b σ) c i fun σ => runP Φ h σ)
  | .setlc i s it c e, σ => (evP Φ it σ).on σ fun d => onItemsP (itemsP (frz d)) .bad fun xs => if xs.length ≤ LIM then (match lcPX (fun x => evP Φ c (σ.set s (some x))) (fun x => evP Φ e (σ.set s (some x))) xs with
    | .ok qs => (allocP qs).on σ fun d => .nx ((frzIf (inL d) (vars (.lc s it c e)) σ).set i (some d))
    | .exc k => .ex k σ
    | .bad => .bad) else .bad
  | .tryR b c d, σ => tryRP (runP Φ b σ) c d
  | .try2 b c1 h1 c2 h2, σ => try2P (runP Φ b σ) c1 (fun σ => runP Φ h1 σ) c2 fun σ => runP Φ h2 σ
def ofP (o : Op) : Rv Dv := match o with
  | .nx _ => .ok .non
  | .rt d => .ok d
  | .ex c _ => .exc c
  | _ => .bad
noncomputable def runFP (Φ : Str → List Dv → Rv Dv) (fd : Fd) (ds : List Dv) : Rv Dv :=
  if ds.length = fd.np then ofP (runP Φ fd.body (ds.map some ++ List.replicate (fd.n - ds.length) none)) else .bad
noncomputable def runTP (T : Str → Option Fd) : Nat → Str → List Dv → Rv Dv
  | 0, _, _ => .bad
  | k + 1, f, ds => match T f with
    | some fd => runFP (runTP T k) fd ds
    | none => .bad
end FP

/-! What stands for a value of FP in MP. -/
namespace FP
open PySem MP

mutual
inductive Rel (L : Hd) (S : Nat → Prop) : D → Dv → Prop
  | non : Rel L S .non .non
  | bl (b : Bool) : Rel L S (.bl b) (.bl b)
  | int (i : Int) : Rel L S (.int i) (.int i)
  | str (x : Str) : Rel L S (.str x) (.str x)
  | fn (f : Str) : Rel L S (.fn f) (.fn f)
  | exc (c : Str) : Rel L S (.exc c) (.exc c)
  | tup {ds : List D} {ps : List Dv} : Rels L S ds ps → Rel L S (.tup ds) (.tup ps)
  | lst {n : Nat} {ds : List D} {ps : List Dv} : n ≠ 0 → S n → getL L n = some ds → Rels L S ds ps → Rel L S (.ref n) (.lst ps)
  | scr {ds : List D} {ps : List Dv} : S 0 → getL L 0 = some ds → Rels L S ds ps → Rel L S (.ref 0) (.scr ps)
inductive Rels (L : Hd) (S : Nat → Prop) : List D → List Dv → Prop
  | nil : Rels L S [] []
  | cons {d : D} {p : Dv} {ds : List D} {ps : List Dv} : Rel L S d p → Rels L S ds ps → Rels L S (d :: ds) (p :: ps)
end
mutual
theorem Rel.mono {L L' : Hd} {S S' : Nat → Prop} (h1 : ∀ n, S n → S' n) (h2 : ∀ n, S n → L'[n]? = L[n]?) : ∀ {d : D} {p : Dv}, Rel L S d p → Rel L' S' d p
  | _, _, .non => .non
  | _, _, .bl b => .bl b
  | _, _, .int i => .int i
  | _, _, .str x => .str x
  | _, _, .fn x => .fn x
  | _, _, .exc x => .exc x
  | _, _, .tup t => .tup (Rels.mono h1 h2 t)
  | _, _, .lst z s g t => .lst z (h1 _ s) (by unfold getL at g ⊢; rw [h2 _ s]; exact g) (Rels.mono h1 h2 t)
  | _, _, .scr s g t => .scr (h1 _ s) (by unfold getL at g ⊢; rw [h2 _ s]; exact g) (Rels.mono h1 h2 t)
theorem Rels.mono {L L' : Hd} {S S' : Nat → Prop} (h1 : ∀ n, S n → S' n) (h2 : ∀ n, S n → L'[n]? = L[n]?) : ∀ {ds : List D} {ps : List Dv}, Rels L S ds ps → Rels L' S' ds ps
  | _, _, .nil => .nil
  | _, _, .cons r t => .cons (Rel.mono h1 h2 r) (Rels.mono h1 h2 t)
end
theorem Rels.length {L : Hd} {S : Nat → Prop} : ∀ {ds : List D} {ps : List Dv}, Rels L S ds ps → ds.length = ps.length
  | _, _, .nil => rfl
  | _, _, .cons _ t => by rw [List.length_cons, List.length_cons, Rels.length t]
/-- of what has no list nothing hangs on the heap -/
theorem Rel.free {L L' : Hd} {S S' : Nat → Prop} : ∀ (n : Nat) {d : D} {p : Dv}, lsF n p = false → Rel L S d p → Rel L' S' d p
  | 0, _, _, h, _ => by simp [lsF] at h
  | n + 1, _, _, h, r => by
    have all : ∀ {ds : List D} {ps : List Dv}, ps.any (lsF n) = false → Rels L S ds ps → Rels L' S' ds ps := by
      intro ds ps h r
      induction ps generalizing ds with
      | nil =>
        cases r
        exact .nil
      | cons p ps ih =>
        cases r with
        | cons r t =>
          simp only [List.any_cons, Bool.or_eq_false_iff] at h
          exact .cons (Rel.free n h.1 r) (ih h.2 t)
    cases r with
    | non => exact .non
    | bl b => exact .bl b
    | int i => exact .int i
    | str x => exact .str x
    | fn x => exact .fn x
    | exc x => exact .exc x
    | tup t => exact .tup (all h t)
    | lst _ _ _ _ => simp [lsF] at h
    | scr _ _ _ => simp [lsF] at h
theorem Rels.free {L L' : Hd} {S S' : Nat → Prop} (n : Nat) : ∀ {ds : List D} {ps : List Dv}, ps.any (lsF n) = false → Rels L S ds ps → Rels L' S' ds ps
  | _, _, _, .nil => .nil
  | _, _, h, .cons r t => by
    simp only [List.any_cons, Bool.or_eq_false_iff] at h
    exact .cons (Rel.free n h.1 r) (Rels.free n h.2 t)
section
variable {L : Hd} {S : Nat → Prop}
theorem Rels.get : ∀ {ds : List D} {vs : List Dv} {i : Nat} {v : Dv}, Rels L S ds vs → vs[i]? = some v → ∃ d, ds[i]? = some d ∧ Rel L S d v
  | _, _, _, _, .nil, h => by simp at h
  | _, _, 0, _, .cons r _, h => by
    cases h
    exact ⟨_, rfl, r⟩
  | _, _, i + 1, _, .cons _ t, h => Rels.get (i := i) t h
theorem Rels.append : ∀ {ds es : List D} {vs us : List Dv}, Rels L S ds vs → Rels L S es us → Rels L S (ds ++ es) (vs ++ us)
  | _, _, _, _, .nil, s => s
  | _, _, _, _, .cons r t, s => .cons r (Rels.append t s)
theorem Rels.take : ∀ {ds : List D} {vs : List Dv} (n : Nat), Rels L S ds vs → Rels L S (ds.take n) (vs.take n)
  | _, _, 0, _ => by simpa using Rels.nil
  | _, _, _ + 1, .nil => .nil
  | _, _, n + 1, .cons r t => .cons r (Rels.take n t)
theorem Rels.drop : ∀ {ds : List D} {vs : List Dv} (n : Nat), Rels L S ds vs → Rels L S (ds.drop n) (vs.drop n)
  | _, _, 0, r => r
  | _, _, _ + 1, .nil => .nil
  | _, _, n + 1, .cons _ t => Rels.drop n t
theorem Rels.set : ∀ {ds : List D} {vs : List Dv} {d : D} {v : Dv} (n : Nat), Rels L S ds vs → Rel L S d v → Rels L S (ds.set n d) (vs.set n v)
  | _, _, _, _, _, .nil, _ => .nil
  | _, _, _, _, 0, .cons _ t, r => .cons r t
  | _, _, _, _, n + 1, .cons q t, r => .cons q (Rels.set n t r)
theorem Rels.rev : ∀ {ds : List D} {vs : List Dv}, Rels L S ds vs → Rels L S ds.reverse vs.reverse
  | _, _, .nil => .nil
  | _, _, .cons r t => by
    rw [List.reverse_cons, List.reverse_cons]
    exact (Rels.rev t).append (.cons r .nil)
theorem Rels.erase : ∀ {ds : List D} {vs : List Dv} (n : Nat), Rels L S ds vs → Rels L S (ds.eraseIdx n) (vs.eraseIdx n)
  | _, _, _, .nil => .nil
  | _, _, 0, .cons _ t => t
  | _, _, n + 1, .cons q t => .cons q (Rels.erase n t)
theorem Rels.dropLast {ds : List D} {vs : List Dv} (r : Rels L S ds vs) : Rels L S ds.dropLast vs.dropLast := by
  rw [List.dropLast_eq_take, List.dropLast_eq_take, ← r.length]
  exact r.take _
theorem Rels.ints : ∀ {ds : List D} {vs : List Dv}, Rels L S ds vs → intsOf ds = intsP vs
  | _, _, .nil => rfl
  | _, _, .cons r t => by
    cases r with
    | int i =>
      show (intsOf _).map _ = (intsP _).map _
      rw [Rels.ints t]
    | _ => rfl
theorem Rels.strs : ∀ {ds : List D} {vs : List Dv}, Rels L S ds vs → strsOf ds = strsP vs
  | _, _, .nil => rfl
  | _, _, .cons r t => by
    cases r with
    | str i =>
      show (strsOf _).map _ = (strsP _).map _
      rw [Rels.strs t]
    | _ => rfl
theorem Rels.ofInts : ∀ (ns : List Int), Rels L S (ns.map D.int) (ns.map Dv.int)
  | [] => .nil
  | i :: ns => .cons (.int i) (Rels.ofInts ns)
theorem Rel.py : ∀ (n : Nat) {d : D} {v : Dv}, Rel L S d v → pyOf L n d = pyP n v
  | 0, _, _, _ => rfl
  | n + 1, _, _, r => by
    have all : ∀ {ds : List D} {ps : List Dv}, Rels L S ds ps → pyAll (pyOf L n) ds = pyAllP (pyP n) ps := by
      intro ds ps r
      induction ps generalizing ds with
      | nil =>
        cases r
        rfl
      | cons p ps ih =>
        cases r with
        | cons r t =>
          unfold pyAll pyAllP
          rw [Rel.py n r, ih t]
          try (cases pyP n p <;> cases pyAllP (pyP n) ps <;> rfl)
    cases r with
    | tup t =>
      show (pyAll (pyOf L n) _).map _ = (pyAllP (pyP n) _).map _
      rw [all t]
    | lst _ _ g t =>
      show (match getL L _ with | some xs => (pyAll (pyOf L n) xs).map PyData.list | none => none) = (pyAllP (pyP n) _).map _
      rw [g, ← all t]
    | scr _ g t =>
      show (match getL L _ with | some xs => (pyAll (pyOf L n) xs).map PyData.list | none => none) = (pyAllP (pyP n) _).map _
      rw [g, ← all t]
    | _ => rfl
end
theorem Rels.atI {L : Hd} {S : Nat → Prop} {ds : List D} {vs : List Dv} {i : Int} {v : Dv} (r : Rels L S ds vs) (h : L2.atI vs i = some v) : ∃ d, L2.atI ds i = some d ∧ Rel L S d v := by
  unfold L2.atI at h ⊢
  rw [r.length]
  cases q : L2.ixN vs.length i with
  | none =>
    rw [q] at h
    cases h
  | some k =>
    rw [q] at h
    exact r.get h
theorem Rels.cut {L : Hd} {S : Nat → Prop} {ds : List D} {vs : List Dv} (r : Rels L S ds vs) (lo hi : Option Int) : Rels L S (MP.cut ds lo hi) (MP.cut vs lo hi) := by
  unfold MP.cut
  rw [r.length]
  exact (r.drop _).take _
theorem Rels.steps {L : Hd} {S : Nat → Prop} : ∀ (n : Nat) (i c : Int), Rels L S (steps i c n) (stepsP i c n)
  | 0, _, _ => .nil
  | n + 1, i, c => .cons (.int i) (Rels.steps n _ c)
theorem Rels.chars {L : Hd} {S : Nat → Prop} : ∀ (cs : List Nat) , True := fun _ => trivial

/-! ### what is told -/
/-- a told value; an own list is new -/
def RelT (L : Hd) (S : Nat → Prop) (b : Nat) (d : D) (v : Dv) : Prop := match v with
  | .own ps => ∃ n ds, d = .ref n ∧ b ≤ n ∧ ¬ S n ∧ getL L n = some ds ∧ Rels L S ds ps
  | v => Rel L S d v
theorem RelT.of {L : Hd} {S : Nat → Prop} {b : Nat} {d : D} {v : Dv} (r : Rel L S d v) : RelT L S b d v := by
  cases r with
  | non => exact .non
  | bl b => exact .bl b
  | int i => exact .int i
  | str x => exact .str x
  | fn x => exact .fn x
  | exc x => exact .exc x
  | tup t => exact .tup t
  | lst a b c e => exact .lst a b c e
  | scr b c e => exact .scr b c e
theorem RelT.on {L : Hd} {S : Nat → Prop} {b : Nat} {d : D} {v : Dv} (r : RelT L S b d v) (h : ∀ ps, v ≠ .own ps) : Rel L S d v := by
  cases v with
  | own ps => exact absurd rfl (h ps)
  | _ => exact r
theorem getL_lt {L : Hd} {n : Nat} {xs : List D} (h : getL L n = some xs) : n < L.length := by
  unfold getL at h
  by_cases hn : n < L.length
  · exact hn
  · rw [List.getElem?_eq_none (by omega)] at h
    cases h
theorem getL_app {L : Hd} {J : Hd} {n : Nat} {xs : List D} (h : getL L n = some xs) : getL (L ++ J) n = some xs := by
  have hn := getL_lt h
  unfold getL at h ⊢
  rw [List.getElem?_append_left hn]
  exact h
theorem get_app {L J : Hd} {n : Nat} (h : n < L.length) : (L ++ J)[n]? = L[n]? := List.getElem?_append_left h
/-- more lists stand, none of the frozen ones is another -/
structure Ext (L : Hd) (S : Nat → Prop) (J : Hd) (S' : Nat → Prop) : Prop where
  up : ∀ n, S n → S' n
  nw : ∀ n, S' n → S n ∨ (L.length ≤ n ∧ n < (L ++ J).length)
def Bd (L : Hd) (S : Nat → Prop) : Prop := ∀ n, S n → n < L.length
theorem Ext.refl {L : Hd} {S : Nat → Prop} : Ext L S [] S := ⟨fun _ h => h, fun _ h => .inl h⟩
theorem Ext.bd {L : Hd} {S S' : Nat → Prop} {J : Hd} (e : Ext L S J S') (h : Bd L S) : Bd (L ++ J) S' := fun n hn => by
  rcases e.nw n hn with a | a
  · have := h n a
    rw [List.length_append]
    omega
  · exact a.2
theorem Ext.rel {L : Hd} {S S' : Nat → Prop} {J : Hd} (e : Ext L S J S') (h : Bd L S) {d : D} {v : Dv} (r : Rel L S d v) : Rel (L ++ J) S' d v := r.mono e.up fun n hn => get_app (h n hn)
theorem Ext.rels {L : Hd} {S S' : Nat → Prop} {J : Hd} (e : Ext L S J S') (h : Bd L S) {d : List D} {v : List Dv} (r : Rels L S d v) : Rels (L ++ J) S' d v := r.mono e.up fun n hn => get_app (h n hn)
theorem Ext.trans {L : Hd} {S S1 S2 : Nat → Prop} {J K : Hd} (e : Ext L S J S1) (f : Ext (L ++ J) S1 K S2) : Ext L S (J ++ K) S2 := by
  refine ⟨fun n h => f.up n (e.up n h), fun n h => ?_⟩
  rcases f.nw n h with a | a
  · rcases e.nw n a with a | a
    · exact .inl a
    · refine .inr ⟨a.1, ?_⟩
      have := a.2
      simp only [List.length_append] at this ⊢
      omega
  · refine .inr ⟨?_, ?_⟩
    · have := a.1
      simp only [List.length_append] at this
      omega
    · rw [← List.append_assoc]
      exact a.2
/-- handed on, a told value is frozen -/
theorem RelT.frz {L : Hd} {S S1 : Nat → Prop} {J : Hd} {d : D} {v : Dv} (e : Ext L S J S1) (h1 : 1 ≤ L.length) (r : RelT (L ++ J) S1 L.length d v) : ∃ S2, Ext L S J S2 ∧ (∀ n, S1 n → S2 n) ∧ Rel (L ++ J) S2 d (frz v) := by
  cases v with
  | own ps =>
    obtain ⟨n, ds, rfl, hb, hn, hg, hr⟩ := r
    refine ⟨fun m => S1 m ∨ m = n, ⟨fun m h => .inl (e.up m h), fun m h => ?_⟩, fun m h => .inl h, .lst (by omega) (.inr rfl) hg (hr.mono (fun _ h => .inl h) fun _ _ => rfl)⟩
    rcases h with h | rfl
    · exact e.nw m h
    · exact .inr ⟨hb, getL_lt hg⟩
  | _ => exact ⟨S1, e, fun _ h => h, r⟩
theorem frz_of {v : Dv} (h : ∀ ps, v ≠ .own ps) : frz v = v := by
  cases v with
  | own ps => exact absurd rfl (h ps)
  | _ => rfl
theorem getL_e' {xs : List D} {L : Hd} : getL (L ++ [.lst xs]) L.length = some xs := by
  unfold getL
  rw [List.getElem?_append_right (Nat.le_refl _), Nat.sub_self]
  rfl
/-- what an expression or a call ends with -/
def RvR (L : Hd) (S : Nat → Prop) (r : R D) (q : Rv Dv) : Prop := match q with
  | .ok v => ∃ d J S', r = .ok d (L ++ J) ∧ Ext L S J S' ∧ RelT (L ++ J) S' L.length d v
  | .exc c => ∃ J, r = .exc c (L ++ J)
  | .bad => True
theorem RvR.mk {L : Hd} {S : Nat → Prop} {r : R D} {d : D} {v : Dv} (h : r = .ok d L) (q : Rel L S d v) : RvR L S r (.ok v) := ⟨d, [], S, by rw [List.append_nil]; exact h, .refl, by rw [List.append_nil]; exact .of q⟩
theorem RvR.mk' {L : Hd} {S : Nat → Prop} {d : D} {v : Dv} (q : Rel L S d v) : RvR L S (.ok d L) (.ok v) := .mk rfl q
theorem RvR.alloc {L : Hd} {S : Nat → Prop} (hb : Bd L S) {ds : List D} {ps : List Dv} (h : Rels L S ds ps) : RvR L S (MP.alloc ds L) (allocP ps) := by
  unfold allocP MP.alloc
  rw [h.length]
  split
  · exact ⟨.ref L.length, [.lst ds], S, rfl, ⟨fun _ h => h, fun _ h => .inl h⟩, L.length, ds, rfl, Nat.le_refl _, fun z => absurd (hb _ z) (Nat.lt_irrefl _), getL_e', h.mono (fun _ h => h) fun n hn => get_app (hb n hn)⟩
  · trivial
/-- one after the other -/
theorem RvR.seq {L : Hd} {S : Nat → Prop} {r : R D} {q : Rv Dv} {f : D → Hd → R D} {g : Dv → Rv Dv} (hb : Bd L S) (h1 : 1 ≤ L.length) (h : RvR L S r q)
    (hf : ∀ d v J S', Ext L S J S' → Bd (L ++ J) S' → 1 ≤ (L ++ J).length → RelT (L ++ J) S' L.length d v → RvR (L ++ J) S' (f d (L ++ J)) (g v)) : RvR L S (r.bind f) (q.bind g) := by
  cases q with
  | bad => trivial
  | exc c =>
    obtain ⟨J, e⟩ := h
    rw [e]
    exact ⟨J, rfl⟩
  | ok v =>
    obtain ⟨d, J, S', e, x, t⟩ := h
    rw [e]
    have := hf d v J S' x (x.bd hb) (by rw [List.length_append]; omega) t
    show RvR L S (f d (L ++ J)) (g v)
    cases hg : g v with
    | bad => trivial
    | exc c =>
      rw [hg] at this
      obtain ⟨K, e⟩ := this
      exact ⟨J ++ K, by rw [e, List.append_assoc]⟩
    | ok u =>
      rw [hg] at this
      obtain ⟨d', K, S2, e2, x2, t2⟩ := this
      refine ⟨d', J ++ K, S2, by rw [e2, List.append_assoc], x.trans x2, ?_⟩
      rw [← List.append_assoc]
      cases u with
      | own ps =>
        obtain ⟨n, ds, a, b, c⟩ := t2
        exact ⟨n, ds, a, by rw [List.length_append] at b; omega, c⟩
      | _ => exact t2
/-- one after the other, the first one handed on -/
theorem RvR.seqF {L : Hd} {S : Nat → Prop} {r : R D} {q : Rv Dv} {f : D → Hd → R D} {g : Dv → Rv Dv} (hb : Bd L S) (h1 : 1 ≤ L.length) (h : RvR L S r q)
    (hf : ∀ d v J S', Ext L S J S' → Bd (L ++ J) S' → 1 ≤ (L ++ J).length → Rel (L ++ J) S' d (frz v) → RvR (L ++ J) S' (f d (L ++ J)) (g v)) : RvR L S (r.bind f) (q.bind g) := by
  cases q with
  | bad => trivial
  | exc c =>
    obtain ⟨J, e⟩ := h
    rw [e]
    exact ⟨J, rfl⟩
  | ok v =>
    obtain ⟨d, J, S', e, x, t⟩ := h
    obtain ⟨S2, x2, m, t⟩ := t.frz x h1
    rw [e]
    have := hf d v J S2 x2 (x2.bd hb) (by rw [List.length_append]; omega) t
    show RvR L S (f d (L ++ J)) (g v)
    cases hg : g v with
    | bad => trivial
    | exc c =>
      rw [hg] at this
      obtain ⟨K, e⟩ := this
      exact ⟨J ++ K, by rw [e, List.append_assoc]⟩
    | ok u =>
      rw [hg] at this
      obtain ⟨d', K, S3, e2, x3, t2⟩ := this
      refine ⟨d', J ++ K, S3, by rw [e2, List.append_assoc], x2.trans x3, ?_⟩
      rw [← List.append_assoc]
      cases u with
      | own ps =>
        obtain ⟨n, ds, a, b, c⟩ := t2
        exact ⟨n, ds, a, by rw [List.length_append] at b; omega, c⟩
      | _ => exact t2
end FP

/-! FP's operators tell what MP's do. -/
namespace FP
open PySem MP
section
variable {L : Hd} {S : Nat → Prop}
theorem binP_ok (hb : Bd L S) (o : Bop) {x y : D} {X Y : Dv} (rx : Rel L S x X) (ry : Rel L S y Y) : RvR L S (binop o x y L) (binP o X Y) := by
  cases o with
  | add =>
    cases rx with
    | int i =>
      cases ry with
      | int j => exact .mk rfl (.int _)
      | _ => trivial
    | str a =>
      cases ry with
      | str b =>
        show RvR L S (if _ then _ else _) (if _ then _ else _)
        split
        · exact .mk rfl (.str _)
        · trivial
      | _ => trivial
    | tup a =>
      cases ry with
      | tup b =>
        show RvR L S (if _ then _ else _) (if _ then _ else _)
        rw [a.length, b.length]
        split
        · exact .mk rfl (.tup (a.append b))
        · trivial
      | _ => trivial
    | lst n1 s1 g1 t1 =>
      cases ry with
      | lst n2 s2 g2 t2 =>
        rename_i n ds ps m es qs
        show RvR L S (if n = 0 ∨ m = 0 then R.bad else match getL L n, getL L m with | some a, some b => if a.length + b.length ≤ LIM then alloc (a ++ b) L else .bad | _, _ => .bad) (if ps.length + qs.length ≤ LIM then .ok (.own (ps ++ qs)) else .bad)
        rw [if_neg (by omega), g1, g2]
        show RvR L S (if ds.length + es.length ≤ LIM then alloc (ds ++ es) L else .bad) _
        have := RvR.alloc hb (t1.append t2)
        unfold allocP at this
        rw [List.length_append] at this
        rw [t1.length, t2.length]
        split
        · rename_i h
          rw [if_pos h] at this
          exact this
        · trivial
      | _ => trivial
    | _ => trivial
  | sub =>
    cases rx with
    | int i =>
      cases ry with
      | int j => exact .mk rfl (.int _)
      | _ => trivial
    | _ => trivial
  | mul =>
    cases rx with
    | int i =>
      cases ry with
      | int j =>
        show RvR L S (if _ then _ else _) (if _ then _ else _)
        split
        · exact .mk rfl (.int _)
        · trivial
      | _ => trivial
    | _ => trivial
  | fdiv =>
    cases rx with
    | int i =>
      cases ry with
      | int j =>
        show RvR L S (if _ then _ else _) (if _ then _ else _)
        split
        · exact .mk rfl (.int _)
        · trivial
      | _ => trivial
    | _ => trivial
  | mod =>
    cases rx with
    | int i =>
      cases ry with
      | int j =>
        show RvR L S (if _ then _ else _) (if _ then _ else _)
        split
        · exact .mk rfl (.int _)
        · trivial
      | _ => trivial
    | _ => trivial
  | pow =>
    cases rx with
    | int i =>
      cases ry with
      | int j =>
        show RvR L S (if _ then _ else _) (if _ then _ else _)
        split
        · exact .mk rfl (.int _)
        · trivial
      | _ => trivial
    | _ => trivial
theorem eqP_ok {x y : D} {X Y : Dv} (rx : Rel L S x X) (ry : Rel L S y Y) (f : Bool → Bool) : RvR L S (eqop x y L f) (eqP X Y f) := by
  unfold eqop eqP
  rw [rx.py, ry.py]
  cases pyP DEEP X with
  | none => trivial
  | some p =>
    cases pyP DEEP Y with
    | none => trivial
    | some q =>
      show RvR L S (if _ then _ else _) (if _ then _ else _)
      split
      · exact .mk rfl (.bl _)
      · trivial
theorem cmpP_ok (o : Cop) {x y : D} {X Y : Dv} (rx : Rel L S x X) (ry : Rel L S y Y) : RvR L S (cmpop o x y L) (cmpP o X Y) := by
  have num : ∀ (f : Int → Int → Bool) (o : Cop), (∀ i j, cmpop o (.int i) (.int j) L = .ok (.bl (f i j)) L) → (∀ i j, cmpP o (.int i) (.int j) = .ok (.bl (f i j))) → ∀ i j, RvR L S (cmpop o (.int i) (.int j) L) (cmpP o (.int i) (.int j)) := fun f o h1 h2 i j => by
    rw [h1, h2]
    exact .mk rfl (.bl _)
  cases o with
  | eq =>
    have e1 : cmpop .eq x y L = eqop x y L id := c_eq
    have e2 : cmpP .eq X Y = eqP X Y id := by cases X <;> cases Y <;> rfl
    rw [e1, e2]
    exact eqP_ok rx ry id
  | ne =>
    have e1 : cmpop .ne x y L = eqop x y L not := c_ne
    have e2 : cmpP .ne X Y = eqP X Y not := by cases X <;> cases Y <;> rfl
    rw [e1, e2]
    exact eqP_ok rx ry not
  | in_ =>
    cases rx with
    | str a =>
      cases ry with
      | str b =>
        show RvR L S (match a.cps.toList with | [c] => _ | _ => _) (match a.cps.toList with | [c] => _ | _ => _)
        split
        · exact .mk rfl (.bl _)
        · trivial
      | tup t =>
        show RvR L S (match strsOf _ with | some ys => _ | none => _) (match strsP _ with | some ys => _ | none => _)
        rw [t.strs]
        split
        · exact .mk rfl (.bl _)
        · trivial
      | _ => trivial
    | _ => trivial
  | nin =>
    cases rx with
    | str a =>
      cases ry with
      | str b =>
        show RvR L S (match a.cps.toList with | [c] => _ | _ => _) (match a.cps.toList with | [c] => _ | _ => _)
        split
        · exact .mk rfl (.bl _)
        · trivial
      | tup t =>
        show RvR L S (match strsOf _ with | some ys => _ | none => _) (match strsP _ with | some ys => _ | none => _)
        rw [t.strs]
        split
        · exact .mk rfl (.bl _)
        · trivial
      | _ => trivial
    | _ => trivial
  | lt =>
    cases rx with
    | int i =>
      cases ry with
      | int j => exact .mk rfl (.bl _)
      | _ => trivial
    | _ => trivial
  | le =>
    cases rx with
    | int i =>
      cases ry with
      | int j => exact .mk rfl (.bl _)
      | _ => trivial
    | _ => trivial
  | gt =>
    cases rx with
    | int i =>
      cases ry with
      | int j => exact .mk rfl (.bl _)
      | _ => trivial
    | _ => trivial
  | ge =>
    cases rx with
    | int i =>
      cases ry with
      | int j => exact .mk rfl (.bl _)
      | _ => trivial
    | _ => trivial
theorem at_ok {ds : List D} {ps : List Dv} {i : Int} (t : Rels L S ds ps) : RvR L S (match L2.atI ds i with | some v => R.ok v L | none => .bad) (atP (L2.atI ps i)) := by
  cases q : L2.atI ps i with
  | none => trivial
  | some v =>
    obtain ⟨d, h, r⟩ := t.atI q
    rw [h]
    exact .mk rfl r
theorem ixP_ok {x y : D} {X Y : Dv} (rx : Rel L S x X) (ry : RelT L S b y Y) : RvR L S (ixop x y L) (ixP X Y) := by
  cases Y with
  | int j =>
    cases ry with
    | int j =>
      cases rx with
      | tup t => exact at_ok t
      | lst _ _ g t =>
        show RvR L S (match getL L _ with | some xs => _ | none => _) _
        rw [g]
        exact at_ok t
      | scr _ g t =>
        show RvR L S (match getL L _ with | some xs => _ | none => _) _
        rw [g]
        exact at_ok t
      | str z =>
        show RvR L S (if _ then (match L2.atI z.cps.toList j with | some c => _ | none => _) else _) (if _ then (match L2.atI z.cps.toList j with | some c => _ | none => _) else _)
        split
        · split
          · exact .mk rfl (.str _)
          · trivial
        · trivial
      | _ => trivial
  | _ =>
    cases X <;> trivial
theorem slP_ok (hb : Bd L S) {x : D} {X : Dv} (lo hi : Option Int) (rx : Rel L S x X) : RvR L S (slop x lo hi L) (slP X lo hi) := by
  cases rx with
  | tup t => exact .mk rfl (.tup (t.cut lo hi))
  | lst _ _ g t =>
    show RvR L S (match getL L _ with | some xs => _ | none => _) _
    rw [g]
    exact .alloc hb (t.cut lo hi)
  | scr _ g t =>
    show RvR L S (match getL L _ with | some xs => _ | none => _) _
    rw [g]
    exact .alloc hb (t.cut lo hi)
  | str z =>
    show RvR L S (if _ then _ else _) (if _ then _ else _)
    split
    · exact .mk rfl (.str _)
    · trivial
  | _ => trivial
theorem Rels.ofStrs : ∀ ys : List Str, Rels L S (ys.map D.str) (ys.map Dv.str)
  | [] => .nil
  | y :: ys => .cons (.str y) (Rels.ofStrs ys)
theorem seq_eq {d : D} {v : Dv} (r : Rel L S d v) {ys : List Str} (h : (seqP v).bind strsP = some ys) : (seqOf d L).bind strsOf = some ys := by
  cases r with
  | tup t =>
    have h' : strsP _ = some ys := h
    rw [← t.strs] at h'
    exact h'
  | lst _ _ g t =>
    have h' : strsP _ = some ys := h
    rw [← t.strs] at h'
    show (getL L _).bind strsOf = some ys
    rw [g]
    exact h'
  | scr _ g t =>
    have h' : strsP _ = some ys := h
    rw [← t.strs] at h'
    show (getL L _).bind strsOf = some ys
    rw [g]
    exact h'
  | _ => cases h
theorem tmP_ok (hb : Bd L S) (m : Tm) {x : D} {X : Dv} {ds : List D} {ps : List Dv} (rx : Rel L S x X) (t : Rels L S ds ps) : RvR L S (tmop m x ds L) (tmP m X ps) := by
  cases rx with
  | str a =>
    cases t with
    | nil => cases m <;> trivial
    | cons r t =>
      cases t with
      | nil =>
        cases m with
        | partition =>
          cases r with
          | str b =>
            show RvR L S (if _ then _ else _) (if _ then _ else _)
            split
            · exact .mk rfl (.tup (.cons (.str _) (.cons (.str _) (.cons (.str _) .nil))))
            · trivial
          | _ => trivial
        | split =>
          cases r with
          | str b =>
            show RvR L S (if _ then _ else _) (if _ then _ else _)
            split
            · exact .alloc hb (Rels.ofStrs _)
            · trivial
          | _ => trivial
        | startswith =>
          cases r with
          | str b => exact .mk rfl (.bl _)
          | _ => trivial
        | replace => cases r <;> trivial
        | join =>
          rename_i d p
          have e1 : tmop .join (.str a) [d] L = (match (seqOf d L).bind strsOf with
            | some ys => if (ys.map (·.length)).sum + ys.length * a.length ≤ LIM then .ok (.str (Txt.join a ys)) L else .bad
            | none => .bad) := rfl
          have e2 : tmP .join (.str a) [p] = (match (seqP p).bind strsP with
            | some ys => if (ys.map (·.length)).sum + ys.length * a.length ≤ LIM then .ok (.str (Txt.join a ys)) else .bad
            | none => .bad) := rfl
          rw [e1, e2]
          cases q : (seqP p).bind strsP with
          | none => trivial
          | some ys =>
            rw [seq_eq r q]
            show RvR L S (if _ then _ else _) (if _ then _ else _)
            split
            · exact .mk rfl (.str _)
            · trivial
      | cons r2 t2 =>
        cases m with
        | replace =>
          cases t2 with
          | nil =>
            cases r with
            | str y =>
              cases r2 with
              | str z =>
                show RvR L S (if _ then _ else _) (if _ then _ else _)
                split
                · exact .mk rfl (.str _)
                · trivial
              | _ => trivial
            | _ => trivial
          | cons _ _ => cases r <;> cases r2 <;> trivial
        | _ => cases r <;> trivial
  | _ => cases m <;> trivial
theorem part_eq {d : D} {v : Dv} (r : RelT L S b d v) : ∀ o, partP v = some o → part d = some o := by
  intro o h
  cases v with
  | exc c =>
    cases r
    exact h
  | int i =>
    cases r
    exact h
  | _ => cases h
theorem sort_ok (hb : Bd L S) (o : Option (List Int)) (r : Bool) : RvR L S (match o with | some ns => alloc ((if r = true then (up ns).reverse else up ns).map D.int) L | none => .bad) (sortP o r) := by
  cases o with
  | none => trivial
  | some ns => exact .alloc hb (Rels.ofInts _)
theorem biP_bad {b : Bi} {Y : Dv} {ps : List Dv} (h : ps ≠ []) (hX : ∀ i j, ¬ (Y = .int i ∧ ps = [.int j])) : biP b (Y :: ps) = .bad := by
  cases ps with
  | nil => exact absurd rfl h
  | cons p ps =>
    cases b with
    | max =>
      cases Y with
      | int i =>
        cases p with
        | int j =>
          cases ps with
          | nil => exact absurd ⟨rfl, rfl⟩ (hX i j)
          | cons _ _ => rfl
        | _ => rfl
      | _ => rfl
    | min =>
      cases Y with
      | int i =>
        cases p with
        | int j =>
          cases ps with
          | nil => exact absurd ⟨rfl, rfl⟩ (hX i j)
          | cons _ _ => rfl
        | _ => rfl
      | _ => rfl
    | _ => cases Y <;> rfl
theorem biP_ok (hb : Bd L S) (b : Bi) {ds : List D} {ps : List Dv} (t : Rels L S ds ps) : RvR L S (biop b ds L) (biP b ps) := by
  cases t with
  | nil => cases b <;> trivial
  | cons r t =>
    cases t with
    | nil =>
      cases b with
      | abs =>
        cases r with
        | int i => exact .mk rfl (.int _)
        | _ => trivial
      | len =>
        cases r with
        | tup t =>
          show RvR L S (.ok (.int _) L) (.ok (.int _))
          rw [t.length]
          exact .mk rfl (.int _)
        | lst _ _ g t =>
          show RvR L S (match getL L _ with | some xs => R.ok (.int xs.length) L | none => _) _
          rw [g]
          show RvR L S (.ok (.int _) L) (.ok (.int _))
          rw [t.length]
          exact .mk rfl (.int _)
        | scr _ g t =>
          show RvR L S (match getL L _ with | some xs => R.ok (.int xs.length) L | none => _) _
          rw [g]
          show RvR L S (.ok (.int _) L) (.ok (.int _))
          rw [t.length]
          exact .mk rfl (.int _)
        | str z =>
          show RvR L S (if _ then _ else _) (if _ then _ else _)
          split
          · exact .mk rfl (.int _)
          · trivial
        | _ => trivial
      | int =>
        cases r with
        | int i => exact .mk rfl (.int _)
        | bl i => exact .mk rfl (.int _)
        | str z =>
          show RvR L S (match intText? z with | some n => _ | none => _) (match intText? z with | some n => _ | none => _)
          split
          · split
            · exact .mk rfl (.int _)
            · trivial
          · trivial
        | _ => trivial
      | str =>
        cases r with
        | int i =>
          show RvR L S (if _ then _ else _) (if _ then _ else _)
          split
          · exact .mk rfl (.str _)
          · trivial
        | _ => trivial
      | list =>
        cases r with
        | tup t => exact .alloc hb t
        | lst _ _ g t =>
          show RvR L S (match getL L _ with | some xs => alloc xs L | none => _) _
          rw [g]
          exact .alloc hb t
        | scr _ g t =>
          show RvR L S (match getL L _ with | some xs => alloc xs L | none => _) _
          rw [g]
          exact .alloc hb t
        | _ => trivial
      | tuple =>
        cases r with
        | tup t => exact .mk rfl (.tup t)
        | lst _ _ g t =>
          show RvR L S (match getL L _ with | some xs => R.ok (.tup xs) L | none => _) _
          rw [g]
          exact .mk rfl (.tup t)
        | scr _ g t =>
          show RvR L S (match getL L _ with | some xs => R.ok (.tup xs) L | none => _) _
          rw [g]
          exact .mk rfl (.tup t)
        | _ => trivial
      | sorted =>
        cases r with
        | lst _ _ g t =>
          show RvR L S (match (getL L _).bind intsOf with | some ns => alloc ((up ns).map D.int) L | none => .bad) (sortP (intsP _) false)
          rw [g, ← t.ints]
          exact sort_ok hb _ false
        | _ => trivial
      | sortedR =>
        cases r with
        | lst _ _ g t =>
          show RvR L S (match (getL L _).bind intsOf with | some ns => alloc ((up ns).reverse.map D.int) L | none => .bad) (sortP (intsP _) true)
          rw [g, ← t.ints]
          exact sort_ok hb _ true
        | _ => trivial
      | _ => cases r <;> trivial
    | cons r2 t2 =>
      cases r with
      | int i =>
        cases r2 with
        | int j =>
          cases t2 with
          | nil =>
            cases b with
            | max => exact .mk rfl (.int _)
            | min => exact .mk rfl (.int _)
            | _ => trivial
          | cons _ _ =>
            rw [biP_bad (by simp) (by simp)]
            trivial
        | _ =>
          rw [biP_bad (by simp) (by simp)]
          trivial
      | _ =>
        rw [biP_bad (by simp) (by simp)]
        trivial
theorem tyP_ok {x : D} {X : Dv} (rx : Rel L S x X) (t : Ty) : RvR L S (tyop x t L) (tyP X t) := by
  cases rx with
  | non => exact .mk rfl (.bl _)
  | bl b => exact .mk rfl (.bl _)
  | int b => exact .mk rfl (.bl _)
  | str b => exact .mk rfl (.bl _)
  | tup b => exact .mk rfl (.bl _)
  | lst _ _ g _ =>
    show RvR L S (match getL L _ with | some xs => _ | none => _) _
    rw [g]
    exact .mk rfl (.bl _)
  | scr _ g _ =>
    show RvR L S (match getL L _ with | some xs => _ | none => _) _
    rw [g]
    exact .mk rfl (.bl _)
  | _ => trivial
theorem rngP_ok {ds : List D} {ps : List Dv} (t : Rels L S ds ps) : RvR L S (rngop ds L) (rngP ps) := by
  cases t with
  | nil => trivial
  | cons r t =>
    cases t with
    | nil =>
      cases r with
      | int j =>
        show RvR L S (if _ then _ else _) (if _ then _ else _)
        split
        · exact .mk rfl (.tup (Rels.steps _ _ _))
        · trivial
      | _ => trivial
    | cons r2 t =>
      cases t with
      | nil =>
        cases r with
        | int j =>
          cases r2 with
          | int i =>
            show RvR L S (if _ then _ else _) (if _ then _ else _)
            split
            · exact .mk rfl (.tup (Rels.steps _ _ _))
            · trivial
          | _ => trivial
        | _ => trivial
      | cons r3 t =>
        cases t with
        | nil =>
          cases r with
          | int j =>
            cases r2 with
            | int i =>
              cases r3 with
              | int k =>
                show RvR L S (if _ then _ else _) (if _ then _ else _)
                split
                · exact .mk rfl (.tup (Rels.steps _ _ _))
                · trivial
              | _ => trivial
            | _ => trivial
          | _ => trivial
        | cons _ _ =>
          cases r with
          | int j =>
            cases r2 with
            | int i => cases r3 <;> trivial
            | _ => trivial
          | _ => trivial
theorem revP_ok {d : D} {v : Dv} (r : RelT L S b d v) : RvR L S (revop d L) (revP v) := by
  cases v with
  | tup ps =>
    cases r with
    | tup t => exact .mk rfl (.tup t.rev)
  | _ => trivial
theorem chars_ok : ∀ (cs : List Int), True := fun _ => trivial
theorem items_ok {d : D} {v : Dv} {ps : List Dv} (r : Rel L S d v) (h : itemsP v = some ps) : ∃ w ds, items d L = some (w, ds) ∧ Rels L S ds ps ∧ (∀ n, w = some n → S n ∧ getL L n = some ds) := by
  cases r with
  | tup t =>
    cases h
    exact ⟨none, _, rfl, t, fun n h => by cases h⟩
  | lst a b g t =>
    cases h
    refine ⟨some _, _, ?_, t, fun n h => by cases h; exact ⟨b, g⟩⟩
    show (getL L _).map _ = _
    rw [g]
    rfl
  | scr b g t =>
    cases h
    refine ⟨some _, _, ?_, t, fun n h => by cases h; exact ⟨b, g⟩⟩
    show (getL L _).map _ = _
    rw [g]
    rfl
  | str z =>
    cases h
    refine ⟨none, _, rfl, ?_, fun n h => by cases h⟩
    generalize z.cps.toList = cs
    induction cs with
    | nil => exact .nil
    | cons c cs ih => exact .cons (.str _) ih
  | _ => cases h
end
end FP

/-! FP's expressions tell what MP's do. -/
namespace FP
open PySem MP
/-- the names that are read stand for their values; own lists count as frozen meanwhile -/
def EnvR (L : Hd) (S : Nat → Prop) (vs : List Nat) (ρ : MP.Env) (σ : Ev) : Prop := ∀ i ∈ vs, match σ[i]? with
  | some (some v) => ∃ d, ρ[i]? = some (some d) ∧ Rel L S d (frz v)
  | _ => True
def FnR (Φ : Str → List D → Hd → R D) (Ψ : Str → List Dv → Rv Dv) : Prop := ∀ f L S ds ps, Bd L S → 1 ≤ L.length → Rels L S ds ps → RvR L S (Φ f ds L) (Ψ f ps)
theorem EnvR.mono {L : Hd} {S S' : Nat → Prop} {J : Hd} {vs : List Nat} {ρ : MP.Env} {σ : Ev} (hb : Bd L S) (e : Ext L S J S') (h : EnvR L S vs ρ σ) : EnvR (L ++ J) S' vs ρ σ := fun i hi => by
  have := h i hi
  split
  · rename_i v hv
    rw [hv] at this
    obtain ⟨d, h1, h2⟩ := this
    exact ⟨d, h1, e.rel hb h2⟩
  · trivial
theorem EnvR.sub {L : Hd} {S : Nat → Prop} {vs ws : List Nat} {ρ : MP.Env} {σ : Ev} (h : EnvR L S vs ρ σ) (hs : ∀ i ∈ ws, i ∈ vs) : EnvR L S ws ρ σ := fun i hi => h i (hs i hi)
theorem EnvR.set {L : Hd} {S : Nat → Prop} {vs : List Nat} {ρ : MP.Env} {σ : Ev} {s : Nat} {d : D} {v : Dv} (h : EnvR L S vs ρ σ) (hl : ρ.length = σ.length) (r : Rel L S d v) : EnvR L S vs (ρ.set s (some d)) (σ.set s (some v)) := fun i hi => by
  have := h i hi
  rw [List.getElem?_set, List.getElem?_set]
  by_cases hs : s = i
  · subst hs
    rw [if_pos rfl, if_pos rfl, hl]
    split
    · rename_i w hw
      split at hw
      · rename_i hlt
        cases hw
        rw [if_pos hlt]
        refine ⟨d, rfl, ?_⟩
        cases r with
        | non => exact .non
        | bl b => exact .bl b
        | int i => exact .int i
        | str x => exact .str x
        | fn x => exact .fn x
        | exc x => exact .exc x
        | tup t => exact .tup t
        | lst a b c e => exact .lst a b c e
        | scr b c e => exact .scr b c e
      · cases hw
    · trivial
  · rw [if_neg hs, if_neg hs]
    exact this
theorem isNon_eq {L : Hd} {S : Nat → Prop} {b : Nat} {d : D} {v : Dv} (r : RelT L S b d v) : MP.isNon d = isNonP v := by
  cases v with
  | own ps =>
    obtain ⟨n, ds, rfl, _⟩ := r
    rfl
  | _ => cases r <;> rfl
/-- a later heap -/
def Lat (L : Hd) (S : Nat → Prop) (L' : Hd) (S' : Nat → Prop) : Prop := ∃ J, L' = L ++ J ∧ Ext L S J S'
theorem Lat.refl {L : Hd} {S : Nat → Prop} : Lat L S L S := ⟨[], by rw [List.append_nil], .refl⟩
theorem Lat.trans {L L1 L2 : Hd} {S S1 S2 : Nat → Prop} (a : Lat L S L1 S1) (b : Lat L1 S1 L2 S2) : Lat L S L2 S2 := by
  obtain ⟨J, rfl, x⟩ := a
  obtain ⟨K, rfl, y⟩ := b
  exact ⟨J ++ K, by rw [List.append_assoc], x.trans y⟩
theorem Lat.of {L J : Hd} {S S' : Nat → Prop} (x : Ext L S J S') : Lat L S (L ++ J) S' := ⟨J, rfl, x⟩
open Classical in
theorem lc_ok {c e : D → Hd → R D} {c' e' : Dv → Rv Dv} {w : Option Nat} {all : List D} :
    ∀ {xs : List D} {ps : List Dv} {L : Hd} {S : Nat → Prop}, Bd L S → 1 ≤ L.length → Rels L S xs ps → (∀ n, w = some n → S n ∧ getL L n = some all) →
    (∀ L' S', Lat L S L' S' → Bd L' S' → 1 ≤ L'.length → ∀ x p, Rel L' S' x p → RvR L' S' (c x L') (c' p)) →
    (∀ L' S', Lat L S L' S' → Bd L' S' → 1 ≤ L'.length → ∀ x p, Rel L' S' x p → RvR L' S' (e x L') (e' p)) →
    ∀ qs, lcP c' e' ps = .ok qs → ∃ ds J S', lcGo c e w all xs L = .ok ds (L ++ J) ∧ Ext L S J S' ∧ Rels (L ++ J) S' ds qs
  | [], _, L, S, hb, h1, t, hw, hc, he, qs, h => by
    cases t
    cases h
    refine ⟨[], [], S, ?_, .refl, .nil⟩
    have : seen w all L := by
      unfold seen
      cases w with
      | none => trivial
      | some n => exact (hw n rfl).2
    show (if seen w all L then R.ok [] L else .bad) = _
    rw [if_pos this, List.append_nil]
  | x :: xs, _, L, S, hb, h1, .cons (p := p) (ps := ps) r t, hw, hc, he, qs, h => by
    have hs : seen w all L := by
      unfold seen
      cases w with
      | none => trivial
      | some n => exact (hw n rfl).2
    unfold lcGo
    rw [if_pos hs]
    unfold lcP at h
    have hc0 := hc L S .refl hb h1 x p r
    cases qc : c' p with
    | bad =>
      rw [qc] at h
      cases h
    | exc _ =>
      rw [qc] at h
      cases h
    | ok v =>
      rw [qc] at h hc0
      obtain ⟨d, J, S1, e1, x1, r1⟩ := hc0
      rw [e1]
      cases v with
      | bl b =>
        cases r1
        have hb1 := x1.bd hb
        have hl1 : 1 ≤ (L ++ J).length := by rw [List.length_append]; omega
        have hw1 : ∀ n, w = some n → S1 n ∧ getL (L ++ J) n = some all := fun n hn => ⟨x1.up n (hw n hn).1, getL_app (hw n hn).2⟩
        cases b with
        | false =>
          have ih := lc_ok (L := L ++ J) (S := S1) hb1 hl1 (x1.rels hb t) hw1 (fun L' S' l => hc L' S' ((Lat.of x1).trans l)) (fun L' S' l => he L' S' ((Lat.of x1).trans l)) qs h
          obtain ⟨ds, K, S2, e2, x2, r2⟩ := ih
          exact ⟨ds, J ++ K, S2, by rw [← List.append_assoc]; exact e2, x1.trans x2, by rw [← List.append_assoc]; exact r2⟩
        | true =>
          have he0 := he (L ++ J) S1 (Lat.of x1) hb1 hl1 x p (x1.rel hb r)
          cases qe : e' p with
          | bad =>
            rw [qe] at h
            cases h
          | exc _ =>
            rw [qe] at h
            cases h
          | ok u =>
            rw [qe] at h he0
            obtain ⟨y, K, S2, e2, x2, r2⟩ := he0
            obtain ⟨S3, x3, m3, r3⟩ := r2.frz x2 hl1
            have hb3 := x3.bd hb1
            have hl3 : 1 ≤ (L ++ J ++ K).length := by rw [List.length_append]; omega
            have hw3 : ∀ n, w = some n → S3 n ∧ getL (L ++ J ++ K) n = some all := fun n hn => ⟨x3.up n (hw1 n hn).1, getL_app (hw1 n hn).2⟩
            cases ql : lcP c' e' ps with
            | bad =>
              rw [ql] at h
              cases h
            | exc _ =>
              rw [ql] at h
              cases h
            | ok qs' =>
              rw [ql] at h
              cases h
              have x13 := (Lat.of x1).trans (Lat.of x3)
              have ih := lc_ok (L := L ++ J ++ K) (S := S3) hb3 hl3 (x3.rels hb1 (x1.rels hb t)) hw3 (fun L' S' l => hc L' S' (x13.trans l)) (fun L' S' l => he L' S' (x13.trans l)) qs' ql
              obtain ⟨ds, M, S4, e4, x4, r4⟩ := ih
              obtain ⟨N, hN, xN⟩ := x13.trans (Lat.of x4)
              refine ⟨y :: ds, N, S4, ?_, xN, ?_⟩
              · show (match e x (L ++ J) with | .ok y L2 => (match lcGo c e w all xs L2 with | .ok ys L3 => R.ok (y :: ys) L3 | _ => .bad) | _ => .bad) = _
                rw [e2]
                show (match lcGo c e w all xs (L ++ J ++ K) with | .ok ys L3 => R.ok (y :: ys) L3 | _ => .bad) = _
                rw [e4, ← hN]
              · rw [← hN]
                exact .cons (x4.rel hb3 r3) r4
      | _ =>
        simp at h
theorem evP_ok {Φ : Str → List D → Hd → R D} {Ψ : Str → List Dv → Rv Dv} (hf : FnR Φ Ψ) : ∀ (e : Ex) {L : Hd} {S : Nat → Prop} {ρ : MP.Env} {σ : Ev}, Bd L S → 1 ≤ L.length → ρ.length = σ.length → EnvR L S (vars e) ρ σ → RvR L S (evE Φ e ρ L) (evP Ψ e σ)
  | .bad, L, S, ρ, σ, hb, h1, hl, h => trivial
  | .non, L, S, ρ, σ, hb, h1, hl, h => .mk rfl .non
  | .bl b, L, S, ρ, σ, hb, h1, hl, h => .mk rfl (.bl b)
  | .int b, L, S, ρ, σ, hb, h1, hl, h => .mk rfl (.int b)
  | .str b, L, S, ρ, σ, hb, h1, hl, h => .mk rfl (.str b)
  | .f b, L, S, ρ, σ, hb, h1, hl, h => .mk rfl (.fn b)
  | .nil, L, S, ρ, σ, hb, h1, hl, h => .mk rfl (.tup .nil)
  | .absent, L, S, ρ, σ, hb, h1, hl, h => .mk rfl (.exc _)
  | .v i, L, S, ρ, σ, hb, h1, hl, h => by
    have := h i (by simp [vars])
    show RvR L S (getV ρ[i]? L) ((getP σ[i]?).bind fun d => .ok (frz d))
    cases q : σ[i]? with
    | none => trivial
    | some o =>
      cases o with
      | none => trivial
      | some v =>
        rw [q] at this
        obtain ⟨d, h2, r⟩ := this
        rw [h2]
        cases v with
        | exc c => trivial
        | own ps =>
          cases r with
          | lst a b c e => exact .mk rfl (.lst a b c e)
        | non => cases r; exact .mk rfl .non
        | bl b => cases r; exact .mk rfl (.bl b)
        | int b => cases r; exact .mk rfl (.int b)
        | str b => cases r; exact .mk rfl (.str b)
        | fn b => cases r; exact .mk rfl (.fn b)
        | tup b => cases r with
          | tup t => exact .mk rfl (.tup t)
        | lst b => cases r with
          | lst a b c e => exact .mk rfl (.lst a b c e)
        | scr b => cases r with
          | scr b c e => exact .mk rfl (.scr b c e)
  | .k x e, L, S, ρ, σ, hb, h1, hl, h => evP_ok hf e hb h1 rfl (fun i _ => by simp)
  | .cons a b, L, S, ρ, σ, hb, h1, hl, h => by
    refine (evP_ok hf a hb h1 hl (h.sub fun i hi => by simp [vars, hi])).seqF hb h1 fun d v J S1 x1 b1 l1 r1 => ?_
    refine (evP_ok hf b b1 l1 hl ((h.mono hb x1).sub fun i hi => by simp [vars, hi])).seq b1 l1 fun d2 v2 K S2 x2 b2 l2 r2 => ?_
    cases v2 with
    | tup qs =>
      cases r2 with
      | tup t => exact .mk rfl (.tup (.cons (x2.rel b1 r1) t))
    | _ => trivial
  | .tup a, L, S, ρ, σ, hb, h1, hl, h => by
    refine (evP_ok hf a hb h1 hl h).seq hb h1 fun d v J S1 x1 b1 l1 r1 => ?_
    cases v with
    | tup qs =>
      cases r1 with
      | tup t =>
        show RvR _ S1 (if _ then _ else _) (if _ then _ else _)
        rw [t.length]
        split
        · exact .mk rfl (.tup t)
        · trivial
    | _ => trivial
  | .lst a, L, S, ρ, σ, hb, h1, hl, h => by
    refine (evP_ok hf a hb h1 hl h).seq hb h1 fun d v J S1 x1 b1 l1 r1 => ?_
    cases v with
    | tup qs =>
      cases r1 with
      | tup t => exact .alloc b1 t
    | _ => trivial
  | .bin o a b, L, S, ρ, σ, hb, h1, hl, h => by
    refine (evP_ok hf a hb h1 hl (h.sub fun i hi => by simp [vars, hi])).seqF hb h1 fun d v J S1 x1 b1 l1 r1 => ?_
    refine (evP_ok hf b b1 l1 hl ((h.mono hb x1).sub fun i hi => by simp [vars, hi])).seqF b1 l1 fun d2 v2 K S2 x2 b2 l2 r2 => ?_
    exact binP_ok b2 o (x2.rel b1 r1) r2
  | .neg a, L, S, ρ, σ, hb, h1, hl, h => by
    refine (evP_ok hf a hb h1 hl h).seq hb h1 fun d v J S1 x1 b1 l1 r1 => ?_
    cases v with
    | int i =>
      cases r1
      exact .mk rfl (.int _)
    | _ => trivial
  | .not a, L, S, ρ, σ, hb, h1, hl, h => by
    refine (evP_ok hf a hb h1 hl h).seq hb h1 fun d v J S1 x1 b1 l1 r1 => ?_
    cases v with
    | bl i =>
      cases r1
      cases i <;> exact .mk rfl (.bl _)
    | _ => trivial
  | .and a b, L, S, ρ, σ, hb, h1, hl, h => by
    refine (evP_ok hf a hb h1 hl (h.sub fun i hi => by simp [vars, hi])).seq hb h1 fun d v J S1 x1 b1 l1 r1 => ?_
    cases v with
    | bl i =>
      cases r1
      cases i with
      | true => exact evP_ok hf b b1 l1 hl ((h.mono hb x1).sub fun i hi => by simp [vars, hi])
      | false => exact .mk rfl (.bl _)
    | _ => trivial
  | .or a b, L, S, ρ, σ, hb, h1, hl, h => by
    refine (evP_ok hf a hb h1 hl (h.sub fun i hi => by simp [vars, hi])).seq hb h1 fun d v J S1 x1 b1 l1 r1 => ?_
    cases v with
    | bl i =>
      cases r1
      cases i with
      | false => exact evP_ok hf b b1 l1 hl ((h.mono hb x1).sub fun i hi => by simp [vars, hi])
      | true => exact .mk rfl (.bl _)
    | _ => trivial
  | .cmp o a b, L, S, ρ, σ, hb, h1, hl, h => by
    refine (evP_ok hf a hb h1 hl (h.sub fun i hi => by simp [vars, hi])).seqF hb h1 fun d v J S1 x1 b1 l1 r1 => ?_
    refine (evP_ok hf b b1 l1 hl ((h.mono hb x1).sub fun i hi => by simp [vars, hi])).seqF b1 l1 fun d2 v2 K S2 x2 b2 l2 r2 => ?_
    exact cmpP_ok o (x2.rel b1 r1) r2
  | .isn a, L, S, ρ, σ, hb, h1, hl, h => by
    rw [x_isn]
    refine (evP_ok hf a hb h1 hl h).seq hb h1 fun d v J S1 x1 b1 l1 r1 => ?_
    rw [isNon_eq r1]
    exact .mk rfl (.bl _)
  | .notn a, L, S, ρ, σ, hb, h1, hl, h => by
    rw [x_notn]
    refine (evP_ok hf a hb h1 hl h).seq hb h1 fun d v J S1 x1 b1 l1 r1 => ?_
    rw [isNon_eq r1]
    exact .mk rfl (.bl _)
  | .ix a i, L, S, ρ, σ, hb, h1, hl, h => by
    refine (evP_ok hf a hb h1 hl (h.sub fun i hi => by simp [vars, hi])).seqF hb h1 fun d v J S1 x1 b1 l1 r1 => ?_
    refine (evP_ok hf i b1 l1 hl ((h.mono hb x1).sub fun i hi => by simp [vars, hi])).seq b1 l1 fun d2 v2 K S2 x2 b2 l2 r2 => ?_
    exact ixP_ok (x2.rel b1 r1) r2
  | .sl a lo hi, L, S, ρ, σ, hb, h1, hl, h => by
    refine (evP_ok hf a hb h1 hl (h.sub fun i hi => by simp [vars, hi])).seqF hb h1 fun d v J S1 x1 b1 l1 r1 => ?_
    have h2 := (h.mono hb x1)
    refine (evP_ok hf lo b1 l1 hl (h2.sub fun i hi => by simp [vars, hi])).seq b1 l1 fun d2 v2 K S2 x2 b2 l2 r2 => ?_
    show RvR _ S2 (onPart d2 _) (onPartP v2 _)
    unfold onPartP onPart
    cases q : partP v2 with
    | none => trivial
    | some lo' =>
      rw [part_eq r2 _ q]
      refine (evP_ok hf hi b2 l2 hl ((h2.mono b1 x2).sub fun i hi => by simp [vars, hi])).seq b2 l2 fun d3 v3 M S3 x3 b3 l3 r3 => ?_
      show RvR _ S3 (onPart d3 _) (onPartP v3 _)
      unfold onPartP onPart
      cases q3 : partP v3 with
      | none => trivial
      | some hi' =>
        rw [part_eq r3 _ q3]
        exact slP_ok b3 lo' hi' (x3.rel b2 (x2.rel b1 r1))
  | .call f as, L, S, ρ, σ, hb, h1, hl, h => by
    refine (evP_ok hf as hb h1 hl h).seq hb h1 fun d v J S1 x1 b1 l1 r1 => ?_
    cases v with
    | tup qs =>
      cases r1 with
      | tup t => exact hf f _ _ _ _ b1 l1 t
    | _ => trivial
  | .callv i as, L, S, ρ, σ, hb, h1, hl, h => by
    rw [x_callv]
    show RvR L S (onFn ρ[i]? _) (onFnP σ[i]? _)
    have h0 := h i (by simp [vars])
    cases q : σ[i]? with
    | none => trivial
    | some o =>
      cases o with
      | none => trivial
      | some v =>
        rw [q] at h0
        obtain ⟨d, h2, r⟩ := h0
        rw [h2]
        cases v with
        | fn g =>
          cases r
          refine (evP_ok hf as hb h1 hl (h.sub fun i hi => by simp [vars, hi])).seq hb h1 fun d v J S1 x1 b1 l1 r1 => ?_
          cases v with
          | tup qs =>
            cases r1 with
            | tup t =>
              have := hf g _ _ _ _ b1 l1 t
              show RvR _ S1 (okOnly (Φ g _ (L ++ J))) (okOnlyP (Ψ g qs))
              cases z : Ψ g qs with
              | ok u =>
                rw [z] at this
                obtain ⟨d', K, S2, e2, x2, r2⟩ := this
                exact ⟨d', K, S2, by rw [e2]; rfl, x2, r2⟩
              | _ => trivial
          | _ => trivial
        | _ => trivial
  | .bi b as, L, S, ρ, σ, hb, h1, hl, h => by
    rw [x_bi]
    refine (evP_ok hf as hb h1 hl h).seq hb h1 fun d v J S1 x1 b1 l1 r1 => ?_
    cases v with
    | tup qs =>
      cases r1 with
      | tup t => exact biP_ok b1 b t
    | _ => trivial
  | .isi a t, L, S, ρ, σ, hb, h1, hl, h => by
    refine (evP_ok hf a hb h1 hl h).seqF hb h1 fun d v J S1 x1 b1 l1 r1 => ?_
    exact tyP_ok r1 t
  | .ise i c, L, S, ρ, σ, hb, h1, hl, h => by
    rw [x_ise]
    show RvR L S (onExc ρ[i]? _) (onExcP σ[i]? _)
    have h0 := h i (by simp [vars])
    cases q : σ[i]? with
    | none => trivial
    | some o =>
      cases o with
      | none => trivial
      | some v =>
        rw [q] at h0
        obtain ⟨d, h2, r⟩ := h0
        rw [h2]
        cases v with
        | exc g =>
          cases r
          exact .mk rfl (.bl _)
        | _ => trivial
  | .me m o as, L, S, ρ, σ, hb, h1, hl, h => trivial
  | .tm m o as, L, S, ρ, σ, hb, h1, hl, h => by
    refine (evP_ok hf o hb h1 hl (h.sub fun i hi => by simp [vars, hi])).seqF hb h1 fun d v J S1 x1 b1 l1 r1 => ?_
    cases hs : isStrP (frz v) with
    | false =>
      show RvR _ S1 _ (if false = true then _ else .bad)
      trivial
    | true =>
      have hd : MP.isStr d = true := by
        revert r1 hs
        generalize frz v = w
        intro r1 hs
        cases r1 <;> first | rfl | cases hs
      rw [if_pos hd]
      show RvR _ S1 _ (if true = true then _ else _)
      rw [if_pos rfl]
      refine (evP_ok hf as b1 l1 hl ((h.mono hb x1).sub fun i hi => by simp [vars, hi])).seq b1 l1 fun d2 v2 K S2 x2 b2 l2 r2 => ?_
      cases v2 with
      | tup qs =>
        cases r2 with
        | tup t => exact tmP_ok b2 m (x2.rel b1 r1) t
      | _ => trivial
  | .lc s it c e, L, S, ρ, σ, hb, h1, hl, h => by
    rw [x_lc]
    refine (evP_ok hf it hb h1 hl (h.sub fun i hi => by simp [vars, hi])).seqF hb h1 fun d v J S1 x1 b1 l1 r1 => ?_
    show RvR _ S1 (lcOn (items d (L ++ J)) _) (onItemsP (itemsP (frz v)) .bad _)
    cases q : itemsP (frz v) with
    | none => trivial
    | some ps =>
      obtain ⟨w, ds, e0, t, hw⟩ := items_ok r1 q
      rw [e0]
      show RvR _ S1 ((lcGo (fun x L => evE Φ c (ρ.set s (some x)) L) (fun x L => evE Φ e (ρ.set s (some x)) L) w ds ds (L ++ J)).bind fun ys L => alloc ys L) ((lcP (fun x => evP Ψ c (σ.set s (some x))) (fun x => evP Ψ e (σ.set s (some x))) ps).bind allocP)
      have h2 := h.mono hb x1
      have hl2 : ∀ (d : D) (v : Dv), (ρ.set s (some d)).length = (σ.set s (some v)).length := fun d v => by rw [List.length_set, List.length_set, hl]
      cases z : lcP (fun x => evP Ψ c (σ.set s (some x))) (fun x => evP Ψ e (σ.set s (some x))) ps with
      | bad => trivial
      | exc c' =>
        exfalso
        have : ∀ (f g : Dv → Rv Dv) (ps : List Dv) (c' : Str), lcP f g ps ≠ .exc c' := by
          intro f g ps c'
          induction ps with
          | nil => intro h; cases h
          | cons p ps ih =>
            intro h
            unfold lcP at h
            repeat' split at h
            all_goals first | exact ih h | cases h
        exact this _ _ _ _ z
      | ok qs =>
        have env : ∀ (L' : Hd) (S' : Nat → Prop), Lat (L ++ J) S1 L' S' → EnvR L' S' (vars (.lc s it c e)) ρ σ := fun L' S' l => by
          obtain ⟨K, rfl, x⟩ := l
          exact h2.mono b1 x
        obtain ⟨es, K, S2, e2, x2, r2⟩ := lc_ok (c := fun x L => evE Φ c (ρ.set s (some x)) L) (e := fun x L => evE Φ e (ρ.set s (some x)) L) b1 l1 t hw (fun L' S' l b2 l2 x p hr => evP_ok hf c b2 l2 (hl2 x p) (((env L' S' l).set hl hr).sub fun i hi => by simp [vars, hi])) (fun L' S' l b2 l2 x p hr => evP_ok hf e b2 l2 (hl2 x p) (((env L' S' l).set hl hr).sub fun i hi => by simp [vars, hi])) qs z
        rw [e2]
        show RvR _ S1 (alloc es (L ++ J ++ K)) (allocP qs)
        have := RvR.alloc (x2.bd b1) r2
        cases a : allocP qs with
        | bad => trivial
        | exc c' =>
          unfold allocP at a
          split at a <;> cases a
        | ok u =>
          rw [a] at this
          obtain ⟨d', M, S3, e3, x3, r3⟩ := this
          refine ⟨d', K ++ M, S3, by rw [e3, List.append_assoc], x2.trans x3, ?_⟩
          rw [← List.append_assoc]
          cases u with
          | own ps =>
            obtain ⟨n, ds, a, b, c⟩ := r3
            exact ⟨n, ds, a, by rw [List.length_append] at b; omega, c⟩
          | _ => exact r3
  | .rng as, L, S, ρ, σ, hb, h1, hl, h => by
    rw [x_rng]
    refine (evP_ok hf as hb h1 hl h).seq hb h1 fun d v J S1 x1 b1 l1 r1 => ?_
    cases v with
    | tup qs =>
      cases r1 with
      | tup t => exact rngP_ok t
    | _ => trivial
  | .rev a, L, S, ρ, σ, hb, h1, hl, h => by
    rw [x_rev]
    refine (evP_ok hf a hb h1 hl h).seq hb h1 fun d v J S1 x1 b1 l1 r1 => ?_
    exact revP_ok r1
theorem lcPX_ok {c e : Dv → Rv Dv} : ∀ {ps qs : List Dv}, lcPX c e ps = .ok qs → lcP c e ps = .ok qs
  | [], _, h => h
  | p :: ps, qs, h => by
    unfold lcPX at h
    unfold lcP
    cases hc : c p with
    | bad => rw [hc] at h; cases h
    | exc k => rw [hc] at h; cases h
    | ok v =>
      rw [hc] at h
      cases v with
      | bl b =>
        cases b with
        | false => exact lcPX_ok h
        | true =>
          cases he : e p with
          | bad => rw [he] at h; cases h
          | exc k => rw [he] at h; cases h
          | ok y =>
            rw [he] at h
            cases hr : lcPX c e ps with
            | bad => rw [hr] at h; cases h
            | exc k => rw [hr] at h; cases h
            | ok ys =>
              rw [hr] at h
              cases h
              show (match lcP c e ps with | .ok ys => Rv.ok (frz y :: ys) | _ => .bad) = _
              rw [lcPX_ok hr]
      | _ => cases h
theorem lcGoX_ok {c e : D → Hd → R D} {w : Option Nat} {all : List D} : ∀ {xs : List D} {L L' : Hd} {ys : List D}, lcGo c e w all xs L = .ok ys L' → lcGoX c e w all xs L = .ok ys L'
  | [], L, L', ys, h => h
  | x :: xs, L, L', ys, h => by
    unfold lcGo at h
    unfold lcGoX
    split at h
    · rename_i hs
      rw [if_pos hs]
      cases hc : c x L with
      | bad => rw [hc] at h; cases h
      | exc k L1 => rw [hc] at h; cases h
      | ok v L1 =>
        rw [hc] at h
        cases v with
        | bl b =>
          cases b with
          | false => exact lcGoX_ok h
          | true =>
            dsimp only at h ⊢
            cases he : e x L1 with
            | bad => rw [he] at h; cases h
            | exc k L2 => rw [he] at h; cases h
            | ok y L2 =>
              rw [he] at h
              dsimp only at h ⊢
              cases hr : lcGo c e w all xs L2 with
              | bad => rw [hr] at h; cases h
              | exc k L3 => rw [hr] at h; cases h
              | ok zs L3 =>
                rw [hr] at h
                cases h
                show (match lcGoX c e w all xs L2 with | .ok ys L3 => R.ok (y :: ys) L3 | .exc k L3 => .exc k L3 | .bad => .bad) = _
                rw [lcGoX_ok hr]
        | _ => cases h
    · cases h
open Classical in
theorem lc_exc {c e : D → Hd → R D} {c' e' : Dv → Rv Dv} {w : Option Nat} {all : List D} {kk : Str} :
    ∀ {xs : List D} {ps : List Dv} {L : Hd} {S : Nat → Prop}, Bd L S → 1 ≤ L.length → Rels L S xs ps → (∀ n, w = some n → S n ∧ getL L n = some all) →
    (∀ L' S', Lat L S L' S' → Bd L' S' → 1 ≤ L'.length → ∀ x p, Rel L' S' x p → RvR L' S' (c x L') (c' p)) →
    (∀ L' S', Lat L S L' S' → Bd L' S' → 1 ≤ L'.length → ∀ x p, Rel L' S' x p → RvR L' S' (e x L') (e' p)) →
    lcPX c' e' ps = .exc kk → ∃ J, lcGoX c e w all xs L = .exc kk (L ++ J)
  | [], _, L, S, hb, h1, t, hw, hc, he, h => by
    cases t
    cases h
  | x :: xs, _, L, S, hb, h1, .cons (p := p) (ps := ps) r t, hw, hc, he, h => by
    have hs : seen w all L := by
      unfold seen
      cases w with
      | none => trivial
      | some n => exact (hw n rfl).2
    unfold lcGoX
    rw [if_pos hs]
    unfold lcPX at h
    have hc0 := hc L S .refl hb h1 x p r
    cases qc : c' p with
    | bad =>
      rw [qc] at h
      cases h
    | exc _ =>
      rw [qc] at h
      cases h
    | ok v =>
      rw [qc] at h hc0
      obtain ⟨d, J, S1, e1, x1, r1⟩ := hc0
      rw [e1]
      cases v with
      | bl b =>
        cases r1
        have hb1 := x1.bd hb
        have hl1 : 1 ≤ (L ++ J).length := by rw [List.length_append]; omega
        have hw1 : ∀ n, w = some n → S1 n ∧ getL (L ++ J) n = some all := fun n hn => ⟨x1.up n (hw n hn).1, getL_app (hw n hn).2⟩
        cases b with
        | false =>
          obtain ⟨K, e2⟩ := lc_exc (L := L ++ J) (S := S1) hb1 hl1 (x1.rels hb t) hw1 (fun L' S' l => hc L' S' ((Lat.of x1).trans l)) (fun L' S' l => he L' S' ((Lat.of x1).trans l)) h
          exact ⟨J ++ K, by rw [← List.append_assoc]; exact e2⟩
        | true =>
          have he0 := he (L ++ J) S1 (Lat.of x1) hb1 hl1 x p (x1.rel hb r)
          cases qe : e' p with
          | bad =>
            rw [qe] at h
            cases h
          | exc k2 =>
            rw [qe] at h he0
            cases h
            obtain ⟨K, e2⟩ := he0
            refine ⟨J ++ K, ?_⟩
            show (match e x (L ++ J) with | .ok y L2 => (match lcGoX c e w all xs L2 with | .ok ys L3 => R.ok (y :: ys) L3 | .exc k L3 => .exc k L3 | .bad => .bad) | .exc k L2 => .exc k L2 | .bad => .bad) = _
            rw [e2, List.append_assoc]
          | ok u =>
            rw [qe] at h he0
            obtain ⟨y, K, S2, e2, x2, r2⟩ := he0
            obtain ⟨S3, x3, m3, r3⟩ := r2.frz x2 hl1
            have hb3 := x3.bd hb1
            have hl3 : 1 ≤ (L ++ J ++ K).length := by rw [List.length_append]; omega
            have hw3 : ∀ n, w = some n → S3 n ∧ getL (L ++ J ++ K) n = some all := fun n hn => ⟨x3.up n (hw1 n hn).1, getL_app (hw1 n hn).2⟩
            cases ql : lcPX c' e' ps with
            | bad =>
              rw [ql] at h
              cases h
            | ok _ =>
              rw [ql] at h
              cases h
            | exc k2 =>
              rw [ql] at h
              cases h
              have x13 := (Lat.of x1).trans (Lat.of x3)
              obtain ⟨M, e4⟩ := lc_exc (L := L ++ J ++ K) (S := S3) hb3 hl3 (x3.rels hb1 (x1.rels hb t)) hw3 (fun L' S' l => hc L' S' (x13.trans l)) (fun L' S' l => he L' S' (x13.trans l)) ql
              refine ⟨J ++ K ++ M, ?_⟩
              show (match e x (L ++ J) with | .ok y L2 => (match lcGoX c e w all xs L2 with | .ok ys L3 => R.ok (y :: ys) L3 | .exc k L3 => .exc k L3 | .bad => .bad) | .exc k L2 => .exc k L2 | .bad => .bad) = _
              rw [e2]
              show (match lcGoX c e w all xs (L ++ J ++ K) with | .ok ys L3 => R.ok (y :: ys) L3 | .exc k L3 => .exc k L3 | .bad => .bad) = _
              rw [e4]
              simp only [List.append_assoc]
      | _ => cases h
/-- a comprehension's turns: what is walked, and an exception -/
theorem lcx_run {Φ : Str → List D → Hd → R D} {Ψ : Str → List Dv → Rv Dv} (hf : FnR Φ Ψ) {s : Nat} {it c e : Ex} {L : Hd} {S : Nat → Prop} {ρ : MP.Env} {σ : Ev} (hb : Bd L S) (h1 : 1 ≤ L.length) (hl : ρ.length = σ.length) (h : EnvR L S (vars (.lc s it c e)) ρ σ) {v : Dv} {ps : List Dv} (hv : evP Ψ it σ = .ok v) (hp : itemsP (frz v) = some ps) :
    ∃ d J w ds, evE Φ it ρ L = .ok d (L ++ J) ∧ items d (L ++ J) = some (w, ds) ∧ ds.length = ps.length ∧ ∀ kk, lcPX (fun x => evP Ψ c (σ.set s (some x))) (fun x => evP Ψ e (σ.set s (some x))) ps = .exc kk →
      ∃ K, lcGoX (fun x L => evE Φ c (ρ.set s (some x)) L) (fun x L => evE Φ e (ρ.set s (some x)) L) w ds ds (L ++ J) = .exc kk (L ++ K) := by
  have r0 := evP_ok hf it hb h1 hl (h.sub fun i hi => by simp [vars, hi])
  rw [hv] at r0
  obtain ⟨d, J, S0, e1, x0, r1⟩ := r0
  obtain ⟨S1, x1, m1, rz⟩ := r1.frz x0 h1
  have b1 := x1.bd hb
  have l1 : 1 ≤ (L ++ J).length := by rw [List.length_append]; omega
  obtain ⟨w, ds, e0, t, hw⟩ := items_ok rz hp
  refine ⟨d, J, w, ds, e1, e0, t.length, fun kk hk => ?_⟩
  have h2 := h.mono hb x1
  have hl2 : ∀ (d : D) (v : Dv), (ρ.set s (some d)).length = (σ.set s (some v)).length := fun d v => by rw [List.length_set, List.length_set, hl]
  have env : ∀ (L' : Hd) (S' : Nat → Prop), Lat (L ++ J) S1 L' S' → EnvR L' S' (vars (.lc s it c e)) ρ σ := fun L' S' l => by
    obtain ⟨K, rfl, x⟩ := l
    exact h2.mono b1 x
  obtain ⟨K, e2⟩ := lc_exc (c := fun x L => evE Φ c (ρ.set s (some x)) L) (e := fun x L => evE Φ e (ρ.set s (some x)) L) b1 l1 t hw (fun L' S' l b2 l2 x p hr => evP_ok hf c b2 l2 (hl2 x p) (((env L' S' l).set hl hr).sub fun i hi => by simp [vars, hi])) (fun L' S' l b2 l2 x p hr => evP_ok hf e b2 l2 (hl2 x p) (((env L' S' l).set hl hr).sub fun i hi => by simp [vars, hi])) hk
  exact ⟨J ++ K, by rw [← List.append_assoc]; exact e2⟩
end FP

/-! FP's statements tell what MP's do. -/
namespace FP
open PySem MP
structure Frm (b : Nat) (L : Hd) (S : Nat → Prop) (ρ : MP.Env) (σ : Ev) : Prop where
  len : ρ.length = σ.length
  bd : Bd L S
  bb : b ≤ L.length
  b1 : 1 ≤ b
  sl : ∀ (i : Nat) (v : Dv), σ[i]? = some (some v) → ∃ d, ρ[i]? = some (some d) ∧ RelT L S b d v
  dj : ∀ (i j : Nat) (ps qs : List Dv) (n : Nat), i ≠ j → σ[i]? = some (some (.own ps)) → σ[j]? = some (some (.own qs)) → ρ[i]? = some (some (.ref n)) → ρ[j]? = some (some (.ref n)) → False
structure Step (b : Nat) (L : Hd) (S : Nat → Prop) (L' : Hd) (S' : Nat → Prop) : Prop where
  len : L.length ≤ L'.length
  old : ∀ n, n < b → L'[n]? = L[n]?
  fro : ∀ n, S n → L'[n]? = L[n]?
  up : ∀ n, S n → S' n
  nw : ∀ n, S' n → S n ∨ b ≤ n
  bd : Bd L' S'
theorem Step.refl {b : Nat} {L : Hd} {S : Nat → Prop} (h : Bd L S) : Step b L S L S := ⟨Nat.le_refl _, fun _ _ => rfl, fun _ _ => rfl, fun _ h => h, fun _ h => .inl h, h⟩
theorem Step.trans {b : Nat} {L L1 L2 : Hd} {S S1 S2 : Nat → Prop} (x : Step b L S L1 S1) (y : Step b L1 S1 L2 S2) : Step b L S L2 S2 :=
  ⟨Nat.le_trans x.len y.len, fun n h => (y.old n h).trans (x.old n h), fun n h => (y.fro n (x.up n h)).trans (x.fro n h), fun n h => y.up n (x.up n h), fun n h => by
    rcases y.nw n h with a | a
    · exact x.nw n a
    · exact .inr a, y.bd⟩
theorem Step.rel {b : Nat} {L L' : Hd} {S S' : Nat → Prop} (x : Step b L S L' S') {d : D} {v : Dv} (r : Rel L S d v) : Rel L' S' d v := r.mono x.up x.fro
theorem Step.rels {b : Nat} {L L' : Hd} {S S' : Nat → Prop} (x : Step b L S L' S') {d : List D} {v : List Dv} (r : Rels L S d v) : Rels L' S' d v := r.mono x.up x.fro
theorem not_own {v : Dv} (h : ∀ ps, v ≠ .own ps) {L : Hd} {S : Nat → Prop} {b : Nat} {d : D} : RelT L S b d v = Rel L S d v := by
  cases v with
  | own ps => exact absurd rfl (h ps)
  | _ => rfl
/-- more lists stand -/
theorem Frm.app {b : Nat} {L J : Hd} {S : Nat → Prop} {ρ : MP.Env} {σ : Ev} (F : Frm b L S ρ σ) : Frm b (L ++ J) S ρ σ := by
  refine ⟨F.len, fun n h => ?_, ?_, F.b1, fun i v h => ?_, F.dj⟩
  · have := F.bd n h
    rw [List.length_append]
    omega
  · have := F.bb
    rw [List.length_append]
    omega
  · obtain ⟨d, h1, r⟩ := F.sl i v h
    refine ⟨d, h1, ?_⟩
    cases v with
    | own ps =>
      obtain ⟨n, ds, a, b, c, e, f⟩ := r
      exact ⟨n, ds, a, b, c, getL_app e, f.mono (fun _ h => h) fun n h => get_app (F.bd n h)⟩
    | _ => exact Rel.mono (fun _ h => h) (fun n h => get_app (F.bd n h)) r
theorem Frm.stepApp {b : Nat} {L J : Hd} {S : Nat → Prop} {ρ : MP.Env} {σ : Ev} (F : Frm b L S ρ σ) : Step b L S (L ++ J) S :=
  ⟨by rw [List.length_append]; omega, fun n h => get_app (by have := F.bb; omega), fun n h => get_app (F.bd n h), fun _ h => h, fun _ h => .inl h, F.app.bd⟩
/-- an own list stands below the heap's end -/
theorem Frm.lt {b : Nat} {L : Hd} {S : Nat → Prop} {ρ : MP.Env} {σ : Ev} (F : Frm b L S ρ σ) {i n : Nat} {ps : List Dv} (h : σ[i]? = some (some (.own ps))) (h2 : ρ[i]? = some (some (.ref n))) : n < L.length := by
  obtain ⟨d, h1, m, ds, rfl, _, _, g, _⟩ := F.sl i _ h
  rw [h1] at h2
  cases h2
  exact getL_lt g
theorem frzAt_get (i j : Nat) (σ : Ev) : (frzAt i σ)[j]? = if j = i then (σ[j]?).map (Option.map frz) else σ[j]? := by
  have hn : ∀ o, σ[i]? = o → (∀ d, o ≠ some (some d)) → frzAt i σ = σ ∧ (σ[i]?).map (Option.map frz) = σ[i]? := fun o h1 h2 => by
    unfold frzAt
    rw [h1]
    cases o with
    | none => exact ⟨rfl, rfl⟩
    | some o =>
      cases o with
      | none => exact ⟨rfl, rfl⟩
      | some d => exact absurd rfl (h2 d)
  by_cases hd : ∃ d, σ[i]? = some (some d)
  · obtain ⟨d, q⟩ := hd
    have e : frzAt i σ = σ.set i (some (frz d)) := by
      unfold frzAt
      rw [q]
    rw [e, List.getElem?_set]
    by_cases h : i = j
    · subst h
      have hlt : i < σ.length := by
        by_cases hn : i < σ.length
        · exact hn
        · rw [List.getElem?_eq_none (by omega)] at q
          cases q
      rw [if_pos rfl, if_pos hlt, if_pos rfl, q]
      rfl
    · rw [if_neg h, if_neg (fun e => h e.symm)]
  · obtain ⟨h1, h2⟩ := hn _ rfl fun d h => hd ⟨d, h⟩
    rw [h1]
    split
    · rename_i h
      rw [h]
      exact h2.symm
    · rfl
theorem frz_frz (v : Dv) : frz (frz v) = frz v := by cases v <;> rfl
theorem frzs_get (j : Nat) : ∀ (vs : List Nat) (σ : Ev), (frzs vs σ)[j]? = if j ∈ vs then (σ[j]?).map (Option.map frz) else σ[j]?
  | [], σ => by simp [frzs]
  | i :: vs, σ => by
    unfold frzs
    rw [frzs_get j vs, frzAt_get]
    by_cases h1 : j ∈ vs
    · rw [if_pos h1, if_pos (List.mem_cons_of_mem _ h1)]
      split
      · rename_i h
        cases σ[j]? with
        | none => rfl
        | some o => cases o with
          | none => rfl
          | some d =>
            show some (some (frz (frz d))) = some (some (frz d))
            rw [frz_frz]
      · rfl
    · rw [if_neg h1]
      by_cases h2 : j = i
      · rw [if_pos h2, if_pos (by rw [h2]; exact List.mem_cons_self)]
      · rw [if_neg h2, if_neg (by simp [h1, h2])]
theorem frzAt_len (i : Nat) (σ : Ev) : (frzAt i σ).length = σ.length := by
  unfold frzAt
  split
  · rw [List.length_set]
  · rfl
theorem frzs_len : ∀ (vs : List Nat) (σ : Ev), (frzs vs σ).length = σ.length
  | [], _ => rfl
  | i :: vs, σ => by
    unfold frzs
    rw [frzs_len vs, frzAt_len]
theorem frzIf_own {fl : Bool} {vs : List Nat} {σ : Ev} {i : Nat} {ps : List Dv} (h : (frzIf fl vs σ)[i]? = some (some (.own ps))) : σ[i]? = some (some (.own ps)) ∧ (fl = true → i ∉ vs) := by
  unfold frzIf at h
  split at h
  · rw [frzs_get] at h
    split at h
    · rename_i hi
      exfalso
      cases q : σ[i]? with
      | none => rw [q] at h; cases h
      | some o =>
        rw [q] at h
        cases o with
        | none => cases h
        | some d =>
          cases d <;> cases h
    · exact ⟨h, fun _ => by assumption⟩
  · rename_i hf
    exact ⟨h, fun z => absurd z hf⟩
/-- an expression, in a frame -/
theorem Frm.ev {Φ : Str → List D → Hd → R D} {Ψ : Str → List Dv → Rv Dv} (hf : FnR Φ Ψ) {b : Nat} {L : Hd} {S : Nat → Prop} {ρ : MP.Env} {σ : Ev} (F : Frm b L S ρ σ) (e : Ex) {v : Dv} (hv : evP Ψ e σ = .ok v) (fl : Bool) (hfl : inL v = true → fl = true) :
    ∃ d J S', evE Φ e ρ L = .ok d (L ++ J) ∧ Step b L S (L ++ J) S' ∧ Frm b (L ++ J) S' ρ (frzIf fl (vars e) σ) ∧ RelT (L ++ J) S' L.length d v := by
  have bS1 : Bd L fun n => S n ∨ ∃ j ∈ vars e, ∃ ps, σ[j]? = some (some (.own ps)) ∧ ρ[j]? = some (some (.ref n)) := fun n h => by
    rcases h with h | ⟨j, _, ps, h1, h2⟩
    · exact F.bd n h
    · exact F.lt h1 h2
  have E1 : EnvR L (fun n => S n ∨ ∃ j ∈ vars e, ∃ ps, σ[j]? = some (some (.own ps)) ∧ ρ[j]? = some (some (.ref n))) (vars e) ρ σ := fun i hi => by
    split
    · rename_i v hv
      obtain ⟨d, h1, r⟩ := F.sl i v hv
      refine ⟨d, h1, ?_⟩
      cases v with
      | own ps =>
        obtain ⟨n, ds, rfl, hb, hn, hg, hr⟩ := r
        exact .lst (by have := F.b1; omega) (.inr ⟨i, hi, ps, hv, h1⟩) hg (hr.mono (fun _ h => .inl h) fun _ _ => rfl)
      | _ => exact Rel.mono (fun _ h => .inl h) (fun _ _ => rfl) r
    · trivial
  have := evP_ok hf e bS1 (by have := F.b1; have := F.bb; omega) F.len E1
  rw [hv] at this
  obtain ⟨d, J, S', e1, x, r⟩ := this
  cases fl with
  | true =>
    have bd' := x.bd bS1
    refine ⟨d, J, S', e1, ⟨by rw [List.length_append]; omega, fun n h => get_app (by have := F.bb; omega), fun n h => get_app (F.bd n h), fun n h => x.up n (.inl h), fun n h => ?_, bd'⟩, ⟨?_, bd', ?_, F.b1, fun i w h => ?_, fun i j ps qs n hij h1 h2 => F.dj i j ps qs n hij (frzIf_own h1).1 (frzIf_own h2).1⟩, r⟩
    · rcases x.nw n h with (h | ⟨j, _, ps, h1, h2⟩) | h
      · exact .inl h
      · obtain ⟨d, h3, m, ds, rfl, hb, _⟩ := F.sl j _ h1
        rw [h3] at h2
        cases h2
        exact .inr hb
      · have := F.bb
        exact .inr (by omega)
    · show _ = (frzs _ _).length
      rw [frzs_len]
      exact F.len
    · have := F.bb
      rw [List.length_append]
      omega
    · have h' : (frzs (vars e) σ)[i]? = some (some w) := h
      rw [frzs_get] at h'
      split at h'
      · rename_i hi
        have hE := E1.mono bS1 x i hi
        cases q : σ[i]? with
        | none => rw [q] at h'; cases h'
        | some o =>
          cases o with
          | none => rw [q] at h'; cases h'
          | some u =>
            rw [q] at h' hE
            cases h'
            obtain ⟨d', h1, r'⟩ := hE
            exact ⟨d', h1, .of r'⟩
      · rename_i hi
        obtain ⟨d', h1, r'⟩ := F.sl i w h'
        refine ⟨d', h1, ?_⟩
        cases w with
        | own ps =>
          obtain ⟨n, ds, rfl, hb, hn, hg, hr⟩ := r'
          refine ⟨n, ds, rfl, hb, fun hs => ?_, getL_app hg, hr.mono (fun n h => x.up n (.inl h)) fun n h => get_app (F.bd n h)⟩
          rcases x.nw n hs with (hs | ⟨j, hj, qs, h2, h3⟩) | hs
          · exact hn hs
          · exact F.dj i j ps qs n (fun z => hi (z ▸ hj)) h' h2 h1 h3
          · have := getL_lt hg
            omega
        | _ => exact Rel.mono (fun n h => x.up n (.inl h)) (fun n h => get_app (F.bd n h)) r'
  | false =>
    refine ⟨d, J, S, e1, F.stepApp, F.app, ?_⟩
    have hv : inL v = false := by
      cases q : inL v with
      | false => rfl
      | true => exact absurd (hfl q) (by simp)
    cases v with
    | own ps =>
      obtain ⟨n, ds, rfl, hb, hn, hg, hr⟩ := r
      exact ⟨n, ds, rfl, hb, fun hs => by have := F.bd n hs; omega, hg, Rels.free FUEL hv hr⟩
    | _ => exact Rel.free FUEL hv r
theorem Frm.evX {Φ : Str → List D → Hd → R D} {Ψ : Str → List Dv → Rv Dv} (hf : FnR Φ Ψ) {b : Nat} {L : Hd} {S : Nat → Prop} {ρ : MP.Env} {σ : Ev} (F : Frm b L S ρ σ) (e : Ex) {c : Str} (hv : evP Ψ e σ = .exc c) : ∃ J, evE Φ e ρ L = .exc c (L ++ J) := by
  have bS1 : Bd L fun n => S n ∨ ∃ j ∈ vars e, ∃ ps, σ[j]? = some (some (.own ps)) ∧ ρ[j]? = some (some (.ref n)) := fun n h => by
    rcases h with h | ⟨j, _, ps, h1, h2⟩
    · exact F.bd n h
    · exact F.lt h1 h2
  have E1 : EnvR L (fun n => S n ∨ ∃ j ∈ vars e, ∃ ps, σ[j]? = some (some (.own ps)) ∧ ρ[j]? = some (some (.ref n))) (vars e) ρ σ := fun i hi => by
    split
    · rename_i v hv
      obtain ⟨d, h1, r⟩ := F.sl i v hv
      refine ⟨d, h1, ?_⟩
      cases v with
      | own ps =>
        obtain ⟨n, ds, rfl, hb, hn, hg, hr⟩ := r
        exact .lst (by have := F.b1; omega) (.inr ⟨i, hi, ps, hv, h1⟩) hg (hr.mono (fun _ h => .inl h) fun _ _ => rfl)
      | _ => exact Rel.mono (fun _ h => .inl h) (fun _ _ => rfl) r
    · trivial
  have := evP_ok hf e bS1 (by have := F.b1; have := F.bb; omega) F.len E1
  rw [hv] at this
  exact this
/-- a name gets a value -/
theorem Frm.set {b : Nat} {L : Hd} {S : Nat → Prop} {ρ : MP.Env} {σ : Ev} (F : Frm b L S ρ σ) {i m : Nat} {d : D} {v : Dv} (hb : b ≤ m) (hm : ∀ (j : Nat) (ps : List Dv) (n : Nat), σ[j]? = some (some (.own ps)) → ρ[j]? = some (some (.ref n)) → n < m) (r : RelT L S m d v) : Frm b L S (ρ.set i (some d)) (σ.set i (some v)) := by
  have look : ∀ (j : Nat) (w : Dv), (σ.set i (some v))[j]? = some (some w) → (i = j ∧ i < σ.length ∧ w = v) ∨ (i ≠ j ∧ σ[j]? = some (some w)) := fun j w h => by
    rw [List.getElem?_set] at h
    split at h
    · split at h
      · rename_i h1 h2
        cases h
        exact .inl ⟨h1, h2, rfl⟩
      · cases h
    · rename_i h1
      exact .inr ⟨h1, h⟩
  have lk1 : i < σ.length → (ρ.set i (some d))[i]? = some (some d) := fun h => by rw [List.getElem?_set, if_pos rfl, if_pos (by rw [F.len]; exact h)]
  have lk2 : ∀ j, i ≠ j → (ρ.set i (some d))[j]? = ρ[j]? := fun j h => by rw [List.getElem?_set, if_neg h]
  have new : ∀ ps n, v = .own ps → d = .ref n → m ≤ n := fun ps n h1 h2 => by
    subst h1
    obtain ⟨n', ds, h, hb, _⟩ := r
    rw [h] at h2
    cases h2
    exact hb
  refine ⟨by rw [List.length_set, List.length_set]; exact F.len, F.bd, F.bb, F.b1, fun j w h => ?_, fun j k ps qs n hjk h1 h2 h3 h4 => ?_⟩
  · rcases look j w h with ⟨h1, h2, rfl⟩ | ⟨h1, h2⟩
    · subst h1
      refine ⟨d, lk1 h2, ?_⟩
      cases w with
      | own ps =>
        obtain ⟨n', ds, h, hb', z⟩ := r
        exact ⟨n', ds, h, by omega, z⟩
      | _ => exact r
    · rw [lk2 j h1]
      exact F.sl j w h2
  · rcases look j _ h1 with ⟨e1, e2, e3⟩ | ⟨e1, e2⟩
    · subst e1
      rw [lk1 e2] at h3
      cases h3
      rcases look k _ h2 with ⟨f1, f2, f3⟩ | ⟨f1, f2⟩
      · exact hjk f1
      · rw [lk2 k f1] at h4
        have := hm k qs n f2 h4
        have := new ps n e3.symm rfl
        omega
    · rw [lk2 j e1] at h3
      rcases look k _ h2 with ⟨f1, f2, f3⟩ | ⟨f1, f2⟩
      · subst f1
        rw [lk1 f2] at h4
        cases h4
        have := hm j ps n e2 h3
        have := new qs n f3.symm rfl
        omega
      · rw [lk2 k f1] at h4
        exact F.dj j k ps qs n hjk e2 f2 h3 h4
theorem Frm.setR {b : Nat} {L : Hd} {S : Nat → Prop} {ρ : MP.Env} {σ : Ev} (F : Frm b L S ρ σ) {i : Nat} {d : D} {v : Dv} (r : Rel L S d v) : Frm b L S (ρ.set i (some d)) (σ.set i (some v)) :=
  F.set (m := L.length) F.bb (fun j ps n h1 h2 => F.lt h1 h2) (.of r)
/-- a told list is handed on -/
theorem Frm.hand {b : Nat} {L : Hd} {S : Nat → Prop} {ρ : MP.Env} {σ : Ev} (F : Frm b L S ρ σ) {m : Nat} {d : D} {v : Dv} (hb : b ≤ m) (hm : ∀ (j : Nat) (ps : List Dv) (n : Nat), σ[j]? = some (some (.own ps)) → ρ[j]? = some (some (.ref n)) → n < m) (r : RelT L S m d v) : ∃ S2, Step b L S L S2 ∧ Frm b L S2 ρ σ ∧ Rel L S2 d (frz v) := by
  cases v with
  | own ps =>
    obtain ⟨n, ds, rfl, hb', hn, hg, hr⟩ := r
    have bd' : Bd L fun k => S k ∨ k = n := fun k h => by
      rcases h with h | rfl
      · exact F.bd k h
      · exact getL_lt hg
    refine ⟨fun k => S k ∨ k = n, ⟨Nat.le_refl _, fun _ _ => rfl, fun _ _ => rfl, fun _ h => .inl h, fun k h => ?_, bd'⟩, ⟨F.len, bd', F.bb, F.b1, fun i w h => ?_, F.dj⟩, .lst (by have := F.b1; omega) (.inr rfl) hg (hr.mono (fun _ h => .inl h) fun _ _ => rfl)⟩
    · rcases h with h | rfl
      · exact .inl h
      · exact .inr (by omega)
    · obtain ⟨d, h1, r⟩ := F.sl i w h
      refine ⟨d, h1, ?_⟩
      cases w with
      | own qs =>
        obtain ⟨k, ds, rfl, hb, hk, hg, hr⟩ := r
        refine ⟨k, ds, rfl, hb, fun z => ?_, hg, hr.mono (fun _ h => .inl h) fun _ _ => rfl⟩
        rcases z with z | rfl
        · exact hk z
        · have := hm i qs k h h1
          omega
      | _ => exact Rel.mono (fun _ h => .inl h) (fun _ _ => rfl) r
  | _ => exact ⟨S, .refl F.bd, F, r⟩
theorem setL_get {L : Hd} {n m : Nat} {xs : List D} (h : n ≠ m) : (setL L n xs)[m]? = L[m]? := by
  unfold setL
  rw [List.getElem?_set, if_neg h]
theorem setL_same {L : Hd} {n : Nat} {xs ys : List D} (h : getL L n = some ys) : getL (setL L n xs) n = some xs := by
  have := getL_lt h
  unfold setL getL
  rw [List.getElem?_set, if_pos rfl, if_pos this]
theorem setL_len {L : Hd} {n : Nat} {xs : List D} : (setL L n xs).length = L.length := by
  unfold setL
  rw [List.length_set]
/-- an own list is changed -/
theorem Frm.mut {b : Nat} {L : Hd} {S : Nat → Prop} {ρ : MP.Env} {σ : Ev} (F : Frm b L S ρ σ) {j n : Nat} {ps qs : List Dv} {xs : List D} (h : σ[j]? = some (some (.own ps))) (h2 : ρ[j]? = some (some (.ref n))) (r : Rels L S xs qs) : Step b L S (setL L n xs) S ∧ Frm b (setL L n xs) S ρ (σ.set j (some (.own qs))) := by
  obtain ⟨d, h1, m, ds, rfl, hb, hn, hg, hr⟩ := F.sl j _ h
  rw [h2] at h1
  cases h1
  have keep : ∀ k, S k → (setL L n xs)[k]? = L[k]? := fun k hk => setL_get fun z => hn (z ▸ hk)
  have bd' : Bd (setL L n xs) S := fun k hk => by rw [setL_len]; exact F.bd k hk
  have hjl : j < σ.length := by
    by_cases hn : j < σ.length
    · exact hn
    · rw [List.getElem?_eq_none (by omega)] at h
      cases h
  refine ⟨⟨by rw [setL_len]; exact Nat.le_refl _, fun k hk => setL_get (by omega), keep, fun _ h => h, fun _ h => .inl h, bd'⟩, ⟨by rw [List.length_set]; exact F.len, bd', by rw [setL_len]; exact F.bb, F.b1, fun i w hi => ?_, fun i k us vs m hik h3 h4 h5 h6 => ?_⟩⟩
  · rw [List.getElem?_set] at hi
    split at hi
    · rename_i hji
      subst hji
      first | rw [if_pos hjl] at hi | skip
      cases hi
      exact ⟨_, h2, n, xs, rfl, hb, hn, setL_same hg, r.mono (fun _ h => h) keep⟩
    · rename_i hji
      obtain ⟨d, h1, r⟩ := F.sl i w hi
      refine ⟨d, h1, ?_⟩
      cases w with
      | own us =>
        obtain ⟨k, es, rfl, hb2, hk, hg2, hr2⟩ := r
        have hkn : n ≠ k := fun z => F.dj j i ps us n hji h hi h2 (by rw [h1, z])
        refine ⟨k, es, rfl, hb2, hk, ?_, hr2.mono (fun _ h => h) keep⟩
        unfold getL at hg2 ⊢
        rw [setL_get hkn]
        exact hg2
      | _ => exact Rel.mono (fun _ h => h) keep r
  · have own : ∀ (k : Nat) (us : List Dv), (σ.set j (some (Dv.own qs)))[k]? = some (some (Dv.own us)) → ∃ us' : List Dv, σ[k]? = some (some (Dv.own us')) := fun k us h0 => by
      rw [List.getElem?_set] at h0
      by_cases hjk : j = k
      · subst hjk
        exact ⟨ps, h⟩
      · rw [if_neg hjk] at h0
        exact ⟨us, h0⟩
    obtain ⟨us', h3⟩ := own i us h3
    obtain ⟨vs', h4⟩ := own k vs h4
    exact F.dj i k us' vs' m hik h3 h4 h5 h6
theorem meP_ok {L : Hd} {S : Nat → Prop} {m : Me} {n : Nat} {xs ds : List D} {ps qs ps' : List Dv} {v : Dv} (h0 : n ≠ 0) (hg : getL L n = some xs) (r : Rels L S xs ps) (t : Rels L S ds qs) (h : meP m ps qs = some (v, ps')) : recv m (.ref n) = true ∧ ∃ d xs', meop m (.ref n) ds L = .ok d (setL L n xs') ∧ Rels L S xs' ps' ∧ Rel L S d v := by
  cases m with
  | append =>
    cases t with
    | nil => cases h
    | cons r1 t =>
      cases t with
      | cons _ _ => cases h
      | nil =>
        have h' : (if ps.length < LIM then some (Dv.non, ps ++ [_]) else none) = some (v, ps') := h
        split at h'
        · rename_i hl
          cases h'
          refine ⟨rfl, .non, xs ++ [_], ?_, r.append (.cons r1 .nil), .non⟩
          rw [me_app, if_neg h0, hg]
          show (if xs.length < LIM then _ else _) = _
          rw [r.length, if_pos hl]
        · cases h'
  | pop =>
    cases t with
    | cons _ _ => cases h
    | nil =>
      have h' : (match ps[ps.length - 1]? with | some y => some (y, ps.dropLast) | none => none) = some (v, ps') := h
      cases q : ps[ps.length - 1]? with
      | none => rw [q] at h'; cases h'
      | some y =>
        rw [q] at h'
        cases h'
        obtain ⟨d, hd, rd⟩ := r.get q
        refine ⟨rfl, d, xs.dropLast, ?_, r.dropLast, rd⟩
        rw [me_pop, if_neg h0, hg]
        show onV xs[xs.length - 1]? _ = _
        rw [r.length, hd]
        rfl
  | popAt =>
    cases t with
    | nil => cases h
    | cons r1 t =>
      cases t with
      | cons _ _ => cases r1 <;> cases h
      | nil =>
        cases r1 with
        | int i =>
          have h' : (match L2.ixN ps.length i with | some k => (match ps[k]? with | some y => if popOk i then some (y, ps.eraseIdx k) else none | none => none) | none => none) = some (v, ps') := h
          cases q : L2.ixN ps.length i with
          | none => rw [q] at h'; cases h'
          | some k =>
            rw [q] at h'
            have h2 : (match ps[k]? with | some y => if popOk i then some (y, ps.eraseIdx k) else none | none => none) = some (v, ps') := h'
            cases q2 : ps[k]? with
            | none => rw [q2] at h2; cases h2
            | some y =>
              rw [q2] at h2
              have h3 : (if popOk i then some (y, ps.eraseIdx k) else none) = some (v, ps') := h2
              split at h3
              · rename_i hp
                cases h3
                obtain ⟨d, hd, rd⟩ := r.get q2
                refine ⟨rfl, d, xs.eraseIdx k, ?_, r.erase k, rd⟩
                show (if n = 0 then R.bad else (match getL L n with | some xs => (match L2.ixN xs.length i with | some k => (match xs[k]? with | some y => if popOk i then R.ok y (setL L n (xs.eraseIdx k)) else .bad | none => .bad) | none => .bad) | none => .bad)) = _
                rw [if_neg h0, hg]
                show (match L2.ixN xs.length i with | some k => (match xs[k]? with | some y => if popOk i then R.ok y (setL L n (xs.eraseIdx k)) else .bad | none => .bad) | none => .bad) = _
                rw [r.length, q]
                show (match xs[k]? with | some y => if popOk i then R.ok y (setL L n (xs.eraseIdx k)) else .bad | none => .bad) = _
                rw [hd]
                exact if_pos hp
              · cases h3
        | _ => cases h
  | clear =>
    cases t with
    | cons _ _ => cases h
    | nil =>
      cases h
      refine ⟨rfl, .non, [], ?_, .nil, .non⟩
      show (if n = 0 then R.bad else (match getL L n with | some _ => R.ok D.non (setL L n []) | none => .bad)) = _
      rw [if_neg h0, hg]
  | reverse =>
    cases t with
    | cons _ _ => cases h
    | nil =>
      cases h
      refine ⟨rfl, .non, xs.reverse, ?_, r.rev, .non⟩
      rw [me_rev, if_neg h0, hg]
      rfl
  | insert =>
    cases t with
    | nil => cases h
    | cons r1 t =>
      cases t with
      | nil => cases r1 <;> cases h
      | cons r2 t =>
        cases t with
        | cons _ _ => cases r1 <;> cases h
        | nil =>
          cases r1 with
          | int i =>
            have h' : (if 0 ≤ i ∧ i ≤ ps.length ∧ ps.length < LIM then some (Dv.non, ps.take i.toNat ++ _ :: ps.drop i.toNat) else none) = some (v, ps') := h
            split at h'
            · rename_i hl
              cases h'
              refine ⟨rfl, .non, xs.take i.toNat ++ _ :: xs.drop i.toNat, ?_, (r.take _).append (.cons r2 (r.drop _)), .non⟩
              show (if n = 0 then R.bad else (match getL L n with | some xs => if 0 ≤ i ∧ i ≤ xs.length ∧ xs.length < LIM then R.ok D.non (setL L n (xs.take i.toNat ++ _ :: xs.drop i.toNat)) else .bad | none => .bad)) = _
              rw [if_neg h0, hg]
              show (if 0 ≤ i ∧ i ≤ xs.length ∧ xs.length < LIM then _ else _) = _
              rw [r.length, if_pos hl]
            · cases h'
          | _ => cases h
  | _ => cases t <;> cases h
end FP

/-! FP's statements, defs and laws. -/
namespace FP
open PySem MP
/-- what a statement ends with -/
def OpR (b : Nat) (L : Hd) (S : Nat → Prop) (o : O) (p : Op) : Prop := match p with
  | .nx σ => ∃ ρ L' S', o = .nx ρ L' ∧ Step b L S L' S' ∧ Frm b L' S' ρ σ
  | .ct σ => ∃ ρ L' S', o = .ct ρ L' ∧ Step b L S L' S' ∧ Frm b L' S' ρ σ
  | .bk σ => ∃ ρ L' S', o = .bk ρ L' ∧ Step b L S L' S' ∧ Frm b L' S' ρ σ
  | .ex c σ => ∃ ρ L' S', o = .ex c ρ L' ∧ Step b L S L' S' ∧ Frm b L' S' ρ σ
  | .rt v => ∃ d L' S', o = .rt d L' ∧ Step b L S L' S' ∧ RelT L' S' b d v
  | .bad => True
theorem OpR.mono {b : Nat} {L L1 : Hd} {S S1 : Nat → Prop} {o : O} {p : Op} (x : Step b L S L1 S1) (h : OpR b L1 S1 o p) : OpR b L S o p := by
  cases p with
  | bad => trivial
  | rt v =>
    obtain ⟨d, L', S', e, y, r⟩ := h
    exact ⟨d, L', S', e, x.trans y, r⟩
  | _ =>
    obtain ⟨ρ, L', S', e, y, r⟩ := h
    exact ⟨ρ, L', S', e, x.trans y, r⟩
theorem OpR.nx {b : Nat} {L : Hd} {S : Nat → Prop} {ρ : MP.Env} {σ : Ev} (F : Frm b L S ρ σ) : OpR b L S (.nx ρ L) (.nx σ) := ⟨ρ, L, S, rfl, .refl F.bd, F⟩
section
variable {Φ : Str → List D → Hd → R D} {Ψ : Str → List Dv → Rv Dv} (hf : FnR Φ Ψ) {b : Nat} {L : Hd} {S : Nat → Prop} {ρ : MP.Env} {σ : Ev}
include hf
/-- an expression, then on -/
theorem Frm.on (F : Frm b L S ρ σ) (e : Ex) {f : D → Hd → O} {g : Dv → Op} (fl : Dv → Bool) (hfl : ∀ v, inL v = true → fl v = true)
    (h : ∀ d v J S', Step b L S (L ++ J) S' → Frm b (L ++ J) S' ρ (frzIf (fl v) (vars e) σ) → RelT (L ++ J) S' L.length d v → OpR b (L ++ J) S' (f d (L ++ J)) (g v)) : OpR b L S ((evE Φ e ρ L).on ρ f) ((evP Ψ e σ).on σ g) := by
  cases q : evP Ψ e σ with
  | bad => trivial
  | exc c =>
    obtain ⟨J, e1⟩ := F.evX hf e q
    rw [e1]
    exact ⟨ρ, L ++ J, S, rfl, F.stepApp, F.app⟩
  | ok v =>
    obtain ⟨d, J, S', e1, x, F', r⟩ := F.ev hf e q (fl v) (hfl v)
    rw [e1]
    exact .mono x (h d v J S' x F' r)
theorem Frm.own_lt {vs : List Nat} {fl : Bool} (F : Frm b L S ρ σ) : ∀ (j : Nat) (ps : List Dv) (n : Nat), (frzIf fl vs σ)[j]? = some (some (.own ps)) → ρ[j]? = some (some (.ref n)) → n < L.length := fun j ps n h1 h2 => F.lt (frzIf_own h1).1 h2
theorem me_run (F : Frm b L S ρ σ) {m : Me} {j : Nat} {as : Ex} {f : D → Hd → O} {g : Dv → Ev → Op}
    (h : ∀ d v L' S' σ', Step b L S L' S' → Frm b L' S' ρ σ' → Rel L' S' d v → OpR b L' S' (f d L') (g v σ')) : OpR b L S ((evE Φ (.me m (.v j) as) ρ L).on ρ f) (meGo Ψ m j as σ g) := by
  rw [x_me, x_v]
  unfold meGo
  by_cases hrc : recv m (.ref 0) = true
  · rw [if_pos hrc]
    cases q : σ[j]? with
    | none => trivial
    | some o =>
      cases o with
      | none => trivial
      | some w =>
        cases w with
        | own ps0 =>
          obtain ⟨d0, h1, n, ds0, rfl, hbn, hn, hg0, hr0⟩ := F.sl j _ q
          rw [h1]
          have hn0 : n ≠ 0 := by have := F.b1; omega
          show OpR b L S ((if recv m (.ref n) = true then (evE Φ as ρ L).bind fun d L => onTup d fun ds => meop m (.ref n) ds L else R.bad).on ρ f) ((evP Ψ as σ).on σ _)
          have hrc' : recv m (.ref n) = true := by
            rw [← hrc]
            cases m <;> rfl
          rw [if_pos hrc']
          have e2 : ((evE Φ as ρ L).bind fun d L => onTup d fun ds => meop m (.ref n) ds L).on ρ f = (evE Φ as ρ L).on ρ fun d L => (onTup d fun ds => meop m (.ref n) ds L).on ρ f := by
            cases evE Φ as ρ L <;> rfl
          rw [e2]
          refine F.on hf as inL (fun _ h => h) fun d v J S' x F' r => ?_
          cases v with
          | tup qs =>
            cases r with
            | tup t =>
              rename_i es
              show OpR b (L ++ J) S' ((meop m (.ref n) es (L ++ J)).on ρ f) (onOwn (frzIf (inL (.tup qs)) (vars as) σ)[j]? _)
              cases q2 : (frzIf (inL (.tup qs)) (vars as) σ)[j]? with
              | none => trivial
              | some o2 =>
                cases o2 with
                | none => trivial
                | some w2 =>
                  cases w2 with
                  | own ps =>
                    obtain ⟨d1, h2, n1, ds1, hd1, hbn1, hn1, hg1, hr1⟩ := F'.sl j _ q2
                    rw [h1] at h2
                    cases h2
                    cases hd1
                    show OpR b (L ++ J) S' _ (onSome (meP m ps qs) _)
                    cases q3 : meP m ps qs with
                    | none => trivial
                    | some p =>
                      obtain ⟨v1, ps'⟩ := p
                      obtain ⟨_, d2, xs', e3, r3, r4⟩ := meP_ok hn0 hg1 hr1 t q3
                      rw [e3]
                      obtain ⟨x4, F4⟩ := F'.mut q2 h1 r3
                      exact .mono x4 (h d2 v1 _ S' _ (x.trans x4) F4 (x4.rel r4))
                  | _ => trivial
          | _ => trivial
        | _ => trivial
  · rw [if_neg hrc]
    trivial
theorem for_run {s : Nat} {bd : MP.Env → Hd → O} {bd' : Ev → Op} {w : Option Nat} {all : List D}
    (hbd : ∀ L S ρ σ, Frm b L S ρ σ → OpR b L S (bd ρ L) (bd' σ)) :
    ∀ (xs : List D) (ps : List Dv) (L : Hd) (S : Nat → Prop) (ρ : MP.Env) (σ : Ev), Frm b L S ρ σ → Rels L S xs ps → (∀ n, w = some n → S n ∧ getL L n = some all) → OpR b L S (forGo bd s w all xs ρ L) (forP bd' s ps σ)
  | [], _, L, S, ρ, σ, F, t, hw => by
    cases t
    have hs : seen w all L := by
      unfold seen
      cases w with
      | none => trivial
      | some n => exact (hw n rfl).2
    show OpR b L S (open Classical in if seen w all L then .nx ρ L else .bad) (.nx σ)
    rw [if_pos hs]
    exact .nx F
  | x :: xs, _, L, S, ρ, σ, F, .cons (p := p) (ps := ps) r t, hw => by
    have hs : seen w all L := by
      unfold seen
      cases w with
      | none => trivial
      | some n => exact (hw n rfl).2
    show OpR b L S (open Classical in if seen w all L then (bd (ρ.set s (some x)) L).turn fun ρ L => forGo bd s w all xs ρ L else .bad) ((bd' (σ.set s (some p))).turn fun σ => forP bd' s ps σ)
    rw [if_pos hs]
    have h1 := hbd L S _ _ (F.setR (i := s) r)
    have go : ∀ (ρ' : MP.Env) (L' : Hd) (S' : Nat → Prop) (σ' : Ev), Step b L S L' S' → Frm b L' S' ρ' σ' → OpR b L S (forGo bd s w all xs ρ' L') (forP bd' s ps σ') := fun ρ' L' S' σ' x F' =>
      .mono x (for_run hbd xs ps L' S' ρ' σ' F' (x.rels t) fun n hn => ⟨x.up n (hw n hn).1, by
        have := (hw n hn).2
        unfold getL at this ⊢
        rw [x.fro n (hw n hn).1]
        exact this⟩)
    cases q : bd' (σ.set s (some p)) with
    | bad => trivial
    | nx σ' =>
      rw [q] at h1
      obtain ⟨ρ', L', S', e, x, F'⟩ := h1
      rw [e]
      exact go ρ' L' S' σ' x F'
    | ct σ' =>
      rw [q] at h1
      obtain ⟨ρ', L', S', e, x, F'⟩ := h1
      rw [e]
      exact go ρ' L' S' σ' x F'
    | bk σ' =>
      rw [q] at h1
      obtain ⟨ρ', L', S', e, x, F'⟩ := h1
      rw [e]
      exact ⟨ρ', L', S', rfl, x, F'⟩
    | ex c σ' =>
      rw [q] at h1
      obtain ⟨ρ', L', S', e, x, F'⟩ := h1
      rw [e]
      exact ⟨ρ', L', S', rfl, x, F'⟩
    | rt v =>
      rw [q] at h1
      obtain ⟨d, L', S', e, x, r'⟩ := h1
      rw [e]
      exact ⟨d, L', S', rfl, x, r'⟩
theorem for_run2 {i0 j0 : Nat} {bd : MP.Env → Hd → O} {bd' : Ev → Op} {w : Option Nat} {all : List D}
    (hbd : ∀ L S ρ σ, Frm b L S ρ σ → OpR b L S (bd ρ L) (bd' σ)) :
    ∀ (xs : List D) (ps : List Dv) (L : Hd) (S : Nat → Prop) (ρ : MP.Env) (σ : Ev), Frm b L S ρ σ → Rels L S xs ps → (∀ n, w = some n → S n ∧ getL L n = some all) → OpR b L S (forGo2 bd i0 j0 w all xs ρ L) (forP2 bd' i0 j0 ps σ)
  | [], _, L, S, ρ, σ, F, t, hw => by
    cases t
    have hs : seen w all L := by
      unfold seen
      cases w with
      | none => trivial
      | some n => exact (hw n rfl).2
    show OpR b L S (open Classical in if seen w all L then .nx ρ L else .bad) (.nx σ)
    rw [if_pos hs]
    exact .nx F
  | x :: xs, _, L, S, ρ, σ, F, .cons (p := p) (ps := ps) r t, hw => by
    have hs : seen w all L := by
      unfold seen
      cases w with
      | none => trivial
      | some n => exact (hw n rfl).2
    have go : ∀ (ρ' : MP.Env) (L' : Hd) (S' : Nat → Prop) (σ' : Ev), Step b L S L' S' → Frm b L' S' ρ' σ' → OpR b L S (forGo2 bd i0 j0 w all xs ρ' L') (forP2 bd' i0 j0 ps σ') := fun ρ' L' S' σ' x F' =>
      .mono x (for_run2 hbd xs ps L' S' ρ' σ' F' (x.rels t) fun n hn => ⟨x.up n (hw n hn).1, by
        have := (hw n hn).2
        unfold getL at this ⊢
        rw [x.fro n (hw n hn).1]
        exact this⟩)
    cases r with
    | tup rs =>
      cases rs with
      | nil => trivial
      | cons ry rs =>
        cases rs with
        | nil => trivial
        | cons rz rs =>
          cases rs with
          | cons _ _ => trivial
          | nil =>
            rename_i y py z pz
            show OpR b L S (open Classical in if seen w all L then (bd ((ρ.set i0 (some y)).set j0 (some z)) L).turn fun ρ L => forGo2 bd i0 j0 w all xs ρ L else .bad) ((bd' ((σ.set i0 (some py)).set j0 (some pz))).turn fun σ => forP2 bd' i0 j0 ps σ)
            rw [if_pos hs]
            have h1 := hbd L S _ _ ((F.setR (i := i0) ry).setR (i := j0) rz)
            cases q : bd' ((σ.set i0 (some py)).set j0 (some pz)) with
            | bad => trivial
            | nx σ' =>
              rw [q] at h1
              obtain ⟨ρ', L', S', e, x, F'⟩ := h1
              rw [e]
              exact go ρ' L' S' σ' x F'
            | ct σ' =>
              rw [q] at h1
              obtain ⟨ρ', L', S', e, x, F'⟩ := h1
              rw [e]
              exact go ρ' L' S' σ' x F'
            | bk σ' =>
              rw [q] at h1
              obtain ⟨ρ', L', S', e, x, F'⟩ := h1
              rw [e]
              exact ⟨ρ', L', S', rfl, x, F'⟩
            | ex c σ' =>
              rw [q] at h1
              obtain ⟨ρ', L', S', e, x, F'⟩ := h1
              rw [e]
              exact ⟨ρ', L', S', rfl, x, F'⟩
            | rt v =>
              rw [q] at h1
              obtain ⟨d, L', S', e, x, r'⟩ := h1
              rw [e]
              exact ⟨d, L', S', rfl, x, r'⟩
    | _ => trivial
theorem wh_run {c : Ex} {bd : MP.Env → Hd → O} {bd' : Ev → Op}
    (hbd : ∀ L S ρ σ, Frm b L S ρ σ → OpR b L S (bd ρ L) (bd' σ)) :
    ∀ (n : Nat) (L : Hd) (S : Nat → Prop) (ρ : MP.Env) (σ : Ev), Frm b L S ρ σ → OpR b L S (whN (fun ρ L => evE Φ c ρ L) bd n ρ L) (whNP (fun σ => evP Ψ c σ) bd' n σ)
  | 0, L, S, ρ, σ, F => trivial
  | n + 1, L, S, ρ, σ, F => by
    unfold whN whNP
    refine F.on hf c inL (fun _ h => h) fun d v J S' x F' r => ?_
    cases v with
    | bl k =>
      cases r
      have F2 : Frm b (L ++ J) S' ρ σ := F'
      cases k with
      | false => exact .nx F2
      | true =>
        show OpR b (L ++ J) S' ((bd ρ (L ++ J)).turn fun ρ L => whN (fun ρ L => evE Φ c ρ L) bd n ρ L) ((bd' σ).turn fun σ => whNP (fun σ => evP Ψ c σ) bd' n σ)
        have h1 := hbd _ _ _ _ F2
        cases q : bd' σ with
        | bad => trivial
        | nx σ' =>
          rw [q] at h1
          obtain ⟨ρ', L', S2, e, x, F'⟩ := h1
          rw [e]
          exact .mono x (wh_run hbd n _ _ _ _ F')
        | ct σ' =>
          rw [q] at h1
          obtain ⟨ρ', L', S2, e, x, F'⟩ := h1
          rw [e]
          exact .mono x (wh_run hbd n _ _ _ _ F')
        | bk σ' =>
          rw [q] at h1
          obtain ⟨ρ', L', S', e, x, F'⟩ := h1
          rw [e]
          exact ⟨ρ', L', S', rfl, x, F'⟩
        | ex c σ' =>
          rw [q] at h1
          obtain ⟨ρ', L', S', e, x, F'⟩ := h1
          rw [e]
          exact ⟨ρ', L', S', rfl, x, F'⟩
        | rt v =>
          rw [q] at h1
          obtain ⟨d, L', S', e, x, r'⟩ := h1
          rw [e]
          exact ⟨d, L', S', rfl, x, r'⟩
    | _ => trivial
theorem runP_ok : ∀ (s : Sm) {L : Hd} {S : Nat → Prop} {ρ : MP.Env} {σ : Ev}, Frm b L S ρ σ → OpR b L S (run Φ s ρ L) (runP Ψ s σ)
  | .bad, L, S, ρ, σ, F => trivial
  | .pass, L, S, ρ, σ, F => .nx F
  | .brk, L, S, ρ, σ, F => ⟨ρ, L, S, rfl, .refl F.bd, F⟩
  | .cnt, L, S, ρ, σ, F => ⟨ρ, L, S, rfl, .refl F.bd, F⟩
  | .raise c, L, S, ρ, σ, F => ⟨ρ, L, S, rfl, .refl F.bd, F⟩
  | .retn, L, S, ρ, σ, F => ⟨.non, L, S, rfl, .refl F.bd, Rel.non⟩
  | .seq s1 s2, L, S, ρ, σ, F => by
    have h1 := runP_ok s1 F
    show OpR b L S ((run Φ s1 ρ L).then fun ρ L => run Φ s2 ρ L) ((runP Ψ s1 σ).then fun σ => runP Ψ s2 σ)
    cases q : runP Ψ s1 σ with
    | bad => trivial
    | nx σ' =>
      rw [q] at h1
      obtain ⟨ρ', L', S', e, x, F'⟩ := h1
      rw [e]
      exact .mono x (runP_ok s2 F')
    | ct σ' =>
      rw [q] at h1
      obtain ⟨ρ', L', S', e, x, F'⟩ := h1
      rw [e]
      exact ⟨ρ', L', S', rfl, x, F'⟩
    | bk σ' =>
      rw [q] at h1
      obtain ⟨ρ', L', S', e, x, F'⟩ := h1
      rw [e]
      exact ⟨ρ', L', S', rfl, x, F'⟩
    | ex c σ' =>
      rw [q] at h1
      obtain ⟨ρ', L', S', e, x, F'⟩ := h1
      rw [e]
      exact ⟨ρ', L', S', rfl, x, F'⟩
    | rt v =>
      rw [q] at h1
      obtain ⟨d, L', S', e, x, r'⟩ := h1
      rw [e]
      exact ⟨d, L', S', rfl, x, r'⟩
  | .set i e, L, S, ρ, σ, F => by
    rw [s_set]
    show OpR b L S _ (match meX e with | some (m, j, as) => meGo Ψ m j as σ fun d σ => .nx (σ.set i (some d)) | none => (evP Ψ e σ).on σ fun d => .nx ((frzIf (inL d) (vars e) σ).set i (some d)))
    have gen : OpR b L S ((evE Φ e ρ L).on ρ fun d L => .nx (ρ.set i (some d)) L) ((evP Ψ e σ).on σ fun d => .nx ((frzIf (inL d) (vars e) σ).set i (some d))) := by
      refine F.on hf e inL (fun _ h => h) fun d v J S' x F' r => ?_
      exact .nx (F'.set F.bb (F.own_lt hf) r)
    cases q : meX e with
    | none => exact gen
    | some p =>
      obtain ⟨m, j, as⟩ := p
      have he : e = .me m (.v j) as := by
        unfold meX at q
        split at q
        · cases q
          rfl
        · cases q
      subst he
      exact me_run hf F fun d v L' S' σ' x F' r => .nx (F'.setR r)
  | .setix a i e, L, S, ρ, σ, F => by
    rw [s_setix]
    show OpR b L S _ (match varX a with | some j => (evP Ψ e σ).on σ fun y => onOwn (frzIf (inL (frz y)) (varsX e) σ)[j]? fun xs => (evP Ψ i (frzIf (inL (frz y)) (varsX e) σ)).on (frzIf (inL (frz y)) (varsX e) σ) fun k => setixP xs k (frz y) fun xs => .nx ((frzIf (inL (frz y)) (varsX e) σ).set j (some (.own xs))) | none => .bad)
    cases q : varX a with
    | none => trivial
    | some j =>
      have he : a = .v j := by
        unfold varX at q
        split at q
        · cases q
          rfl
        · cases q
      subst he
      have K : ∀ (τ : Ev) (d : D) (v : Dv) (J : Hd) (S1 : Nat → Prop), Step b L S (L ++ J) S1 → Frm b (L ++ J) S1 ρ τ → (∀ (j : Nat) (ps : List Dv) (n : Nat), τ[j]? = some (some (.own ps)) → ρ[j]? = some (some (.ref n)) → n < L.length) → RelT (L ++ J) S1 L.length d v → OpR b (L ++ J) S1 ((evE Φ (.v j) ρ (L ++ J)).on ρ fun x L => (evE Φ i ρ L).on ρ fun k L => setixOp ρ d x k L) (onOwn τ[j]? fun xs => (evP Ψ i τ).on τ fun k => setixP xs k (frz v) fun xs => .nx (τ.set j (some (.own xs)))) := fun τ d v J S1 x1 F1 hlt r1 => by
        obtain ⟨S2, x2, F2, r2⟩ := F1.hand F.bb hlt r1
        refine .mono x2 ?_
        rw [x_v]
        cases q1 : τ[j]? with
        | none => trivial
        | some o =>
          cases o with
          | none => trivial
          | some w =>
            cases w with
            | own ps =>
              obtain ⟨d1, h1, n, ds, rfl, hb, hn, hg, hr⟩ := F2.sl j _ q1
              rw [h1]
              refine F2.on hf i inL (fun _ h => h) fun d3 v3 K S3 x3 F3 r3 => ?_
              show OpR b _ S3 _ (setixP ps v3 (frz v) _)
              cases v3 with
              | int k =>
                cases r3
                have F4 : Frm b (L ++ J ++ K) S3 ρ τ := F3
                have hn0 : n ≠ 0 := by have := F.b1; omega
                have hg' : getL (L ++ J ++ K) n = some ds := getL_app hg
                show OpR b _ S3 (if n = 0 then .bad else (match getL (L ++ J ++ K) n with | some xs => (match L2.ixN xs.length k with | some p => .nx ρ (setL (L ++ J ++ K) n (xs.set p d)) | none => .bad) | none => .bad)) (match L2.ixN ps.length k with | some p => .nx (τ.set j (some (.own (ps.set p (frz v))))) | none => .bad)
                rw [if_neg hn0, hg']
                show OpR b _ S3 (match L2.ixN ds.length k with | some p => .nx ρ (setL (L ++ J ++ K) n (ds.set p d)) | none => .bad) _
                rw [hr.length]
                cases q3 : L2.ixN ps.length k with
                | none => trivial
                | some p =>
                  obtain ⟨x5, F5⟩ := F4.mut q1 h1 (Rels.set p (x3.rels hr) (x3.rel r2))
                  exact ⟨ρ, _, S3, rfl, x5, F5⟩
              | _ => trivial
            | _ => trivial
      have gen : varsX e = vars e ∨ (∀ fl, frzIf fl (varsX e) σ = frzIf fl (vars e) σ) → OpR b L S ((evE Φ e ρ L).on ρ fun y L => (evE Φ (.v j) ρ L).on ρ fun x L => (evE Φ i ρ L).on ρ fun k L => setixOp ρ y x k L) ((evP Ψ e σ).on σ fun y => onOwn (frzIf (inL (frz y)) (varsX e) σ)[j]? fun xs => (evP Ψ i (frzIf (inL (frz y)) (varsX e) σ)).on (frzIf (inL (frz y)) (varsX e) σ) fun k => setixP xs k (frz y) fun xs => .nx ((frzIf (inL (frz y)) (varsX e) σ).set j (some (.own xs)))) := fun hv => by
        have hv : ∀ fl, frzIf fl (varsX e) σ = frzIf fl (vars e) σ := by
          rcases hv with h | h
          · intro fl; rw [h]
          · exact h
        simp only [hv]
        refine F.on hf e (fun v => inL (frz v)) (fun v h => ?_) fun d v J S1 x1 F1 r1 => ?_
        · cases v with
          | own ps => rfl
          | _ => exact h
        exact K _ d v J S1 x1 F1 (F.own_lt hf) r1
      by_cases sp : ∃ j' i', e = .ix (.v j') (.int i')
      · obtain ⟨j', i', rfl⟩ := sp
        have v0 : varsX (.ix (.v j') (.int i')) = [] := rfl
        have z0 : ∀ fl, frzIf fl [] σ = σ := fun fl => by cases fl <;> rfl
        by_cases own : ∃ ps, σ[j']? = some (some (.own ps))
        · obtain ⟨ps, q0⟩ := own
          rw [v0]
          simp only [z0]
          obtain ⟨d0, h0, n, ds, rfl, hb, hn, hg, hr⟩ := F.sl j' _ q0
          have eP : evP Ψ (.ix (.v j') (.int i')) σ = atP (L2.atI ps i') := by
            show (((getP σ[j']?).bind fun d => .ok (frz d)).bind fun x => (Rv.ok (Dv.int i')).bind fun y => ixP (frz x) y) = _
            rw [q0]
            rfl
          rw [eP]
          cases q1 : L2.atI ps i' with
          | none => trivial
          | some v =>
            obtain ⟨d, hd, rd⟩ := hr.atI q1
            have eM : evE Φ (.ix (.v j') (.int i')) ρ L = .ok d (L ++ []) := by
              rw [x_ix, x_v, h0, List.append_nil]
              show (match getL L n with | some xs => (match L2.atI xs i' with | some v => R.ok v L | none => .bad) | none => .bad) = _
              rw [hg]
              show (match L2.atI ds i' with | some v => R.ok v L | none => .bad) = _
              rw [hd]
            rw [eM]
            have e0 : L ++ [] = L := List.append_nil L
            have F' : Frm b (L ++ []) S ρ σ := by rw [e0]; exact F
            have k := K σ d v [] S (by rw [e0]; exact .refl F.bd) F' (fun j ps n h1 h2 => F.lt h1 h2) (by rw [e0]; exact RelT.of rd)
            rw [e0] at k
            rw [e0]
            exact k
        · exact gen (.inr fun fl => by
            rw [v0, z0]
            cases fl with
            | false => rfl
            | true =>
              show σ = frzs [j'] σ
              show σ = frzAt j' σ
              unfold frzAt
              split
              · rename_i w hw
                have e : frz w = w := frz_of (fun ps e => own ⟨ps, by rw [hw, e]⟩)
                rw [e]
                refine List.ext_getElem? fun k => ?_
                rw [List.getElem?_set]
                split
                · rename_i h
                  subst h
                  have hl : j' < σ.length := (List.getElem?_eq_some_iff.mp hw).1
                  rw [if_pos hl, hw]
                · rfl
              · rfl)
      · exact gen (.inl (by
          unfold varsX
          split
          · rename_i j' i'
            exact absurd ⟨j', i', rfl⟩ sp
          · rfl))
  | .aug i o e, L, S, ρ, σ, F => by
    rw [s_aug]
    show OpR b L S _ (onIntP σ[i]? fun x => (evP Ψ e σ).on σ fun y => onSome (augP o x y) fun z => .nx (σ.set i (some (.int z))))
    cases q : σ[i]? with
    | none => trivial
    | some o' =>
      cases o' with
      | none => trivial
      | some w =>
        cases w with
        | int k =>
          obtain ⟨d, h1, r⟩ := F.sl i _ q
          cases r
          rw [h1]
          refine F.on hf e inL (fun _ h => h) fun d v J S' x F' r => ?_
          cases q2 : augP o k v with
          | none => trivial
          | some z =>
            have : augop o k d = some z ∧ inL v = false := by
              cases o <;> cases v <;> first | (cases q2; done) | skip
              all_goals (cases r; exact ⟨q2, rfl⟩)
            rw [this.1]
            rw [this.2] at F'
            exact .nx (F'.setR (.int z))
        | _ => trivial
  | .ex e, L, S, ρ, σ, F => by
    rw [s_ex]
    show OpR b L S _ (match meX e with | some (m, j, as) => meGo Ψ m j as σ fun _ σ => .nx σ | none => (evP Ψ e σ).on σ fun _ => .nx σ)
    cases q : meX e with
    | none =>
      show OpR b L S _ ((evP Ψ e σ).on σ fun _ => .nx σ)
      cases q : evP Ψ e σ with
      | bad => trivial
      | exc c =>
        obtain ⟨J, e1⟩ := F.evX hf e q
        rw [e1]
        exact ⟨ρ, L ++ J, S, rfl, F.stepApp, F.app⟩
      | ok v =>
        obtain ⟨d, J, S', e1, x, F', r⟩ := F.ev hf e q true (fun _ => rfl)
        rw [e1]
        exact ⟨ρ, L ++ J, S, rfl, F.stepApp, F.app⟩
    | some p =>
      obtain ⟨m, j, as⟩ := p
      have he : e = .me m (.v j) as := by
        unfold meX at q
        split at q
        · cases q
          rfl
        · cases q
      subst he
      exact me_run hf F fun d v L' S' σ' x F' r => .nx F'
  | .ite c s1 s2, L, S, ρ, σ, F => by
    rw [s_ite]
    refine F.on hf c inL (fun _ h => h) fun d v J S' x F' r => ?_
    cases v with
    | bl k =>
      cases r
      cases k with
      | true => exact runP_ok s1 F'
      | false => exact runP_ok s2 F'
    | _ => trivial
  | .wh c s, L, S, ρ, σ, F => by
    have all := wh_run hf (c := c) (bd := fun ρ L => run Φ s ρ L) (bd' := fun σ => runP Ψ s σ) (fun L S ρ σ F => runP_ok s F)
    show OpR b L S (whL (fun ρ L => evE Φ c ρ L) (fun ρ L => run Φ s ρ L) ρ L) (whLP (fun σ => evP Ψ c σ) (fun σ => runP Ψ s σ) σ)
    unfold whLP
    split
    · rename_i h
      have h1 := all (Classical.choose h) L S ρ σ F
      have h2 := Classical.choose_spec h
      have h3 : whN (fun ρ L => evE Φ c ρ L) (fun ρ L => run Φ s ρ L) (Classical.choose h) ρ L ≠ .bad := by
        intro z
        rw [z] at h1
        cases q : whNP (fun σ => evP Ψ c σ) (fun σ => runP Ψ s σ) (Classical.choose h) σ with
        | bad => exact h2 q
        | rt v =>
          rw [q] at h1
          obtain ⟨_, _, _, e, _⟩ := h1
          cases e
        | _ =>
          rw [q] at h1
          obtain ⟨_, _, _, e, _⟩ := h1
          cases e
      rw [whL_of h3]
      exact h1
    · trivial
  | .for_ s it bd, L, S, ρ, σ, F => by
    rw [s_for]
    refine F.on hf it (fun d => isL d || inL d) (fun v h => by simp [h]) fun d v J S1 x1 F1 r1 => ?_
    obtain ⟨S2, x2, F2, r2⟩ := F1.hand F.bb (F.own_lt hf) r1
    refine .mono x2 ?_
    show OpR b (L ++ J) S2 (forOn (items d (L ++ J)) _) (onItemsP (itemsP (frz v)) .bad _)
    cases q : itemsP (frz v) with
    | none => trivial
    | some ps =>
      obtain ⟨w, ds, e0, t, hw⟩ := items_ok r2 q
      rw [e0]
      exact for_run hf (fun L S ρ σ F => runP_ok bd F) ds ps _ _ _ _ F2 t hw
  | .for2 i0 j0 it bd, L, S, ρ, σ, F => by
    rw [s_for2]
    refine F.on hf it (fun d => isL d || inL d) (fun v h => by simp [h]) fun d v J S1 x1 F1 r1 => ?_
    obtain ⟨S2, x2, F2, r2⟩ := F1.hand F.bb (F.own_lt hf) r1
    refine .mono x2 ?_
    show OpR b (L ++ J) S2 (forOn (items d (L ++ J)) _) (onItemsP (itemsP (frz v)) .bad _)
    cases q : itemsP (frz v) with
    | none => trivial
    | some ps =>
      obtain ⟨w, ds, e0, t, hw⟩ := items_ok r2 q
      rw [e0]
      exact for_run2 hf (fun L S ρ σ F => runP_ok bd F) ds ps _ _ _ _ F2 t hw
  | .ret e, L, S, ρ, σ, F => by
    rw [s_ret]
    show OpR b L S _ (match varX e with | some j => rawP σ[j]? | none => (evP Ψ e σ).on σ fun d => .rt d)
    cases q : varX e with
    | none =>
      refine F.on hf e (fun _ => true) (fun _ _ => rfl) fun d v J S' x F' r => ?_
      refine ⟨d, L ++ J, S', rfl, .refl F'.bd, ?_⟩
      cases v with
      | own ps =>
        obtain ⟨n, ds, a, b, c⟩ := r
        exact ⟨n, ds, a, by have := F.bb; omega, c⟩
      | _ => exact r
    | some j =>
      have he : e = .v j := by
        unfold varX at q
        split at q
        · cases q
          rfl
        · cases q
      subst he
      rw [x_v]
      show OpR b L S _ (rawP σ[j]?)
      cases q1 : σ[j]? with
      | none => trivial
      | some o =>
        cases o with
        | none => trivial
        | some v =>
          obtain ⟨d, h1, r⟩ := F.sl j v q1
          rw [h1]
          have fin : (getV (some (some d)) L).on ρ (fun d L => O.rt d L) = .rt d L → OpR b L S ((getV (some (some d)) L).on ρ fun d L => O.rt d L) (.rt v) := fun h => ⟨d, L, S, h, .refl F.bd, r⟩
          cases v with
          | exc c => trivial
          | own ps =>
            obtain ⟨n, ds, rfl, _⟩ := r
            exact fin rfl
          | non => cases r; exact fin rfl
          | bl k => cases r; exact fin rfl
          | int k => cases r; exact fin rfl
          | str k => cases r; exact fin rfl
          | fn k => cases r; exact fin rfl
          | tup k => cases r; exact fin rfl
          | lst k => cases r; exact fin rfl
          | scr k => cases r; exact fin rfl
  | .setlc i s it c e, L, S, ρ, σ, F => by
    show OpR b L S ((evE Φ it ρ L).on ρ fun d L => (match items d L with
      | some (w, xs) => if xs.length ≤ LIM then ((lcGoX (fun x L => evE Φ c (ρ.set s (some x)) L) (fun x L => evE Φ e (ρ.set s (some x)) L) w xs xs L).bind fun ys L => alloc ys L).on ρ fun d L => .nx (ρ.set i (some d)) L else .bad
      | none => .bad)) ((evP Ψ it σ).on σ fun d => onItemsP (itemsP (frz d)) .bad fun xs => if xs.length ≤ LIM then (match lcPX (fun x => evP Ψ c (σ.set s (some x))) (fun x => evP Ψ e (σ.set s (some x))) xs with
        | .ok qs => (allocP qs).on σ fun d => .nx ((frzIf (inL d) (vars (.lc s it c e)) σ).set i (some d))
        | .exc k => .ex k σ
        | .bad => .bad) else .bad)
    cases qi : evP Ψ it σ with
    | bad => trivial
    | exc k =>
      obtain ⟨J, e1⟩ := F.evX hf it qi
      rw [e1]
      exact ⟨ρ, L ++ J, S, rfl, F.stepApp, F.app⟩
    | ok v =>
      show OpR b L S _ (onItemsP (itemsP (frz v)) .bad _)
      cases qp : itemsP (frz v) with
      | none => trivial
      | some ps =>
        show OpR b L S _ (if ps.length ≤ LIM then _ else _)
        split
        · rename_i hlim
          have bS1 : Bd L fun n => S n ∨ ∃ j ∈ vars (.lc s it c e), ∃ ps, σ[j]? = some (some (.own ps)) ∧ ρ[j]? = some (some (.ref n)) := fun n h => by
            rcases h with h | ⟨j, _, ps, h1, h2⟩
            · exact F.bd n h
            · exact F.lt h1 h2
          have E1 : EnvR L (fun n => S n ∨ ∃ j ∈ vars (.lc s it c e), ∃ ps, σ[j]? = some (some (.own ps)) ∧ ρ[j]? = some (some (.ref n))) (vars (.lc s it c e)) ρ σ := fun i hi => by
            split
            · rename_i v hv
              obtain ⟨d, h1, r⟩ := F.sl i v hv
              refine ⟨d, h1, ?_⟩
              cases v with
              | own ps =>
                obtain ⟨n, ds, rfl, hb, hn, hg, hr⟩ := r
                exact .lst (by have := F.b1; omega) (.inr ⟨i, hi, ps, hv, h1⟩) hg (hr.mono (fun _ h => .inl h) fun _ _ => rfl)
              | _ => exact Rel.mono (fun _ h => .inl h) (fun _ _ => rfl) r
            · trivial
          obtain ⟨d, J, w, ds, e1, e0, hlen, hx⟩ := lcx_run hf bS1 (by have := F.b1; have := F.bb; omega) F.len E1 qi qp
          rw [e1]
          show OpR b L S (match items d (L ++ J) with
            | some (w, xs) => if xs.length ≤ LIM then ((lcGoX (fun x L => evE Φ c (ρ.set s (some x)) L) (fun x L => evE Φ e (ρ.set s (some x)) L) w xs xs (L ++ J)).bind fun ys L => alloc ys L).on ρ fun d L => .nx (ρ.set i (some d)) L else .bad
            | none => .bad) _
          rw [e0]
          show OpR b L S (if ds.length ≤ LIM then _ else _) _
          rw [if_pos (by rw [hlen]; exact hlim)]
          cases ql : lcPX (fun x => evP Ψ c (σ.set s (some x))) (fun x => evP Ψ e (σ.set s (some x))) ps with
          | bad => trivial
          | exc k =>
            obtain ⟨K, e2⟩ := hx k ql
            rw [e2]
            exact ⟨ρ, L ++ K, S, rfl, F.stepApp, F.app⟩
          | ok qs =>
            have qa : evP Ψ (.lc s it c e) σ = allocP qs := by
              show (evP Ψ it σ).bind (fun d => onItemsP (itemsP (frz d)) .bad fun xs => (lcP (fun x => evP Ψ c (σ.set s (some x))) (fun x => evP Ψ e (σ.set s (some x))) xs).bind allocP) = _
              rw [qi]
              show onItemsP (itemsP (frz v)) Rv.bad _ = _
              rw [qp]
              show (lcP (fun x => evP Ψ c (σ.set s (some x))) (fun x => evP Ψ e (σ.set s (some x))) ps).bind allocP = _
              rw [lcPX_ok ql]
              rfl
            show OpR b L S _ ((allocP qs).on σ _)
            cases z : allocP qs with
            | bad => trivial
            | exc k =>
              unfold allocP at z
              split at z <;> cases z
            | ok u =>
              rw [z] at qa
              obtain ⟨d', M, S', e3, x, F', r⟩ := F.ev hf _ qa (inL u) (fun h => h)
              have e4 : (evE Φ (.lc s it c e) ρ L) = ((lcGo (fun x L => evE Φ c (ρ.set s (some x)) L) (fun x L => evE Φ e (ρ.set s (some x)) L) w ds ds (L ++ J)).bind fun ys L => alloc ys L) := by
                show (evE Φ it ρ L).bind (fun d L => match items d L with
                  | some (w, xs) => (lcGo (fun x L => evE Φ c (ρ.set s (some x)) L) (fun x L => evE Φ e (ρ.set s (some x)) L) w xs xs L).bind fun ys L => alloc ys L
                  | none => .bad) = _
                rw [e1]
                show (match items d (L ++ J) with
                  | some (w, xs) => (lcGo (fun x L => evE Φ c (ρ.set s (some x)) L) (fun x L => evE Φ e (ρ.set s (some x)) L) w xs xs (L ++ J)).bind fun ys L => alloc ys L
                  | none => .bad) = _
                rw [e0]
              have e5 : ((lcGoX (fun x L => evE Φ c (ρ.set s (some x)) L) (fun x L => evE Φ e (ρ.set s (some x)) L) w ds ds (L ++ J)).bind fun ys L => alloc ys L) = .ok d' (L ++ M) := by
                rw [e4] at e3
                cases g : lcGo (fun x L => evE Φ c (ρ.set s (some x)) L) (fun x L => evE Φ e (ρ.set s (some x)) L) w ds ds (L ++ J) with
                | bad => rw [g] at e3; cases e3
                | exc k L2 => rw [g] at e3; cases e3
                | ok ys L2 =>
                  rw [g] at e3
                  rw [lcGoX_ok g]
                  exact e3
              rw [e5]
              exact .mono x (.nx (F'.set F.bb (F.own_lt hf) r))
        · trivial
  | .tryR s1 c d, L, S, ρ, σ, F => by
    have h1 := runP_ok s1 F
    rw [s_tryR]
    show OpR b L S _ (tryRP (runP Ψ s1 σ) c d)
    cases q : runP Ψ s1 σ with
    | bad => trivial
    | nx σ' =>
      rw [q] at h1
      obtain ⟨ρ', L', S', e, x, F'⟩ := h1
      rw [e]
      exact ⟨ρ', L', S', rfl, x, F'⟩
    | ct σ' =>
      rw [q] at h1
      obtain ⟨ρ', L', S', e, x, F'⟩ := h1
      rw [e]
      exact ⟨ρ', L', S', rfl, x, F'⟩
    | bk σ' =>
      rw [q] at h1
      obtain ⟨ρ', L', S', e, x, F'⟩ := h1
      rw [e]
      exact ⟨ρ', L', S', rfl, x, F'⟩
    | rt v =>
      rw [q] at h1
      obtain ⟨d, L', S', e, x, r'⟩ := h1
      rw [e]
      exact ⟨d, L', S', rfl, x, r'⟩
    | ex c' σ' =>
      rw [q] at h1
      obtain ⟨ρ', L', S', e, x, F'⟩ := h1
      rw [e]
      show OpR b L S (if isSub c' c = true then .ex d ρ' L' else .ex c' ρ' L') (if isSub c' c = true then .ex d σ' else .ex c' σ')
      split
      · exact ⟨ρ', L', S', rfl, x, F'⟩
      · exact ⟨ρ', L', S', rfl, x, F'⟩
  | .try2 s1 c1 s2 c2 s3, L, S, ρ, σ, F => by
    have h1 := runP_ok s1 F
    rw [s_try2]
    show OpR b L S _ (try2P (runP Ψ s1 σ) c1 (fun σ => runP Ψ s2 σ) c2 fun σ => runP Ψ s3 σ)
    cases q : runP Ψ s1 σ with
    | bad => trivial
    | nx σ' =>
      rw [q] at h1
      obtain ⟨ρ', L', S', e, x, F'⟩ := h1
      rw [e]
      exact ⟨ρ', L', S', rfl, x, F'⟩
    | ct σ' =>
      rw [q] at h1
      obtain ⟨ρ', L', S', e, x, F'⟩ := h1
      rw [e]
      exact ⟨ρ', L', S', rfl, x, F'⟩
    | bk σ' =>
      rw [q] at h1
      obtain ⟨ρ', L', S', e, x, F'⟩ := h1
      rw [e]
      exact ⟨ρ', L', S', rfl, x, F'⟩
    | rt v =>
      rw [q] at h1
      obtain ⟨d, L', S', e, x, r'⟩ := h1
      rw [e]
      exact ⟨d, L', S', rfl, x, r'⟩
    | ex c' σ' =>
      rw [q] at h1
      obtain ⟨ρ', L', S', e, x, F'⟩ := h1
      rw [e]
      show OpR b L S (if isSub c' c1 = true then (match run Φ s2 ρ' L' with | .ex _ _ _ => .bad | o => o) else if isSub c' c2 = true then (match run Φ s3 ρ' L' with | .ex _ _ _ => .bad | o => o) else .ex c' ρ' L')
        (if isSub c' c1 = true then noExP (runP Ψ s2 σ') else if isSub c' c2 = true then noExP (runP Ψ s3 σ') else .ex c' σ')
      split
      · have h2 := runP_ok s2 F'
        refine .mono x ?_
        cases q2 : runP Ψ s2 σ' with
        | bad => trivial
        | ex _ _ => trivial
        | nx σ' =>
          rw [q2] at h2
          obtain ⟨ρ', L', S', e, x, F'⟩ := h2
          rw [e]
          exact ⟨ρ', L', S', rfl, x, F'⟩
        | ct σ' =>
          rw [q2] at h2
          obtain ⟨ρ', L', S', e, x, F'⟩ := h2
          rw [e]
          exact ⟨ρ', L', S', rfl, x, F'⟩
        | bk σ' =>
          rw [q2] at h2
          obtain ⟨ρ', L', S', e, x, F'⟩ := h2
          rw [e]
          exact ⟨ρ', L', S', rfl, x, F'⟩
        | rt v =>
          rw [q2] at h2
          obtain ⟨d, L', S', e, x, r'⟩ := h2
          rw [e]
          exact ⟨d, L', S', rfl, x, r'⟩
      · split
        · have h2 := runP_ok s3 F'
          refine .mono x ?_
          cases q2 : runP Ψ s3 σ' with
          | bad => trivial
          | ex _ _ => trivial
          | nx σ' =>
            rw [q2] at h2
            obtain ⟨ρ', L', S', e, x, F'⟩ := h2
            rw [e]
            exact ⟨ρ', L', S', rfl, x, F'⟩
          | ct σ' =>
            rw [q2] at h2
            obtain ⟨ρ', L', S', e, x, F'⟩ := h2
            rw [e]
            exact ⟨ρ', L', S', rfl, x, F'⟩
          | bk σ' =>
            rw [q2] at h2
            obtain ⟨ρ', L', S', e, x, F'⟩ := h2
            rw [e]
            exact ⟨ρ', L', S', rfl, x, F'⟩
          | rt v =>
            rw [q2] at h2
            obtain ⟨d, L', S', e, x, r'⟩ := h2
            rw [e]
            exact ⟨d, L', S', rfl, x, r'⟩
        · exact ⟨ρ', L', S', rfl, x, F'⟩
  | .try_ s1 c s s2, L, S, ρ, σ, F => by
    have h1 := runP_ok s1 F
    cases s with
    | none =>
      rw [s_tryN]
      show OpR b L S _ (tryNP (runP Ψ s1 σ) c fun σ => runP Ψ s2 σ)
      cases q : runP Ψ s1 σ with
      | bad => trivial
      | nx σ' =>
        rw [q] at h1
        obtain ⟨ρ', L', S', e, x, F'⟩ := h1
        rw [e]
        exact ⟨ρ', L', S', rfl, x, F'⟩
      | ct σ' =>
        rw [q] at h1
        obtain ⟨ρ', L', S', e, x, F'⟩ := h1
        rw [e]
        exact ⟨ρ', L', S', rfl, x, F'⟩
      | bk σ' =>
        rw [q] at h1
        obtain ⟨ρ', L', S', e, x, F'⟩ := h1
        rw [e]
        exact ⟨ρ', L', S', rfl, x, F'⟩
      | rt v =>
        rw [q] at h1
        obtain ⟨d, L', S', e, x, r'⟩ := h1
        rw [e]
        exact ⟨d, L', S', rfl, x, r'⟩
      | ex c' σ' =>
        rw [q] at h1
        obtain ⟨ρ', L', S', e, x, F'⟩ := h1
        rw [e]
        have h2 := runP_ok s2 F'
        show OpR b L S (if isSub c' c = true then (match run Φ s2 ρ' L' with | .ex _ _ _ => .bad | o => o) else .ex c' ρ' L') (if isSub c' c = true then (match runP Ψ s2 σ' with | .ex _ _ => .bad | o => o) else .ex c' σ')
        split
        · refine .mono x ?_
          cases q2 : runP Ψ s2 σ' with
          | bad => trivial
          | ex _ _ => trivial
          | nx σ' =>
            rw [q2] at h2
            obtain ⟨ρ', L', S', e, x, F'⟩ := h2
            rw [e]
            exact ⟨ρ', L', S', rfl, x, F'⟩
          | ct σ' =>
            rw [q2] at h2
            obtain ⟨ρ', L', S', e, x, F'⟩ := h2
            rw [e]
            exact ⟨ρ', L', S', rfl, x, F'⟩
          | bk σ' =>
            rw [q2] at h2
            obtain ⟨ρ', L', S', e, x, F'⟩ := h2
            rw [e]
            exact ⟨ρ', L', S', rfl, x, F'⟩
          | rt v =>
            rw [q2] at h2
            obtain ⟨d, L', S', e, x, r'⟩ := h2
            rw [e]
            exact ⟨d, L', S', rfl, x, r'⟩
        · exact ⟨ρ', L', S', rfl, x, F'⟩
    | some i =>
      rw [s_tryA]
      show OpR b L S _ (tryAP (runP Ψ s1 σ) c i fun σ => runP Ψ s2 σ)
      cases q : runP Ψ s1 σ with
      | bad => trivial
      | nx σ' =>
        rw [q] at h1
        obtain ⟨ρ', L', S', e, x, F'⟩ := h1
        rw [e]
        exact ⟨ρ', L', S', rfl, x, F'⟩
      | ct σ' =>
        rw [q] at h1
        obtain ⟨ρ', L', S', e, x, F'⟩ := h1
        rw [e]
        exact ⟨ρ', L', S', rfl, x, F'⟩
      | bk σ' =>
        rw [q] at h1
        obtain ⟨ρ', L', S', e, x, F'⟩ := h1
        rw [e]
        exact ⟨ρ', L', S', rfl, x, F'⟩
      | rt v =>
        rw [q] at h1
        obtain ⟨d, L', S', e, x, r'⟩ := h1
        rw [e]
        exact ⟨d, L', S', rfl, x, r'⟩
      | ex c' σ' =>
        rw [q] at h1
        obtain ⟨ρ', L', S', e, x, F'⟩ := h1
        rw [e]
        have h2 := runP_ok s2 (F'.setR (i := i) (.exc c'))
        show OpR b L S (if isSub c' c = true then (match run Φ s2 (ρ'.set i (some (.exc c'))) L' with | .rt d L2 => .rt d L2 | _ => .bad) else .ex c' ρ' L') (if isSub c' c = true then (match runP Ψ s2 (σ'.set i (some (.exc c'))) with | .rt d => .rt d | _ => .bad) else .ex c' σ')
        split
        · refine .mono x ?_
          cases q2 : runP Ψ s2 (σ'.set i (some (.exc c'))) with
          | rt v =>
            rw [q2] at h2
            obtain ⟨d, L', S', e, x, r'⟩ := h2
            rw [e]
            exact ⟨d, L', S', rfl, x, r'⟩
          | _ => trivial
        · exact ⟨ρ', L', S', rfl, x, F'⟩
end
theorem RvR_of_OpR {b : Nat} {L : Hd} {S : Nat → Prop} {o : O} {p : Op} (hb : b = L.length) (h : OpR b L S o p) : RvR L S (ofO o) (ofP p) := by
  have app : ∀ {L' : Hd} {S' : Nat → Prop}, Step b L S L' S' → ∃ J, L' = L ++ J ∧ Ext L S J S' := fun {L' S'} x => by
    refine ⟨L'.drop L.length, ?_, ?_⟩
    · apply List.ext_getElem?
      intro n
      by_cases hn : n < L.length
      · rw [List.getElem?_append_left hn]
        exact x.old n (by omega)
      · rw [List.getElem?_append_right (by omega), List.getElem?_drop]
        congr 1
        omega
    · refine ⟨x.up, fun n h => ?_⟩
      rcases x.nw n h with a | a
      · exact .inl a
      · refine .inr ⟨by omega, ?_⟩
        have := x.bd n h
        have := x.len
        rw [List.length_append, List.length_drop]
        omega
  cases p with
  | nx σ =>
    obtain ⟨ρ, L', S', e, x, F⟩ := h
    obtain ⟨J, rfl, y⟩ := app x
    rw [e]
    exact ⟨.non, J, S', rfl, y, Rel.non⟩
  | rt v =>
    obtain ⟨d, L', S', e, x, r⟩ := h
    obtain ⟨J, rfl, y⟩ := app x
    rw [e]
    exact ⟨d, J, S', rfl, y, hb ▸ r⟩
  | ex c σ =>
    obtain ⟨ρ, L', S', e, x, F⟩ := h
    obtain ⟨J, rfl, y⟩ := app x
    rw [e]
    exact ⟨J, rfl⟩
  | _ => trivial
theorem rels_get {L : Hd} {S : Nat → Prop} {ds : List D} {ps : List Dv} (t : Rels L S ds ps) (n : Nat) (i : Nat) (v : Dv) (h : (ps.map some ++ List.replicate n none)[i]? = some (some v)) : ∃ d, (ds.map some ++ List.replicate n none)[i]? = some (some d) ∧ Rel L S d v := by
  by_cases hi : i < ps.length
  · rw [List.getElem?_append_left (by rw [List.length_map]; exact hi), List.getElem?_map] at h
    cases q : ps[i]? with
    | none => rw [q] at h; cases h
    | some w =>
      rw [q] at h
      cases h
      obtain ⟨d, h1, r⟩ := t.get q
      refine ⟨d, ?_, r⟩
      rw [List.getElem?_append_left (by rw [List.length_map, t.length]; exact hi), List.getElem?_map, h1]
      rfl
  · rw [List.getElem?_append_right (by rw [List.length_map]; omega), List.getElem?_replicate] at h
    split at h <;> cases h
theorem runFP_ok {Φ : Str → List D → Hd → R D} {Ψ : Str → List Dv → Rv Dv} (hf : FnR Φ Ψ) (fd : Fd) {L : Hd} {S : Nat → Prop} {ds : List D} {ps : List Dv} (hb : Bd L S) (h1 : 1 ≤ L.length) (t : Rels L S ds ps) : RvR L S (runF Φ fd ds L) (runFP Ψ fd ps) := by
  unfold runFP
  by_cases hl : ps.length = fd.np
  · rw [if_pos hl]
    have e : runF Φ fd ds L = ofO (run Φ fd.body (ds.map some ++ List.replicate (fd.n - ds.length) none) L) := if_pos (by rw [t.length]; exact hl)
    rw [e, t.length]
    refine RvR_of_OpR rfl (runP_ok (b := L.length) hf fd.body ⟨?_, hb, Nat.le_refl _, h1, fun i v h => ?_, fun i j ps' qs n hij h1 h2 => ?_⟩)
    · simp only [List.length_append, List.length_map, t.length, List.length_replicate]
    · obtain ⟨d, h2, r⟩ := rels_get t _ i v h
      exact ⟨d, h2, .of r⟩
    · obtain ⟨d, h3, r⟩ := rels_get t _ i _ h1
      cases r
  · rw [if_neg hl]
    trivial
theorem runTP_ok (T : Str → Option Fd) : ∀ n, FnR (runT T n) (runTP T n)
  | 0 => fun f L S ds ps hb h1 t => trivial
  | n + 1 => fun f L S ds ps hb h1 t => by
    show RvR L S (match T f with | some fd => runF (runT T n) fd ds L | none => R.bad) (match T f with | some fd => runFP (runTP T n) fd ps | none => Rv.bad)
    cases T f with
    | none => trivial
    | some fd => exact runFP_ok (runTP_ok T n) fd hb h1 t
/-- a law, without a heap -/
theorem law_of {T : Str → Option Fd} {n : Nat} {ns : List Int} (h : runTP T n "law" [.scr (ns.map Dv.int)] = .ok (.bl true)) : ∃ L', runT T n "law" [.ref 0] [.lst (ns.map D.int)] = .ok (.bl true) L' := by
  have := runTP_ok T n "law" [.lst (ns.map D.int)] (fun n => n = 0) [.ref 0] [.scr (ns.map Dv.int)] (fun n h => by subst h; simp) (by simp) (.cons (.scr rfl rfl (Rels.ofInts ns)) .nil)
  rw [h] at this
  obtain ⟨d, J, S', e, x, r⟩ := this
  cases r
  exact ⟨_, e⟩
end FP

/-! How FP's runs are reckoned. -/
namespace FP
open PySem MP
theorem runTP_succ {T : Str → Option Fd} {k : Nat} {f : Str} {fd : Fd} {ds : List Dv} (h : T f = some fd) : runTP T (k + 1) f ds = runFP (runTP T k) fd ds := by
  show (match T f with | some fd => runFP (runTP T k) fd ds | none => Rv.bad) = _
  rw [h]
theorem runFP_mk {Φ : Str → List Dv → Rv Dv} {np n : Nat} {b : Sm} {ds : List Dv} : runFP Φ ⟨np, n, b⟩ ds = if ds.length = np then ofP (runP Φ b (ds.map some ++ List.replicate (n - ds.length) none)) else .bad := rfl
/-! the turns of FP -/
noncomputable def whP (Φ : Str → List Dv → Rv Dv) (c : Ex) (b : Sm) (σ : Ev) : Op := whLP (fun σ => evP Φ c σ) (fun σ => runP Φ b σ) σ
noncomputable def foP2 (Φ : Str → List Dv → Rv Dv) (i j : Nat) (b : Sm) (xs : List Dv) (σ : Ev) : Op := forP2 (fun σ => runP Φ b σ) i j xs σ
noncomputable def foP (Φ : Str → List Dv → Rv Dv) (s : Nat) (b : Sm) (xs : List Dv) (σ : Ev) : Op := forP (fun σ => runP Φ b σ) s xs σ
noncomputable def lcQ (Φ : Str → List Dv → Rv Dv) (s : Nat) (c e : Ex) (σ : Ev) (xs : List Dv) : Rv (List Dv) := lcP (fun x => evP Φ c (σ.set s (some x))) (fun x => evP Φ e (σ.set s (some x))) xs
section
variable {Φ : Str → List Dv → Rv Dv} {σ : Ev}
theorem e_non : evP Φ .non σ = .ok .non := rfl
theorem e_bl {b : Bool} : evP Φ (.bl b) σ = .ok (.bl b) := rfl
theorem e_int {i : Int} : evP Φ (.int i) σ = .ok (.int i) := rfl
theorem e_str {x : Str} : evP Φ (.str x) σ = .ok (.str x) := rfl
theorem e_v {i : Nat} : evP Φ (.v i) σ = (getP σ[i]?).bind fun d => .ok (frz d) := rfl
theorem e_k {x : Str} {e : Ex} : evP Φ (.k x e) σ = evP Φ e [] := rfl
theorem e_f {x : Str} : evP Φ (.f x) σ = .ok (.fn x) := rfl
theorem e_nil : evP Φ .nil σ = .ok (.tup []) := rfl
theorem e_absent : evP Φ .absent σ = .ok (.exc ⟨#[]⟩) := rfl
theorem e_cons {a b : Ex} : evP Φ (.cons a b) σ = (evP Φ a σ).bind fun x => (evP Φ b σ).bind fun y => consP x y := rfl
theorem e_tup {a : Ex} : evP Φ (.tup a) σ = (evP Φ a σ).bind tupP := rfl
theorem e_lst {a : Ex} : evP Φ (.lst a) σ = (evP Φ a σ).bind lstP := rfl
theorem e_bin {o : Bop} {a b : Ex} : evP Φ (.bin o a b) σ = (evP Φ a σ).bind fun x => (evP Φ b σ).bind fun y => binP o (frz x) (frz y) := rfl
theorem e_neg {a : Ex} : evP Φ (.neg a) σ = (evP Φ a σ).bind negP := rfl
theorem e_not {a : Ex} : evP Φ (.not a) σ = (evP Φ a σ).bind fun x => onBlP x (.ok (.bl false)) (.ok (.bl true)) := rfl
theorem e_and {a b : Ex} : evP Φ (.and a b) σ = (evP Φ a σ).bind fun x => onBlP x (evP Φ b σ) (.ok (.bl false)) := rfl
theorem e_or {a b : Ex} : evP Φ (.or a b) σ = (evP Φ a σ).bind fun x => onBlP x (.ok (.bl true)) (evP Φ b σ) := rfl
theorem e_cmp {o : Cop} {a b : Ex} : evP Φ (.cmp o a b) σ = (evP Φ a σ).bind fun x => (evP Φ b σ).bind fun y => cmpP o (frz x) (frz y) := rfl
theorem e_isn {a : Ex} : evP Φ (.isn a) σ = (evP Φ a σ).bind fun x => .ok (.bl (isNonP x)) := rfl
theorem e_notn {a : Ex} : evP Φ (.notn a) σ = (evP Φ a σ).bind fun x => .ok (.bl (!isNonP x)) := rfl
theorem e_ix {a i : Ex} : evP Φ (.ix a i) σ = (evP Φ a σ).bind fun x => (evP Φ i σ).bind fun y => ixP (frz x) y := rfl
theorem e_sl {a lo hi : Ex} : evP Φ (.sl a lo hi) σ = (evP Φ a σ).bind fun x => (evP Φ lo σ).bind fun l => onPartP l fun l => (evP Φ hi σ).bind fun u => onPartP u fun u => slP (frz x) l u := rfl
theorem e_call {f : Str} {as : Ex} : evP Φ (.call f as) σ = (evP Φ as σ).bind fun d => callP Φ f d := rfl
theorem e_callv {i : Nat} {as : Ex} : evP Φ (.callv i as) σ = onFnP σ[i]? fun f => (evP Φ as σ).bind fun d => okOnlyP (callP Φ f d) := rfl
theorem e_bi {b : Bi} {as : Ex} : evP Φ (.bi b as) σ = (evP Φ as σ).bind fun d => onTupP d fun ds => biP b ds := rfl
theorem e_tm {m : Tm} {o as : Ex} : evP Φ (.tm m o as) σ = (evP Φ o σ).bind fun x => if isStrP (frz x) = true then (evP Φ as σ).bind fun d => onTupP d fun ds => tmP m (frz x) ds else .bad := rfl
theorem e_isi {a : Ex} {t : Ty} : evP Φ (.isi a t) σ = (evP Φ a σ).bind fun x => tyP (frz x) t := rfl
theorem e_ise {i : Nat} {c : Str} : evP Φ (.ise i c) σ = onExcP σ[i]? fun a => .ok (.bl (isSub a c)) := rfl
theorem e_lc {s : Nat} {it c e : Ex} : evP Φ (.lc s it c e) σ = (evP Φ it σ).bind fun d => onItemsP (itemsP (frz d)) .bad fun xs => (lcQ Φ s c e σ xs).bind allocP := rfl
theorem e_rng {as : Ex} : evP Φ (.rng as) σ = (evP Φ as σ).bind fun d => onTupP d rngP := rfl
theorem e_rev {a : Ex} : evP Φ (.rev a) σ = (evP Φ a σ).bind revP := rfl
def setN (i : Nat) (d : Dv) (σ : Ev) : Op := .nx (σ.set i (some d))
theorem q_pass : runP Φ .pass σ = .nx σ := rfl
theorem q_seq {a b : Sm} : runP Φ (.seq a b) σ = (runP Φ a σ).then fun σ => runP Φ b σ := rfl
theorem qs_non {i : Nat}  : runP Φ (.set i .non) σ = (evP Φ .non σ).on σ fun d => .nx ((frzIf (inL d) (vars .non) σ).set i (some d)) := rfl
theorem qr_non  : runP Φ (.ret .non) σ = (evP Φ .non σ).on σ fun d => .rt d := rfl
theorem qs_bl {i : Nat} {b : Bool} : runP Φ (.set i (.bl b)) σ = (evP Φ (.bl b) σ).on σ fun d => .nx ((frzIf (inL d) (vars (.bl b)) σ).set i (some d)) := rfl
theorem qr_bl {b : Bool} : runP Φ (.ret (.bl b)) σ = (evP Φ (.bl b) σ).on σ fun d => .rt d := rfl
theorem qs_int {i : Nat} {k : Int} : runP Φ (.set i (.int k)) σ = (evP Φ (.int k) σ).on σ fun d => .nx ((frzIf (inL d) (vars (.int k)) σ).set i (some d)) := rfl
theorem qr_int {k : Int} : runP Φ (.ret (.int k)) σ = (evP Φ (.int k) σ).on σ fun d => .rt d := rfl
theorem qs_str {i : Nat} {x : Str} : runP Φ (.set i (.str x)) σ = (evP Φ (.str x) σ).on σ fun d => .nx ((frzIf (inL d) (vars (.str x)) σ).set i (some d)) := rfl
theorem qr_str {x : Str} : runP Φ (.ret (.str x)) σ = (evP Φ (.str x) σ).on σ fun d => .rt d := rfl
theorem qs_v {i : Nat} {k : Nat} : runP Φ (.set i (.v k)) σ = (evP Φ (.v k) σ).on σ fun d => .nx ((frzIf (inL d) (vars (.v k)) σ).set i (some d)) := rfl
theorem qs_k {i : Nat} {x : Str} {e : Ex} : runP Φ (.set i (.k x e)) σ = (evP Φ (.k x e) σ).on σ fun d => .nx ((frzIf (inL d) (vars (.k x e)) σ).set i (some d)) := rfl
theorem qr_k {x : Str} {e : Ex} : runP Φ (.ret (.k x e)) σ = (evP Φ (.k x e) σ).on σ fun d => .rt d := rfl
theorem qs_f {i : Nat} {x : Str} : runP Φ (.set i (.f x)) σ = (evP Φ (.f x) σ).on σ fun d => .nx ((frzIf (inL d) (vars (.f x)) σ).set i (some d)) := rfl
theorem qr_f {x : Str} : runP Φ (.ret (.f x)) σ = (evP Φ (.f x) σ).on σ fun d => .rt d := rfl
theorem qs_tup {i : Nat} {a : Ex} : runP Φ (.set i (.tup a)) σ = (evP Φ (.tup a) σ).on σ fun d => .nx ((frzIf (inL d) (vars (.tup a)) σ).set i (some d)) := rfl
theorem qr_tup {a : Ex} : runP Φ (.ret (.tup a)) σ = (evP Φ (.tup a) σ).on σ fun d => .rt d := rfl
theorem qs_lst {i : Nat} {a : Ex} : runP Φ (.set i (.lst a)) σ = (evP Φ (.lst a) σ).on σ fun d => .nx ((frzIf (inL d) (vars (.lst a)) σ).set i (some d)) := rfl
theorem qr_lst {a : Ex} : runP Φ (.ret (.lst a)) σ = (evP Φ (.lst a) σ).on σ fun d => .rt d := rfl
theorem qs_bin {i : Nat} {o : Bop} {a : Ex} {b : Ex} : runP Φ (.set i (.bin o a b)) σ = (evP Φ (.bin o a b) σ).on σ fun d => .nx ((frzIf (inL d) (vars (.bin o a b)) σ).set i (some d)) := rfl
theorem qr_bin {o : Bop} {a : Ex} {b : Ex} : runP Φ (.ret (.bin o a b)) σ = (evP Φ (.bin o a b) σ).on σ fun d => .rt d := rfl
theorem qs_neg {i : Nat} {a : Ex} : runP Φ (.set i (.neg a)) σ = (evP Φ (.neg a) σ).on σ fun d => .nx ((frzIf (inL d) (vars (.neg a)) σ).set i (some d)) := rfl
theorem qr_neg {a : Ex} : runP Φ (.ret (.neg a)) σ = (evP Φ (.neg a) σ).on σ fun d => .rt d := rfl
theorem qs_not {i : Nat} {a : Ex} : runP Φ (.set i (.not a)) σ = (evP Φ (.not a) σ).on σ fun d => .nx ((frzIf (inL d) (vars (.not a)) σ).set i (some d)) := rfl
theorem qr_not {a : Ex} : runP Φ (.ret (.not a)) σ = (evP Φ (.not a) σ).on σ fun d => .rt d := rfl
theorem qs_and {i : Nat} {a : Ex} {b : Ex} : runP Φ (.set i (.and a b)) σ = (evP Φ (.and a b) σ).on σ fun d => .nx ((frzIf (inL d) (vars (.and a b)) σ).set i (some d)) := rfl
theorem qr_and {a : Ex} {b : Ex} : runP Φ (.ret (.and a b)) σ = (evP Φ (.and a b) σ).on σ fun d => .rt d := rfl
theorem qs_or {i : Nat} {a : Ex} {b : Ex} : runP Φ (.set i (.or a b)) σ = (evP Φ (.or a b) σ).on σ fun d => .nx ((frzIf (inL d) (vars (.or a b)) σ).set i (some d)) := rfl
theorem qr_or {a : Ex} {b : Ex} : runP Φ (.ret (.or a b)) σ = (evP Φ (.or a b) σ).on σ fun d => .rt d := rfl
theorem qs_cmp {i : Nat} {o : Cop} {a : Ex} {b : Ex} : runP Φ (.set i (.cmp o a b)) σ = (evP Φ (.cmp o a b) σ).on σ fun d => .nx ((frzIf (inL d) (vars (.cmp o a b)) σ).set i (some d)) := rfl
theorem qr_cmp {o : Cop} {a : Ex} {b : Ex} : runP Φ (.ret (.cmp o a b)) σ = (evP Φ (.cmp o a b) σ).on σ fun d => .rt d := rfl
theorem qs_isn {i : Nat} {a : Ex} : runP Φ (.set i (.isn a)) σ = (evP Φ (.isn a) σ).on σ fun d => .nx ((frzIf (inL d) (vars (.isn a)) σ).set i (some d)) := rfl
theorem qr_isn {a : Ex} : runP Φ (.ret (.isn a)) σ = (evP Φ (.isn a) σ).on σ fun d => .rt d := rfl
theorem qs_notn {i : Nat} {a : Ex} : runP Φ (.set i (.notn a)) σ = (evP Φ (.notn a) σ).on σ fun d => .nx ((frzIf (inL d) (vars (.notn a)) σ).set i (some d)) := rfl
theorem qr_notn {a : Ex} : runP Φ (.ret (.notn a)) σ = (evP Φ (.notn a) σ).on σ fun d => .rt d := rfl
theorem qs_ix {i : Nat} {a : Ex} {b : Ex} : runP Φ (.set i (.ix a b)) σ = (evP Φ (.ix a b) σ).on σ fun d => .nx ((frzIf (inL d) (vars (.ix a b)) σ).set i (some d)) := rfl
theorem qr_ix {a : Ex} {b : Ex} : runP Φ (.ret (.ix a b)) σ = (evP Φ (.ix a b) σ).on σ fun d => .rt d := rfl
theorem qs_sl {i : Nat} {a : Ex} {b : Ex} {c : Ex} : runP Φ (.set i (.sl a b c)) σ = (evP Φ (.sl a b c) σ).on σ fun d => .nx ((frzIf (inL d) (vars (.sl a b c)) σ).set i (some d)) := rfl
theorem qr_sl {a : Ex} {b : Ex} {c : Ex} : runP Φ (.ret (.sl a b c)) σ = (evP Φ (.sl a b c) σ).on σ fun d => .rt d := rfl
theorem qs_call {i : Nat} {f : Str} {a : Ex} : runP Φ (.set i (.call f a)) σ = (evP Φ (.call f a) σ).on σ fun d => .nx ((frzIf (inL d) (vars (.call f a)) σ).set i (some d)) := rfl
theorem qr_call {f : Str} {a : Ex} : runP Φ (.ret (.call f a)) σ = (evP Φ (.call f a) σ).on σ fun d => .rt d := rfl
theorem qe_call {f : Str} {a : Ex} : runP Φ (.ex (.call f a)) σ = (evP Φ (.call f a) σ).on σ fun _ => .nx σ := rfl
theorem qs_callv {i : Nat} {k : Nat} {a : Ex} : runP Φ (.set i (.callv k a)) σ = (evP Φ (.callv k a) σ).on σ fun d => .nx ((frzIf (inL d) (vars (.callv k a)) σ).set i (some d)) := rfl
theorem qr_callv {k : Nat} {a : Ex} : runP Φ (.ret (.callv k a)) σ = (evP Φ (.callv k a) σ).on σ fun d => .rt d := rfl
theorem qe_callv {k : Nat} {a : Ex} : runP Φ (.ex (.callv k a)) σ = (evP Φ (.callv k a) σ).on σ fun _ => .nx σ := rfl
theorem qs_bi {i : Nat} {f : Bi} {a : Ex} : runP Φ (.set i (.bi f a)) σ = (evP Φ (.bi f a) σ).on σ fun d => .nx ((frzIf (inL d) (vars (.bi f a)) σ).set i (some d)) := rfl
theorem qr_bi {f : Bi} {a : Ex} : runP Φ (.ret (.bi f a)) σ = (evP Φ (.bi f a) σ).on σ fun d => .rt d := rfl
theorem qs_tm {i : Nat} {m : Tm} {o a : Ex} : runP Φ (.set i (.tm m o a)) σ = (evP Φ (.tm m o a) σ).on σ fun d => .nx ((frzIf (inL d) (vars (.tm m o a)) σ).set i (some d)) := rfl
theorem qr_tm {m : Tm} {o a : Ex} : runP Φ (.ret (.tm m o a)) σ = (evP Φ (.tm m o a) σ).on σ fun d => .rt d := rfl
theorem qs_isi {i : Nat} {a : Ex} {t : Ty} : runP Φ (.set i (.isi a t)) σ = (evP Φ (.isi a t) σ).on σ fun d => .nx ((frzIf (inL d) (vars (.isi a t)) σ).set i (some d)) := rfl
theorem qr_isi {a : Ex} {t : Ty} : runP Φ (.ret (.isi a t)) σ = (evP Φ (.isi a t) σ).on σ fun d => .rt d := rfl
theorem qs_ise {i : Nat} {k : Nat} {c : Str} : runP Φ (.set i (.ise k c)) σ = (evP Φ (.ise k c) σ).on σ fun d => .nx ((frzIf (inL d) (vars (.ise k c)) σ).set i (some d)) := rfl
theorem qr_ise {k : Nat} {c : Str} : runP Φ (.ret (.ise k c)) σ = (evP Φ (.ise k c) σ).on σ fun d => .rt d := rfl
theorem qs_lc {i : Nat} {k : Nat} {a : Ex} {b : Ex} {c : Ex} : runP Φ (.set i (.lc k a b c)) σ = (evP Φ (.lc k a b c) σ).on σ fun d => .nx ((frzIf (inL d) (vars (.lc k a b c)) σ).set i (some d)) := rfl
theorem qr_lc {k : Nat} {a : Ex} {b : Ex} {c : Ex} : runP Φ (.ret (.lc k a b c)) σ = (evP Φ (.lc k a b c) σ).on σ fun d => .rt d := rfl
theorem qs_rng {i : Nat} {a : Ex} : runP Φ (.set i (.rng a)) σ = (evP Φ (.rng a) σ).on σ fun d => .nx ((frzIf (inL d) (vars (.rng a)) σ).set i (some d)) := rfl
theorem qr_rng {a : Ex} : runP Φ (.ret (.rng a)) σ = (evP Φ (.rng a) σ).on σ fun d => .rt d := rfl
theorem qs_rev {i : Nat} {a : Ex} : runP Φ (.set i (.rev a)) σ = (evP Φ (.rev a) σ).on σ fun d => .nx ((frzIf (inL d) (vars (.rev a)) σ).set i (some d)) := rfl
theorem qr_rev {a : Ex} : runP Φ (.ret (.rev a)) σ = (evP Φ (.rev a) σ).on σ fun d => .rt d := rfl
theorem qs_me {i m j a} : runP Φ (.set i (.me m (.v j) a)) σ = meGo Φ m j a σ fun d σ => .nx (σ.set i (some d)) := rfl
theorem qe_me {m j a} : runP Φ (.ex (.me m (.v j) a)) σ = meGo Φ m j a σ fun _ σ => .nx σ := rfl
theorem qr_v {j : Nat} : runP Φ (.ret (.v j)) σ = rawP σ[j]? := rfl
theorem qx_v {j : Nat} {i e} : runP Φ (.setix (.v j) i e) σ = (evP Φ e σ).on σ fun y => onOwn (frzIf (inL (frz y)) (varsX e) σ)[j]? fun xs => (evP Φ i (frzIf (inL (frz y)) (varsX e) σ)).on (frzIf (inL (frz y)) (varsX e) σ) fun k => setixP xs k (frz y) fun xs => .nx ((frzIf (inL (frz y)) (varsX e) σ).set j (some (.own xs))) := rfl
theorem vx_int {i : Int} : varsX (.int i) = [] := rfl
theorem vx_bl {i : Bool} : varsX (.bl i) = [] := rfl
theorem vx_non : varsX .non = [] := rfl
theorem vx_v {i : Nat} : varsX (.v i) = [i] := rfl
theorem vx_bin {o a b} : varsX (.bin o a b) = vars (.bin o a b) := rfl
theorem vx_neg {a} : varsX (.neg a) = vars (.neg a) := rfl
theorem vx_call {f as} : varsX (.call f as) = vars (.call f as) := rfl
theorem vx_bi {f as} : varsX (.bi f as) = vars (.bi f as) := rfl
theorem vx_tup {as} : varsX (.tup as) = vars (.tup as) := rfl
theorem vx_lst {as} : varsX (.lst as) = vars (.lst as) := rfl
theorem vx_ix {j : Nat} {i : Int} : varsX (.ix (.v j) (.int i)) = [] := rfl
theorem frzIf_nil {b : Bool} {σ : Ev} : frzIf b [] σ = σ := by cases b <;> rfl
theorem q_aug {i : Nat} {o : Bop} {e : Ex} : runP Φ (.aug i o e) σ = onIntP σ[i]? fun x => (evP Φ e σ).on σ fun y => onSome (augP o x y) fun z => .nx (σ.set i (some (.int z))) := rfl
theorem q_ite {c : Ex} {a b : Sm} : runP Φ (.ite c a b) σ = (evP Φ c σ).on σ fun d => ifP d (runP Φ a σ) (runP Φ b σ) := rfl
theorem q_wh {c : Ex} {b : Sm} : runP Φ (.wh c b) σ = whP Φ c b σ := rfl
theorem q_for {s : Nat} {it : Ex} {b : Sm} : runP Φ (.for_ s it b) σ = (evP Φ it σ).on σ fun d => onItemsP (itemsP (frz d)) .bad fun xs => foP Φ s b xs (frzIf (isL d || inL d) (vars it) σ) := rfl
theorem q_for2 {i j : Nat} {it : Ex} {b : Sm} : runP Φ (.for2 i j it b) σ = (evP Φ it σ).on σ fun d => onItemsP (itemsP (frz d)) .bad fun xs => foP2 Φ i j b xs (frzIf (isL d || inL d) (vars it) σ) := rfl
theorem q_retn : runP Φ .retn σ = .rt .non := rfl
theorem q_brk : runP Φ .brk σ = .bk σ := rfl
theorem q_cnt : runP Φ .cnt σ = .ct σ := rfl
theorem q_raise {c : Str} : runP Φ (.raise c) σ = .ex c σ := rfl
theorem q_tryN {b h : Sm} {c : Str} : runP Φ (.try_ b c none h) σ = tryNP (runP Φ b σ) c fun σ => runP Φ h σ := rfl
theorem q_tryA {b h : Sm} {c : Str} {i : Nat} : runP Φ (.try_ b c (some i) h) σ = tryAP (runP Φ b σ) c i fun σ => runP Φ h σ := rfl
theorem q_tryR {b : Sm} {c d : Str} : runP Φ (.tryR b c d) σ = tryRP (runP Φ b σ) c d := rfl
theorem q_try2 {b h1 h2 : Sm} {c1 c2 : Str} : runP Φ (.try2 b c1 h1 c2 h2) σ = try2P (runP Φ b σ) c1 (fun σ => runP Φ h1 σ) c2 fun σ => runP Φ h2 σ := rfl
noncomputable def lcQX (Φ : Str → List Dv → Rv Dv) (s : Nat) (c e : Ex) (σ : Ev) (xs : List Dv) : Rv (List Dv) := lcPX (fun x => evP Φ c (σ.set s (some x))) (fun x => evP Φ e (σ.set s (some x))) xs
def onLcX (r : Rv (List Dv)) (σ : Ev) (f : List Dv → Op) : Op := match r with
  | .ok qs => f qs
  | .exc k => .ex k σ
  | .bad => .bad
theorem onLcX_ok {qs : List Dv} {σ : Ev} {f : List Dv → Op} : onLcX (.ok qs) σ f = f qs := rfl
theorem onLcX_exc {k : Str} {σ : Ev} {f : List Dv → Op} : onLcX (.exc k) σ f = .ex k σ := rfl
theorem q_setlc {i s : Nat} {it c e : Ex} : runP Φ (.setlc i s it c e) σ = (evP Φ it σ).on σ fun d => onItemsP (itemsP (frz d)) .bad fun xs => if xs.length ≤ LIM then onLcX (lcQX Φ s c e σ xs) σ (fun qs => (allocP qs).on σ fun d => .nx ((frzIf (inL d) (vars (.lc s it c e)) σ).set i (some d))) else .bad := rfl
theorem fo2_nil {i j : Nat} {b : Sm} : foP2 Φ i j b [] σ = .nx σ := rfl
theorem fo2_cons {i j : Nat} {b : Sm} {y z : Dv} {xs : List Dv} : foP2 Φ i j b (.tup [y, z] :: xs) σ = (runP Φ b ((σ.set i (some y)).set j (some z))).turn fun σ => foP2 Φ i j b xs σ := rfl
theorem fo_nil {s : Nat} {b : Sm} : foP Φ s b [] σ = .nx σ := rfl
theorem fo_cons {s : Nat} {b : Sm} {x : Dv} {xs : List Dv} : foP Φ s b (x :: xs) σ = (runP Φ b (σ.set s (some x))).turn fun σ => foP Φ s b xs σ := rfl
theorem lc_nil {s : Nat} {c e : Ex} : lcQ Φ s c e σ [] = .ok [] := rfl
theorem lc_cons {s : Nat} {c e : Ex} {x y : Dv} {xs ys : List Dv} (h1 : evP Φ c (σ.set s (some x)) = .ok (.bl true)) (h2 : evP Φ e (σ.set s (some x)) = .ok y) (h3 : lcQ Φ s c e σ xs = .ok ys) : lcQ Φ s c e σ (x :: xs) = .ok (frz y :: ys) := by
  unfold lcQ at h3 ⊢
  rw [lcP]
  simp only [h1, h2, h3]
theorem lc_skip {s : Nat} {c e : Ex} {x : Dv} {xs ys : List Dv} (h1 : evP Φ c (σ.set s (some x)) = .ok (.bl false)) (h3 : lcQ Φ s c e σ xs = .ok ys) : lcQ Φ s c e σ (x :: xs) = .ok ys := by
  unfold lcQ at h3 ⊢
  rw [lcP]
  simp only [h1, h3]
/-- a comprehension over things of one kind -/
theorem lcx_nil {s : Nat} {c e : Ex} : lcQX Φ s c e σ [] = .ok [] := rfl
theorem lcx_cons {s : Nat} {c e : Ex} {x y : Dv} {xs ys : List Dv} (h1 : evP Φ c (σ.set s (some x)) = .ok (.bl true)) (h2 : evP Φ e (σ.set s (some x)) = .ok y) (h3 : lcQX Φ s c e σ xs = .ok ys) : lcQX Φ s c e σ (x :: xs) = .ok (frz y :: ys) := by
  unfold lcQX at *
  rw [lcPX]
  simp only [h1, h2, h3]
theorem lcx_consX {s : Nat} {c e : Ex} {x y : Dv} {xs : List Dv} {k : Str} (h1 : evP Φ c (σ.set s (some x)) = .ok (.bl true)) (h2 : evP Φ e (σ.set s (some x)) = .ok y) (h3 : lcQX Φ s c e σ xs = .exc k) : lcQX Φ s c e σ (x :: xs) = .exc k := by
  unfold lcQX at *
  rw [lcPX]
  simp only [h1, h2, h3]
theorem lcx_exc {s : Nat} {c e : Ex} {x : Dv} {xs : List Dv} {k : Str} (h1 : evP Φ c (σ.set s (some x)) = .ok (.bl true)) (h2 : evP Φ e (σ.set s (some x)) = .exc k) : lcQX Φ s c e σ (x :: xs) = .exc k := by
  unfold lcQX at *
  rw [lcPX]
  simp only [h1, h2]
theorem lcx_map {α : Type} {s : Nat} {c e : Ex} (f g : α → Dv) : ∀ xs : List α, (∀ x ∈ xs, evP Φ c (σ.set s (some (f x))) = .ok (.bl true)) → (∀ x ∈ xs, evP Φ e (σ.set s (some (f x))) = .ok (g x)) → lcQX Φ s c e σ (xs.map f) = .ok (xs.map fun x => frz (g x))
  | [], _, _ => rfl
  | x :: xs, h1, h2 => lcx_cons (h1 x List.mem_cons_self) (h2 x List.mem_cons_self) (lcx_map f g xs (fun y hy => h1 y (List.mem_cons_of_mem _ hy)) (fun y hy => h2 y (List.mem_cons_of_mem _ hy)))
theorem lc_map {α : Type} {s : Nat} {c e : Ex} (f g : α → Dv) : ∀ xs : List α, (∀ x ∈ xs, evP Φ c (σ.set s (some (f x))) = .ok (.bl true)) → (∀ x ∈ xs, evP Φ e (σ.set s (some (f x))) = .ok (g x)) → lcQ Φ s c e σ (xs.map f) = .ok (xs.map fun x => frz (g x))
  | [], _, _ => rfl
  | x :: xs, h1, h2 => lc_cons (h1 x List.mem_cons_self) (h2 x List.mem_cons_self) (lc_map f g xs (fun y hy => h1 y (List.mem_cons_of_mem _ hy)) (fun y hy => h2 y (List.mem_cons_of_mem _ hy)))
theorem lc_filter {α : Type} {s : Nat} {c e : Ex} (p : α → Bool) (f g : α → Dv) : ∀ xs : List α, (∀ x ∈ xs, evP Φ c (σ.set s (some (f x))) = .ok (.bl (p x))) → (∀ x ∈ xs, p x = true → evP Φ e (σ.set s (some (f x))) = .ok (g x)) → lcQ Φ s c e σ (xs.map f) = .ok ((xs.filter p).map fun x => frz (g x))
  | [], _, _ => rfl
  | x :: xs, h1, h2 => by
    have ih := lc_filter p f g xs (fun y hy => h1 y (List.mem_cons_of_mem _ hy)) (fun y hy => h2 y (List.mem_cons_of_mem _ hy))
    have hx := h1 x List.mem_cons_self
    cases hp : p x with
    | false =>
      rw [hp] at hx
      rw [List.filter_cons_of_neg (by rw [hp]; decide)]
      exact lc_skip hx ih
    | true =>
      rw [hp] at hx
      rw [List.filter_cons_of_pos hp]
      exact lc_cons hx (h2 x List.mem_cons_self hp) ih
/-- a walk, thing by thing: what holds behind each holds behind all -/
theorem fo_inv {s : Nat} {b : Sm} (I : List Dv → Ev → Prop) : ∀ (xs done : List Dv) (σ : Ev), I done σ → (∀ d x r σ, done ++ xs = d ++ x :: r → I d σ → ∃ σ', runP Φ b (σ.set s (some x)) = .nx σ' ∧ I (d ++ [x]) σ') → ∃ σ', foP Φ s b xs σ = .nx σ' ∧ I (done ++ xs) σ'
  | [], done, σ, h, _ => ⟨σ, rfl, by rw [List.append_nil]; exact h⟩
  | x :: xs, done, σ, h, hs => by
    obtain ⟨σ1, e1, h1⟩ := hs done x xs σ rfl h
    obtain ⟨σ2, e2, h2⟩ := fo_inv I xs (done ++ [x]) σ1 h1 (fun d y r σ e hd => hs d y r σ (by rw [← e, List.append_assoc]; rfl) hd)
    refine ⟨σ2, ?_, by rw [List.append_assoc] at h2; exact h2⟩
    rw [fo_cons, e1]
    exact e2
/-- the same over a part, the rest behind it -/
theorem fo_pre {s : Nat} {b : Sm} (I : List Dv → Ev → Prop) (tl : List Dv) : ∀ (xs done : List Dv) (σ : Ev), I done σ → (∀ d x r σ, done ++ xs = d ++ x :: r → I d σ → ∃ σ', runP Φ b (σ.set s (some x)) = .nx σ' ∧ I (d ++ [x]) σ') → ∃ σ', foP Φ s b (xs ++ tl) σ = foP Φ s b tl σ' ∧ I (done ++ xs) σ'
  | [], done, σ, h, _ => ⟨σ, rfl, by rw [List.append_nil]; exact h⟩
  | x :: xs, done, σ, h, hs => by
    obtain ⟨σ1, e1, h1⟩ := hs done x xs σ rfl h
    obtain ⟨σ2, e2, h2⟩ := fo_pre I tl xs (done ++ [x]) σ1 h1 (fun d y r σ e hd => hs d y r σ (by rw [← e, List.append_assoc]; rfl) hd)
    refine ⟨σ2, ?_, by rw [List.append_assoc] at h2; exact h2⟩
    rw [List.cons_append, fo_cons, e1]
    exact e2
/-- a walk over numbers, one by one -/
theorem fo_steps {s : Nat} {b : Sm} (I : Nat → Ev → Prop) : ∀ (n k : Nat) (σ : Ev), I k σ → (∀ j σ, k ≤ j → j < k + n → I j σ → ∃ σ', runP Φ b (σ.set s (some (.int (j : Int)))) = .nx σ' ∧ I (j + 1) σ') → ∃ σ', foP Φ s b (stepsP (k : Int) 1 n) σ = .nx σ' ∧ I (k + n) σ'
  | 0, k, σ, h, _ => ⟨σ, rfl, h⟩
  | n + 1, k, σ, h, hs => by
    obtain ⟨σ1, e1, h1⟩ := hs k σ (Nat.le_refl _) (by omega) h
    obtain ⟨σ2, e2, h2⟩ := fo_steps I n (k + 1) σ1 h1 (fun j σ h1 h2 hi => hs j σ (by omega) (by omega) hi)
    refine ⟨σ2, ?_, by rw [show k + (n + 1) = k + 1 + n by omega]; exact h2⟩
    rw [stepsP, fo_cons, e1]
    exact e2
theorem fo_steps_pre {s : Nat} {b : Sm} (I : Nat → Ev → Prop) (m : Nat) : ∀ (n k : Nat) (σ : Ev), I k σ → (∀ j σ, k ≤ j → j < k + n → I j σ → ∃ σ', runP Φ b (σ.set s (some (.int (j : Int)))) = .nx σ' ∧ I (j + 1) σ') → ∃ σ', foP Φ s b (stepsP (k : Int) 1 (n + m)) σ = foP Φ s b (stepsP ((k + n : Nat) : Int) 1 m) σ' ∧ I (k + n) σ'
  | 0, k, σ, h, _ => ⟨σ, by rw [Nat.zero_add]; rfl, h⟩
  | n + 1, k, σ, h, hs => by
    obtain ⟨σ1, e1, h1⟩ := hs k σ (Nat.le_refl _) (by omega) h
    obtain ⟨σ2, e2, h2⟩ := fo_steps_pre I m n (k + 1) σ1 h1 (fun j σ h1 h2 hi => hs j σ (by omega) (by omega) hi)
    refine ⟨σ2, ?_, by rw [show k + (n + 1) = k + 1 + n by omega]; exact h2⟩
    rw [show n + 1 + m = (n + m) + 1 by omega, stepsP, fo_cons, e1]
    rw [show k + (n + 1) = k + 1 + n by omega]
    exact e2
/-! values -/
theorem consP_t {x : Dv} {ys : List Dv} : consP x (.tup ys) = .ok (.tup (frz x :: ys)) := rfl
theorem tupP_t {xs : List Dv} : tupP (.tup xs) = if xs.length ≤ LIM then .ok (.tup xs) else .bad := rfl
theorem lstP_t {xs : List Dv} : lstP (.tup xs) = allocP xs := rfl
theorem allocP_e {xs : List Dv} : allocP xs = if xs.length ≤ LIM then .ok (.own xs) else .bad := rfl
theorem negP_i {i : Int} : negP (.int i) = .ok (.int (-i)) := rfl
theorem onTupP_t {xs : List Dv} {f : List Dv → Rv Dv} : onTupP (.tup xs) f = f xs := rfl
theorem onTupO_t {xs : List Dv} {f : List Dv → Op} : onTupO (.tup xs) f = f xs := rfl
theorem callP_t {f : Str} {ds : List Dv} : callP Φ f (.tup ds) = Φ f ds := rfl
theorem onBlP_bl (b : Bool) (t f : Rv Dv) : onBlP (.bl b) t f = if b = true then t else f := by cases b <;> rfl
theorem ifP_bl (b : Bool) (t f : Op) : ifP (.bl b) t f = if b = true then t else f := by cases b <;> rfl
theorem getP_non : getP (some (some .non)) = .ok .non := rfl
theorem getP_bl {i : Bool} : getP (some (some (.bl i))) = .ok (.bl i) := rfl
theorem getP_int {i : Int} : getP (some (some (.int i))) = .ok (.int i) := rfl
theorem getP_str {i : Str} : getP (some (some (.str i))) = .ok (.str i) := rfl
theorem getP_tup {i : List Dv} : getP (some (some (.tup i))) = .ok (.tup i) := rfl
theorem getP_lst {i : List Dv} : getP (some (some (.lst i))) = .ok (.lst i) := rfl
theorem getP_scr {i : List Dv} : getP (some (some (.scr i))) = .ok (.scr i) := rfl
theorem getP_own {i : List Dv} : getP (some (some (.own i))) = .ok (.own i) := rfl
theorem getP_fn {i : Str} : getP (some (some (.fn i))) = .ok (.fn i) := rfl
theorem rawP_non : rawP (some (some .non)) = .rt .non := rfl
theorem rawP_bl {i : Bool} : rawP (some (some (.bl i))) = .rt (.bl i) := rfl
theorem rawP_int {i : Int} : rawP (some (some (.int i))) = .rt (.int i) := rfl
theorem rawP_str {i : Str} : rawP (some (some (.str i))) = .rt (.str i) := rfl
theorem rawP_tup {i : List Dv} : rawP (some (some (.tup i))) = .rt (.tup i) := rfl
theorem rawP_lst {i : List Dv} : rawP (some (some (.lst i))) = .rt (.lst i) := rfl
theorem rawP_scr {i : List Dv} : rawP (some (some (.scr i))) = .rt (.scr i) := rfl
theorem rawP_own {i : List Dv} : rawP (some (some (.own i))) = .rt (.own i) := rfl
theorem rawP_fn {i : Str} : rawP (some (some (.fn i))) = .rt (.fn i) := rfl
theorem frz_non : frz .non = .non := rfl
theorem frz_bl {i : Bool} : frz (.bl i) = .bl i := rfl
theorem frz_int {i : Int} : frz (.int i) = .int i := rfl
theorem frz_str {i : Str} : frz (.str i) = .str i := rfl
theorem frz_tup {i : List Dv} : frz (.tup i) = .tup i := rfl
theorem frz_lst {i : List Dv} : frz (.lst i) = .lst i := rfl
theorem frz_scr {i : List Dv} : frz (.scr i) = .scr i := rfl
theorem frz_own {i : List Dv} : frz (.own i) = .lst i := rfl
theorem frz_fn {i : Str} : frz (.fn i) = .fn i := rfl
theorem frz_exc {i : Str} : frz (.exc i) = .exc i := rfl
theorem inL_non : inL .non = false := rfl
theorem inL_bl {i : Bool} : inL (.bl i) = false := rfl
theorem inL_int {i : Int} : inL (.int i) = false := rfl
theorem inL_str {i : Str} : inL (.str i) = false := rfl
theorem inL_fn {i : Str} : inL (.fn i) = false := rfl
theorem inL_exc {i : Str} : inL (.exc i) = false := rfl
theorem inL_lst {i : List Dv} : inL (.lst i) = true := rfl
theorem inL_scr {i : List Dv} : inL (.scr i) = true := rfl
theorem inL_own {i : List Dv} : inL (.own i) = i.any (lsF FUEL) := rfl
theorem inL_tup {i : List Dv} : inL (.tup i) = i.any (lsF 11) := rfl
theorem fuel_eq : FUEL = 12 := rfl
theorem ls_non {n : Nat} : lsF (n + 1) .non = false := rfl
theorem ls_bl {n : Nat} {i : Bool} : lsF (n + 1) (.bl i) = false := rfl
theorem ls_int {n : Nat} {i : Int} : lsF (n + 1) (.int i) = false := rfl
theorem ls_str {n : Nat} {i : Str} : lsF (n + 1) (.str i) = false := rfl
theorem ls_fn {n : Nat} {i : Str} : lsF (n + 1) (.fn i) = false := rfl
theorem ls_exc {n : Nat} {i : Str} : lsF (n + 1) (.exc i) = false := rfl
theorem ls_lst {n : Nat} {i : List Dv} : lsF (n + 1) (.lst i) = true := rfl
theorem ls_scr {n : Nat} {i : List Dv} : lsF (n + 1) (.scr i) = true := rfl
theorem ls_tup {n : Nat} {i : List Dv} : lsF (n + 1) (.tup i) = i.any (lsF n) := rfl
theorem any_f {α : Type} {n : Nat} {f : α → Dv} (h : ∀ x, lsF n (f x) = false) (xs : List α) : (xs.map f).any (lsF n) = false := by
  induction xs with
  | nil => rfl
  | cons x xs ih => rw [List.map_cons, List.any_cons, h x, ih]; rfl
theorem any_int {n : Nat} {xs : List Int} : (xs.map Dv.int).any (lsF (n + 1)) = false := any_f (fun _ => rfl) xs
theorem any_steps {n : Nat} : ∀ (k : Nat) (i c : Int), (stepsP i c k).any (lsF (n + 1)) = false
  | 0, _, _ => rfl
  | k + 1, i, c => by
    rw [stepsP, List.any_cons, any_steps k]
    rfl
theorem frzIf_f {vs : List Nat} : frzIf false vs σ = σ := rfl
theorem frzIf_t {vs : List Nat} : frzIf true vs σ = frzs vs σ := rfl
theorem frzs_nil : frzs [] σ = σ := rfl
theorem frzs_cons {i : Nat} {vs : List Nat} : frzs (i :: vs) σ = frzs vs (frzAt i σ) := rfl
def frzO (o : Option Dv) : Option Dv := o.map frz
theorem frzAt_0 {o : Option Dv} : frzAt 0 (o :: σ) = frzO o :: σ := by cases o <;> rfl
theorem frzAt_s {i : Nat} {o : Option Dv} : frzAt (i + 1) (o :: σ) = o :: frzAt i σ := by
  unfold frzAt
  rw [List.getElem?_cons_succ]
  cases σ[i]? with
  | none => rfl
  | some p => cases p <;> rfl
theorem frzO_n : frzO none = none := rfl
theorem frzO_s {d : Dv} : frzO (some d) = some (frz d) := rfl
theorem isL_non : isL .non = false := rfl
theorem isL_bl {i : Bool} : isL (.bl i) = false := rfl
theorem isL_int {i : Int} : isL (.int i) = false := rfl
theorem isL_str {i : Str} : isL (.str i) = false := rfl
theorem isL_tup {i : List Dv} : isL (.tup i) = false := rfl
theorem isL_lst {i : List Dv} : isL (.lst i) = true := rfl
theorem isL_scr {i : List Dv} : isL (.scr i) = false := rfl
theorem isL_own {i : List Dv} : isL (.own i) = true := rfl
theorem onOwn_o {xs : List Dv} {f : List Dv → Op} : onOwn (some (some (.own xs))) f = f xs := rfl
theorem onSome_s {α : Type} {x : α} {f : α → Op} : onSome (some x) f = f x := rfl
theorem onIntP_i {x : Int} {f : Int → Op} : onIntP (some (some (.int x))) f = f x := rfl
theorem onFnP_f {g : Str} {f : Str → Rv Dv} : onFnP (some (some (.fn g))) f = f g := rfl
theorem onExcP_f {g : Str} {f : Str → Rv Dv} : onExcP (some (some (.exc g))) f = f g := rfl
theorem okOnlyP_ok {d : Dv} : okOnlyP (.ok d) = .ok d := rfl
theorem onItemsP_s {α : Type} {z : α} {xs : List Dv} {f : List Dv → α} : onItemsP (some xs) z f = f xs := rfl
theorem itemsP_t {xs : List Dv} : itemsP (.tup xs) = some xs := rfl
theorem itemsP_l {xs : List Dv} : itemsP (.lst xs) = some xs := rfl
theorem itemsP_s {xs : List Dv} : itemsP (.scr xs) = some xs := rfl
theorem augP_a {x y : Int} : augP .add x (.int y) = some (x + y) := rfl
theorem augP_s {x y : Int} : augP .sub x (.int y) = some (x - y) := rfl
theorem onPartP_int {i : Int} {f : Option Int → Rv Dv} : onPartP (.int i) f = f (some i) := rfl
theorem onPartP_abs {x : Str} {f : Option Int → Rv Dv} : onPartP (.exc x) f = f none := rfl
def onNat (o : Option Nat) (f : Nat → Op) : Op := match o with
  | some p => f p
  | none => .bad
theorem onNat_s {p : Nat} {f : Nat → Op} : onNat (some p) f = f p := rfl
theorem setixP_i {xs : List Dv} {k : Int} {y : Dv} {f : List Dv → Op} : setixP xs (.int k) y f = onNat (L2.ixN xs.length k) fun p => f (xs.set p y) := by
  show (match L2.ixN xs.length k with | some p => f (xs.set p y) | none => .bad) = _
  cases L2.ixN xs.length k <;> rfl
theorem meGo_e {m : Me} {j : Nat} {as : Ex} {f : Dv → Ev → Op} : meGo Φ m j as σ f = if recv m (.ref 0) = true then onOwn σ[j]? fun _ => (evP Φ as σ).on σ fun d => onTupO d fun ds => onOwn (frzIf (inL d) (vars as) σ)[j]? fun xs => onSome (meP m xs ds) fun p => f p.1 ((frzIf (inL d) (vars as) σ).set j (some (.own p.2))) else .bad := rfl
theorem meP_app {xs : List Dv} {y : Dv} (h : xs.length < LIM) : meP .append xs [y] = some (.non, xs ++ [y]) := if_pos h
theorem meP_app' {xs : List Dv} {y : Dv} : meP .append xs [y] = if xs.length < LIM then some (.non, xs ++ [y]) else none := rfl
theorem meP_rev {xs : List Dv} : meP .reverse xs [] = some (.non, xs.reverse) := rfl
theorem meP_clear {xs : List Dv} : meP .clear xs [] = some (.non, []) := rfl
theorem meP_pop {xs : List Dv} {y : Dv} (h : xs[xs.length - 1]? = some y) : meP .pop xs [] = some (y, xs.dropLast) := by
  show (match xs[xs.length - 1]? with | some y => some (y, xs.dropLast) | none => none) = _
  rw [h]
theorem onSome_if {α : Type} {p : Prop} [Decidable p] {x : α} {f : α → Op} : onSome (if p then some x else none) f = if p then f x else .bad := by split <;> rfl
theorem rc1 : (recv .append (.ref 0) = true) = True := by decide
theorem rc2 : (recv .pop (.ref 0) = true) = True := by decide
theorem rc3 : (recv .popAt (.ref 0) = true) = True := by decide
theorem rc4 : (recv .clear (.ref 0) = true) = True := by decide
theorem rc5 : (recv .insert (.ref 0) = true) = True := by decide
theorem rc6 : (recv .reverse (.ref 0) = true) = True := by decide
theorem bp_add {i j : Int} : binP .add (.int i) (.int j) = .ok (.int (i + j)) := rfl
theorem bp_sub {i j : Int} : binP .sub (.int i) (.int j) = .ok (.int (i - j)) := rfl
theorem bp_mul {i j : Int} : binP .mul (.int i) (.int j) = if mulOk i j then .ok (.int (i * j)) else .bad := rfl
theorem bp_fdiv {i j : Int} : binP .fdiv (.int i) (.int j) = if divOk i j then .ok (.int (i.fdiv j)) else .bad := rfl
theorem bp_mod {i j : Int} : binP .mod (.int i) (.int j) = if j ≠ 0 then .ok (.int (i.fmod j)) else .bad := rfl
theorem bp_pow {i j : Int} : binP .pow (.int i) (.int j) = if powOk i j then .ok (.int (i ^ j.toNat)) else .bad := rfl
theorem bp_addt {a b : List Dv} : binP .add (.tup a) (.tup b) = if a.length + b.length ≤ LIM then .ok (.tup (a ++ b)) else .bad := rfl
theorem bp_addl {a b : List Dv} : binP .add (.lst a) (.lst b) = if a.length + b.length ≤ LIM then .ok (.own (a ++ b)) else .bad := rfl
theorem cp_lt {i j : Int} : cmpP .lt (.int i) (.int j) = .ok (.bl (decide (i < j))) := rfl
theorem cp_le {i j : Int} : cmpP .le (.int i) (.int j) = .ok (.bl (decide (i ≤ j))) := rfl
theorem cp_gt {i j : Int} : cmpP .gt (.int i) (.int j) = .ok (.bl (decide (j < i))) := rfl
theorem cp_ge {i j : Int} : cmpP .ge (.int i) (.int j) = .ok (.bl (decide (j ≤ i))) := rfl
theorem cp_eq {x y : Dv} : cmpP .eq x y = eqP x y id := by cases x <;> cases y <;> rfl
theorem cp_ne {x y : Dv} : cmpP .ne x y = eqP x y not := by cases x <;> cases y <;> rfl
theorem ep_int (i j : Int) : eqP (.int i) (.int j) id = .ok (.bl (decide (i = j))) := by
  have e : PyData.eqv (.int i) (.int j) = decide (i = j) := by
    unfold PyData.eqv
    exact Bool.beq_eq_decide_eq i j
  show (if SeqAt.shaped (.int i) = true ∧ SeqAt.shaped (.int j) = true then Rv.ok (Dv.bl (id (PyData.eqv (.int i) (.int j)))) else .bad) = _
  rw [if_pos ⟨rfl, rfl⟩, e]
  rfl
theorem np_int (i j : Int) : eqP (.int i) (.int j) not = .ok (.bl (!decide (i = j))) := by
  have e : PyData.eqv (.int i) (.int j) = decide (i = j) := by
    unfold PyData.eqv
    exact Bool.beq_eq_decide_eq i j
  show (if SeqAt.shaped (.int i) = true ∧ SeqAt.shaped (.int j) = true then Rv.ok (Dv.bl (not (PyData.eqv (.int i) (.int j)))) else .bad) = _
  rw [if_pos ⟨rfl, rfl⟩, e]
theorem ep_bl (i j : Bool) : eqP (.bl i) (.bl j) id = .ok (.bl (i == j)) := by cases i <;> cases j <;> rfl
theorem np_bl (i j : Bool) : eqP (.bl i) (.bl j) not = .ok (.bl (!(i == j))) := by cases i <;> cases j <;> rfl
theorem xp_t {xs : List Dv} {i : Int} : ixP (.tup xs) (.int i) = atP (L2.atI xs i) := rfl
theorem xp_l {xs : List Dv} {i : Int} : ixP (.lst xs) (.int i) = atP (L2.atI xs i) := rfl
theorem xp_s {xs : List Dv} {i : Int} : ixP (.scr xs) (.int i) = atP (L2.atI xs i) := rfl
theorem atP_s {v : Dv} : atP (some v) = .ok v := rfl
theorem slp_t {xs : List Dv} {lo hi : Option Int} : slP (.tup xs) lo hi = .ok (.tup (cut xs lo hi)) := rfl
theorem slp_l {xs : List Dv} {lo hi : Option Int} : slP (.lst xs) lo hi = allocP (cut xs lo hi) := rfl
theorem slp_s {xs : List Dv} {lo hi : Option Int} : slP (.scr xs) lo hi = allocP (cut xs lo hi) := rfl
theorem isStr_s {z : Str} : isStrP (.str z) = true := rfl
theorem tm_part {a b : Str} : tmP .partition (.str a) [.str b] = if (b.length == 0) = false ∧ a.length ≤ LIM then .ok (.tup [.str (Txt.partition a b).1, .str (Txt.partition a b).2.1, .str (Txt.partition a b).2.2]) else .bad := rfl
theorem tm_split {a b : Str} : tmP .split (.str a) [.str b] = if (b.length == 0) = false ∧ a.length ≤ LIM then allocP ((Txt.split a b).map Dv.str) else .bad := rfl
theorem tm_starts {a b : Str} : tmP .startswith (.str a) [.str b] = .ok (.bl (Txt.startswith a b)) := rfl
theorem strsP_map (ys : List Str) : strsP (ys.map Dv.str) = some ys := by
  induction ys with
  | nil => rfl
  | cons y ys ih =>
    show (strsP (ys.map Dv.str)).map (y :: ·) = _
    rw [ih]
    rfl
theorem tm_joinL {a : Str} {ys : List Str} : tmP .join (.str a) [.lst (ys.map Dv.str)] = if (ys.map (·.length)).sum + ys.length * a.length ≤ LIM then .ok (.str (Txt.join a ys)) else .bad := by
  show (match strsP (ys.map Dv.str) with | some ys => _ | none => _) = _
  rw [strsP_map]
theorem slp_str {z : Str} {lo hi : Option Int} : slP (.str z) lo hi = if z.length ≤ LIM then .ok (.str (L2.cutS z lo hi)) else .bad := rfl
theorem xp_str {z : Str} {i : Int} : ixP (.str z) (.int i) = if z.length ≤ LIM then (match L2.atI z.cps.toList i with
    | some c => .ok (.str ⟨#[c]⟩)
    | none => .bad) else .bad := rfl
theorem i_lenstr {z : Str} : biP .len [.str z] = if z.length ≤ LIM then .ok (.int z.length) else .bad := rfl
theorem bp_adds {a b : Str} : binP .add (.str a) (.str b) = if a.length + b.length ≤ LIM then .ok (.str (a ++ b)) else .bad := rfl
theorem i_str {i : Int} : biP .str [.int i] = if i.natAbs.log2 < 1920 then .ok (.str (Str.ofString (toString i))) else .bad := rfl
theorem i_ints {z : Str} : biP .int [.str z] = (match intText? z with
    | some n => if z.length ≤ 640 then .ok (.int n) else .bad
    | none => .bad) := rfl
theorem itemsP_str {z : Str} : itemsP (.str z) = some (z.cps.toList.map fun c => Dv.str ⟨#[c]⟩) := rfl
theorem nn_str {z : Str} : isNonP (.str z) = false := rfl
theorem i_abs {i : Int} : biP .abs [.int i] = .ok (.int (if i < 0 then -i else i)) := rfl
theorem i_lent {xs : List Dv} : biP .len [.tup xs] = .ok (.int xs.length) := rfl
theorem i_lenl {xs : List Dv} : biP .len [.lst xs] = .ok (.int xs.length) := rfl
theorem i_lens {xs : List Dv} : biP .len [.scr xs] = .ok (.int xs.length) := rfl
theorem i_max {i j : Int} : biP .max [.int i, .int j] = .ok (.int (if j > i then j else i)) := rfl
theorem i_min {i j : Int} : biP .min [.int i, .int j] = .ok (.int (if j < i then j else i)) := rfl
theorem i_int {i : Int} : biP .int [.int i] = .ok (.int i) := rfl
theorem i_intb {k : Bool} : biP .int [.bl k] = .ok (.int (if k then 1 else 0)) := rfl
theorem i_listt {xs : List Dv} : biP .list [.tup xs] = allocP xs := rfl
theorem i_listl {xs : List Dv} : biP .list [.lst xs] = allocP xs := rfl
theorem i_lists {xs : List Dv} : biP .list [.scr xs] = allocP xs := rfl
theorem i_tupt {xs : List Dv} : biP .tuple [.tup xs] = .ok (.tup xs) := rfl
theorem i_tupl {xs : List Dv} : biP .tuple [.lst xs] = .ok (.tup xs) := rfl
theorem i_sorted {xs : List Dv} : biP .sorted [.lst xs] = sortP (intsP xs) false := rfl
theorem i_sortedR {xs : List Dv} : biP .sortedR [.lst xs] = sortP (intsP xs) true := rfl
theorem intsP_map : ∀ ns : List Int, intsP (ns.map Dv.int) = some ns
  | [] => rfl
  | n :: ns => by
    show (intsP (ns.map Dv.int)).map (n :: ·) = _
    rw [intsP_map ns]
    rfl
theorem sortP_f {ns : List Int} : sortP (some ns) false = allocP ((up ns).map Dv.int) := rfl
theorem sortP_t {ns : List Int} : sortP (some ns) true = allocP ((up ns).reverse.map Dv.int) := rfl
theorem t_non {t : Ty} : tyP .non t = .ok (.bl false) := rfl
theorem t_bl {b : Bool} {t : Ty} : tyP (.bl b) t = .ok (.bl (t == .bool || t == .int)) := rfl
theorem t_int {i : Int} {t : Ty} : tyP (.int i) t = .ok (.bl (t == .int)) := rfl
theorem t_str {i : Str} {t : Ty} : tyP (.str i) t = .ok (.bl (t == .str)) := rfl
theorem t_tup {i : List Dv} {t : Ty} : tyP (.tup i) t = .ok (.bl (t == .tuple)) := rfl
theorem t_lst {i : List Dv} {t : Ty} : tyP (.lst i) t = .ok (.bl (t == .list)) := rfl
theorem tz1 : (Ty.tuple == Ty.list) = false := rfl
theorem tz2 : (Ty.list == Ty.tuple) = false := rfl
theorem tz3 : (Ty.int == Ty.list) = false := rfl
theorem nn_non : isNonP .non = true := rfl
theorem nn_tup {x : List Dv} : isNonP (.tup x) = false := rfl
theorem nn_int {x : Int} : isNonP (.int x) = false := rfl
theorem nn_lst {x : List Dv} : isNonP (.lst x) = false := rfl
theorem nn_own {x : List Dv} : isNonP (.own x) = false := rfl
theorem rv_t {xs : List Dv} : revP (.tup xs) = .ok (.tup xs.reverse) := rfl
theorem rp_1 {j : Int} : rngP [.int j] = if small j then .ok (.tup (stepsP 0 1 j.toNat)) else .bad := rfl
theorem rp_2 {i j : Int} : rngP [.int i, .int j] = if small i ∧ small j then .ok (.tup (stepsP i 1 (j - i).toNat)) else .bad := rfl
theorem rp_3 {i j c : Int} : rngP [.int i, .int j, .int c] = if rngOk i j c then .ok (.tup (stepsP i c (Builtin.Range.rangeSize i j c).toNat)) else .bad := rfl
theorem stepsP_0 {i c : Int} : stepsP i c 0 = [] := rfl
theorem stepsP_s {i c : Int} {n : Nat} : stepsP i c (n + 1) = .int i :: stepsP (i + c) c n := rfl
end
theorem Op.then_nx (σ : Ev) (f : Ev → Op) : (Op.nx σ).then f = f σ := rfl
theorem Op.then_rt (d : Dv) (f : Ev → Op) : (Op.rt d).then f = .rt d := rfl
theorem Op.then_ex (c : Str) (σ : Ev) (f : Ev → Op) : (Op.ex c σ).then f = .ex c σ := rfl
theorem Op.then_bk (σ : Ev) (f : Ev → Op) : (Op.bk σ).then f = .bk σ := rfl
theorem Op.then_ct (σ : Ev) (f : Ev → Op) : (Op.ct σ).then f = .ct σ := rfl
theorem Op.then_bad (f : Ev → Op) : Op.bad.then f = .bad := rfl
theorem Op.turn_nx (σ : Ev) (f : Ev → Op) : (Op.nx σ).turn f = f σ := rfl
theorem Op.turn_ct (σ : Ev) (f : Ev → Op) : (Op.ct σ).turn f = f σ := rfl
theorem Op.turn_bk (σ : Ev) (f : Ev → Op) : (Op.bk σ).turn f = .nx σ := rfl
theorem Op.turn_rt (d : Dv) (f : Ev → Op) : (Op.rt d).turn f = .rt d := rfl
theorem Op.turn_ex (c : Str) (σ : Ev) (f : Ev → Op) : (Op.ex c σ).turn f = .ex c σ := rfl
theorem ofP_nx {σ : Ev} : ofP (.nx σ) = .ok .non := rfl
theorem ofP_rt {d : Dv} : ofP (.rt d) = .ok d := rfl
theorem ofP_ex {c : Str} {σ : Ev} : ofP (.ex c σ) = .exc c := rfl
theorem op_then_nx (o : Op) : (o.then fun σ => .nx σ) = o := by cases o <;> rfl
theorem op_then_then (o : Op) (f g : Ev → Op) : (o.then f).then g = o.then fun σ => (f σ).then g := by cases o <;> rfl
theorem runP_cut (Φ : Str → List Dv → Rv Dv) : ∀ (n : Nat) (s : Sm) (σ : Ev), runP Φ s σ = (runP Φ (takeS n s) σ).then fun σ => runP Φ (dropS n s) σ
  | 0, s, σ => rfl
  | n + 1, s, σ => by
    cases s with
    | seq a b =>
      rw [takeS_s, dropS_s, q_seq, q_seq, op_then_then]
      rw [show (fun σ => runP Φ b σ) = (fun σ => (runP Φ (takeS n b) σ).then fun σ => runP Φ (dropS n b) σ) from funext fun σ => runP_cut Φ n b σ]
    | _ => exact (op_then_nx _).symm
theorem runFP_cut {Φ : Str → List Dv → Rv Dv} {fd : Fd} (k : Nat) {ds : List Dv} (h : ds.length = fd.np) : runFP Φ fd ds = ofP ((runP Φ (takeS k fd.body) (ds.map some ++ List.replicate (fd.n - ds.length) none)).then fun σ => runP Φ (dropS k fd.body) σ) := by
  rw [← runP_cut]
  exact if_pos h
theorem tryN_nx {σ : Ev} {c : Str} {h : Ev → Op} : tryNP (.nx σ) c h = .nx σ := rfl
theorem tryA_nx {σ : Ev} {c : Str} {i : Nat} {h : Ev → Op} : tryAP (.nx σ) c i h = .nx σ := rfl
theorem tryN_rt {d : Dv} {c : Str} {h : Ev → Op} : tryNP (.rt d) c h = .rt d := rfl
theorem tryA_rt {d : Dv} {c : Str} {i : Nat} {h : Ev → Op} : tryAP (.rt d) c i h = .rt d := rfl
def tryA2 (o : Op) : Op := match o with
  | .rt d => .rt d
  | _ => .bad
theorem tryA2_rt {d : Dv} : tryA2 (.rt d) = .rt d := rfl
theorem tryA_ex {c c' : Str} {σ : Ev} {i : Nat} {h : Ev → Op} : tryAP (.ex c' σ) c i h = if isSub c' c = true then tryA2 (h (σ.set i (some (.exc c')))) else .ex c' σ := by
  show (if isSub c' c = true then (match h (σ.set i (some (.exc c'))) with | .rt d => Op.rt d | _ => Op.bad) else Op.ex c' σ) = _
  split
  · cases h (σ.set i (some (.exc c'))) <;> rfl
  · rfl
theorem tryR_rt {d : Dv} {c e : Str} : tryRP (.rt d) c e = .rt d := rfl
theorem tryR_nx {σ : Ev} {c e : Str} : tryRP (.nx σ) c e = .nx σ := rfl
theorem tryR_ex {c c' e : Str} {σ : Ev} : tryRP (.ex c' σ) c e = if isSub c' c = true then .ex e σ else .ex c' σ := rfl
theorem noEx_rt {d : Dv} : noExP (.rt d) = .rt d := rfl
theorem noEx_nx {σ : Ev} : noExP (.nx σ) = .nx σ := rfl
theorem try2_rt {d : Dv} {c1 c2 : Str} {h1 h2 : Ev → Op} : try2P (.rt d) c1 h1 c2 h2 = .rt d := rfl
theorem try2_nx {σ : Ev} {c1 c2 : Str} {h1 h2 : Ev → Op} : try2P (.nx σ) c1 h1 c2 h2 = .nx σ := rfl
theorem try2_ex {σ : Ev} {c' c1 c2 : Str} {h1 h2 : Ev → Op} : try2P (.ex c' σ) c1 h1 c2 h2 = if isSub c' c1 = true then noExP (h1 σ) else if isSub c' c2 = true then noExP (h2 σ) else .ex c' σ := rfl
def tryN2 (o : Op) : Op := match o with
  | .ex _ _ => .bad
  | o => o
theorem tryN2_rt {d : Dv} : tryN2 (.rt d) = .rt d := rfl
theorem tryN2_nx {σ : Ev} : tryN2 (.nx σ) = .nx σ := rfl
theorem tryN_ex {c c' : Str} {σ : Ev} {h : Ev → Op} : tryNP (.ex c' σ) c h = if isSub c' c = true then tryN2 (h σ) else .ex c' σ := by
  show (if isSub c' c = true then (match h σ with | .ex _ _ => Op.bad | o => o) else Op.ex c' σ) = _
  split
  · cases h σ <;> rfl
  · rfl

theorem lt0 : (0 < LIM) = True := by decide
theorem lt1 : (1 < LIM) = True := by decide
theorem lt2 : (2 < LIM) = True := by decide
theorem lt3 : (3 < LIM) = True := by decide
theorem lt4 : (4 < LIM) = True := by decide
theorem lt5 : (5 < LIM) = True := by decide
theorem lt6 : (6 < LIM) = True := by decide
theorem lt7 : (7 < LIM) = True := by decide
theorem lt8 : (8 < LIM) = True := by decide
theorem lt9 : (9 < LIM) = True := by decide
theorem lt10 : (10 < LIM) = True := by decide
theorem lt11 : (11 < LIM) = True := by decide
theorem lt12 : (12 < LIM) = True := by decide
theorem lt13 : (13 < LIM) = True := by decide
theorem lt14 : (14 < LIM) = True := by decide
theorem lt15 : (15 < LIM) = True := by decide
theorem le6 : (6 ≤ LIM) = True := by decide
theorem le7 : (7 ≤ LIM) = True := by decide
theorem le8 : (8 ≤ LIM) = True := by decide
theorem le9 : (9 ≤ LIM) = True := by decide
theorem le10 : (10 ≤ LIM) = True := by decide
theorem le11 : (11 ≤ LIM) = True := by decide
theorem le12 : (12 ≤ LIM) = True := by decide
theorem le13 : (13 ≤ LIM) = True := by decide
theorem le14 : (14 ≤ LIM) = True := by decide
theorem le15 : (15 ≤ LIM) = True := by decide
theorem le16 : (16 ≤ LIM) = True := by decide
theorem le17 : (17 ≤ LIM) = True := by decide
theorem le18 : (18 ≤ LIM) = True := by decide
theorem le19 : (19 ≤ LIM) = True := by decide
theorem le20 : (20 ≤ LIM) = True := by decide
theorem le21 : (21 ≤ LIM) = True := by decide
theorem le22 : (22 ≤ LIM) = True := by decide
theorem le23 : (23 ≤ LIM) = True := by decide
theorem le24 : (24 ≤ LIM) = True := by decide
theorem le25 : (25 ≤ LIM) = True := by decide
/-! ### while -/
theorem whNP_mono {c : Ev → Rv Dv} {b : Ev → Op} : ∀ {n : Nat} {σ : Ev}, whNP c b n σ ≠ .bad → whNP c b (n + 1) σ = whNP c b n σ
  | 0, _, h => absurd rfl h
  | n + 1, σ, h => by
    unfold whNP at h ⊢
    cases hc : c σ with
    | ok d =>
      rw [hc] at h
      simp only [Rv.on_ok] at h ⊢
      cases d with
      | bl t =>
        cases t with
        | false => rfl
        | true =>
          simp only [ifP] at h ⊢
          cases hb : b σ with
          | nx σ' =>
            rw [hb] at h
            exact whNP_mono h
          | ct σ' =>
            rw [hb] at h
            exact whNP_mono h
          | _ => rfl
      | _ => exact absurd rfl h
    | _ => rfl
theorem whNP_le {c : Ev → Rv Dv} {b : Ev → Op} {n m : Nat} {σ : Ev} (h : whNP c b n σ ≠ .bad) (hm : n ≤ m) : whNP c b m σ = whNP c b n σ := by
  induction hm with
  | refl => rfl
  | step hm ih => rw [whNP_mono (by rw [ih]; exact h), ih]
theorem whLP_of {c : Ev → Rv Dv} {b : Ev → Op} {n : Nat} {σ : Ev} (h : whNP c b n σ ≠ .bad) : whLP c b σ = whNP c b n σ := by
  unfold whLP
  have hex : ∃ n, whNP c b n σ ≠ .bad := ⟨n, h⟩
  rw [dif_pos hex]
  have h2 := Classical.choose_spec hex
  by_cases hle : n ≤ Classical.choose hex
  · exact whNP_le h hle
  · exact (whNP_le h2 (by omega)).symm
/-- a while's first turn, where it goes on -/
theorem whLP_go {c : Ev → Rv Dv} {b : Ev → Op} {σ σ' : Ev} {o : Op} (h1 : c σ = .ok (.bl true)) (h2 : b σ = .nx σ') (h3 : whLP c b σ' = o) (hb : o ≠ .bad) : whLP c b σ = o := by
  have hex : ∃ n, whNP c b n σ' ≠ .bad := by
    by_cases hex : ∃ n, whNP c b n σ' ≠ .bad
    · exact hex
    · exfalso
      unfold whLP at h3
      rw [dif_neg hex] at h3
      exact hb h3.symm
  obtain ⟨n, hn⟩ := hex
  have e : whNP c b (n + 1) σ = whNP c b n σ' := by
    rw [whNP, h1]
    show ifP (.bl true) ((b σ).turn fun σ => whNP c b n σ) (.nx σ) = _
    rw [h2]
    rfl
  rw [whLP_of (n := n + 1) (by rw [e]; exact hn), e, ← h3, whLP_of hn]
theorem wh_go {Φ : Str → List Dv → Rv Dv} {c : Ex} {b : Sm} {σ σ' : Ev} {o : Op} (h1 : evP Φ c σ = .ok (.bl true)) (h2 : runP Φ b σ = .nx σ') (h3 : whP Φ c b σ' = o) (hb : o ≠ .bad) : whP Φ c b σ = o := whLP_go h1 h2 h3 hb
theorem wh_end {Φ : Str → List Dv → Rv Dv} {c : Ex} {b : Sm} {σ : Ev} (h1 : evP Φ c σ = .ok (.bl false)) : whP Φ c b σ = .nx σ := by
  unfold whP
  rw [whLP_of (n := 1)]
  · rw [whNP, h1]
    rfl
  · rw [whNP, h1]
    exact fun z => by cases z
/-- a while, by what holds at each turn and what grows less -/
theorem wh_inv {Φ : Str → List Dv → Rv Dv} {c : Ex} {b : Sm} (I : Nat → Ev → Prop) (E : Ev → Prop) (step : ∀ n σ, I n σ → (evP Φ c σ = .ok (.bl false) ∧ E σ) ∨ (evP Φ c σ = .ok (.bl true) ∧ ∃ m σ', m < n ∧ runP Φ b σ = .nx σ' ∧ I m σ')) : ∀ (n : Nat) (σ : Ev), I n σ → ∃ σ', whP Φ c b σ = .nx σ' ∧ E σ' := by
  intro n
  induction n using Nat.strongRecOn with
  | ind n ih =>
    intro σ h
    rcases step n σ h with ⟨h1, h2⟩ | ⟨h1, m, σ', hm, h2, h3⟩
    · exact ⟨σ, wh_end h1, h2⟩
    · obtain ⟨σ2, h4, h5⟩ := ih m hm σ' h3
      exact ⟨σ2, wh_go h1 h2 h4 (fun z => by cases z), h5⟩
/-! places -/
section
variable {xs : List Dv}
theorem at_0 {a : Dv} : L2.atI (a :: xs) 0 = some a := by
  unfold L2.atI L2.ixN
  simp
theorem at_nat {α : Type} {xs : List α} {k : Nat} (h : k < xs.length) : L2.atI xs (k : Int) = xs[k]? := by
  unfold L2.atI L2.ixN
  rw [if_pos (by omega), if_pos (by omega)]
  rfl
theorem at_1 {a b : Dv} : L2.atI (a :: b :: xs) 1 = some b := (at_nat (k := 1) (by simp)).trans rfl
theorem at_2 {a b c : Dv} : L2.atI (a :: b :: c :: xs) 2 = some c := (at_nat (k := 2) (by simp)).trans rfl
theorem at_3 {a b c d : Dv} : L2.atI (a :: b :: c :: d :: xs) 3 = some d := (at_nat (k := 3) (by simp)).trans rfl
theorem at_m1 {a : Dv} : L2.atI (xs ++ [a]) (-1) = some a := by
  unfold L2.atI L2.ixN
  rw [if_neg (by decide), if_pos (by simp; omega)]
  have e : (-1 + ((xs ++ [a]).length : Int)).toNat = xs.length := by simp; omega
  show (xs ++ [a])[(-1 + ((xs ++ [a]).length : Int)).toNat]? = _
  rw [e]
  simp
theorem at_m2 {a b : Dv} : L2.atI (xs ++ [a, b]) (-2) = some a := by
  unfold L2.atI L2.ixN
  rw [if_neg (by decide), if_pos (by simp; omega)]
  have e : (-2 + ((xs ++ [a, b]).length : Int)).toNat = xs.length := by simp; omega
  show (xs ++ [a, b])[(-2 + ((xs ++ [a, b]).length : Int)).toNat]? = _
  rw [e]
  simp
theorem at_app {pre r : List Dv} {d : Dv} {k : Int} (h : k = pre.length) : L2.atI (pre ++ d :: r) k = some d := by
  subst h
  rw [at_nat (by simp), List.getElem?_append_right (Nat.le_refl _), Nat.sub_self]
  rfl
/-- a place of a row of things of one kind -/
theorem at_map {α : Type} {f : α → Dv} {ys : List α} {k : Nat} {y : α} (h : ys[k]? = some y) : L2.atI (ys.map f) (k : Int) = some (f y) := by
  have hk : k < ys.length := by
    by_cases hk : k < ys.length
    · exact hk
    · rw [List.getElem?_eq_none (by omega)] at h
      cases h
  rw [at_nat (by rw [List.length_map]; exact hk), List.getElem?_map, h]
  rfl
end
end FP

namespace Q
open PySem PySem.Spec PyProof.Rows L2 MP FP
/- is_whole: 0:thing -/
def F_is_whole : Fd := ⟨1, 1,
  (.seq (.ret (.and (.isi (.v 0) .int) (.not (.isi (.v 0) .bool))))
  .pass)⟩
/- divisor: 0:one 1:other 2:rest -/
def C_divisor_1 : Ex := (.cmp .gt (.v 1) (.int 0))
theorem VC_divisor_1 {Φ : Str → List Dv → Rv Dv} {σ : Ev} : evP Φ C_divisor_1 σ = evP Φ (.cmp .gt (.v 1) (.int 0)) σ := rfl
def B_divisor_1 : Sm := (.seq (.set 2 (.bin .mod (.v 0) (.v 1)))
  (.seq (.set 0 (.v 1))
  (.seq (.set 1 (.v 2))
  .pass)))
theorem VB_divisor_1 {Φ : Str → List Dv → Rv Dv} {σ : Ev} : runP Φ B_divisor_1 σ = runP Φ (.seq (.set 2 (.bin .mod (.v 0) (.v 1)))
  (.seq (.set 0 (.v 1))
  (.seq (.set 1 (.v 2))
  .pass))) σ := rfl
def F_divisor : Fd := ⟨2, 3,
  (.seq (.set 0 (.bi .abs (.cons (.v 0) .nil)))
  (.seq (.set 1 (.bi .abs (.cons (.v 1) .nil)))
  (.seq (.wh C_divisor_1 B_divisor_1)
  (.seq (.ret (.v 0))
  .pass))))⟩
/- ratio: 0:top 1:bottom 2:many -/
def F_ratio : Fd := ⟨2, 3,
  (.seq (.ite (.or (.not (.call "is_whole" (.cons (.v 0) .nil))) (.or (.not (.call "is_whole" (.cons (.v 1) .nil))) (.cmp .eq (.v 1) (.int 0))))
    (.seq (.raise "NoRatio")
    .pass)
    .pass)
  (.seq (.ite (.cmp .eq (.v 1) (.int 1))
    (.seq (.ret (.tup (.cons (.v 0) (.cons (.int 1) .nil))))
    .pass)
    .pass)
  (.seq (.set 2 (.call "divisor" (.cons (.v 0) (.cons (.v 1) .nil))))
  (.seq (.ite (.cmp .lt (.v 1) (.int 0))
    (.seq (.set 2 (.neg (.v 2)))
    .pass)
    .pass)
  (.seq (.ret (.tup (.cons (.bin .fdiv (.v 0) (.v 2)) (.cons (.bin .fdiv (.v 1) (.v 2)) .nil))))
  .pass)))))⟩
/- minus: 0:one 1:other -/
def F_minus : Fd := ⟨2, 2,
  (.seq (.ite (.cmp .eq (.ix (.v 0) (.int 1)) (.ix (.v 1) (.int 1)))
    (.seq (.ret (.call "ratio" (.cons (.bin .sub (.ix (.v 0) (.int 0)) (.ix (.v 1) (.int 0))) (.cons (.ix (.v 0) (.int 1)) .nil))))
    .pass)
    .pass)
  (.seq (.ret (.call "ratio" (.cons (.bin .sub (.bin .mul (.ix (.v 0) (.int 0)) (.ix (.v 1) (.int 1))) (.bin .mul (.ix (.v 1) (.int 0)) (.ix (.v 0) (.int 1)))) (.cons (.bin .mul (.ix (.v 0) (.int 1)) (.ix (.v 1) (.int 1))) .nil))))
  .pass))⟩
/- over: 0:one 1:other -/
def F_over : Fd := ⟨2, 2,
  (.seq (.ite (.cmp .eq (.ix (.v 1) (.int 0)) (.int 0))
    (.seq (.raise "NoRatio")
    .pass)
    .pass)
  (.seq (.ret (.call "ratio" (.cons (.bin .mul (.ix (.v 0) (.int 0)) (.ix (.v 1) (.int 1))) (.cons (.bin .mul (.ix (.v 0) (.int 1)) (.ix (.v 1) (.int 0))) .nil))))
  .pass))⟩
/- under: 0:one 1:other -/
def F_under : Fd := ⟨2, 2,
  (.seq (.ret (.cmp .lt (.bin .mul (.ix (.v 0) (.int 0)) (.ix (.v 1) (.int 1))) (.bin .mul (.ix (.v 1) (.int 0)) (.ix (.v 0) (.int 1)))))
  .pass)⟩
/- slope_between: 0:one 1:other -/
def F_slope_between : Fd := ⟨2, 2,
  (.seq (.ret (.call "over" (.cons (.call "minus" (.cons (.ix (.v 1) (.int 1)) (.cons (.ix (.v 0) (.int 1)) .nil))) (.cons (.call "minus" (.cons (.ix (.v 1) (.int 0)) (.cons (.ix (.v 0) (.int 0)) .nil))) .nil))))
  .pass)⟩
/- slopes_of: 0:corners 1:last 2:slopes 3:k -/
def B_slopes_of_1 : Sm := (.seq (.ex (.me .append (.v 2) (.cons (.call "slope_between" (.cons (.ix (.v 0) (.bin .sub (.v 3) (.int 1))) (.cons (.ix (.v 0) (.v 3)) .nil))) .nil)))
  .pass)
theorem VB_slopes_of_1 {Φ : Str → List Dv → Rv Dv} {σ : Ev} : runP Φ B_slopes_of_1 σ = runP Φ (.seq (.ex (.me .append (.v 2) (.cons (.call "slope_between" (.cons (.ix (.v 0) (.bin .sub (.v 3) (.int 1))) (.cons (.ix (.v 0) (.v 3)) .nil))) .nil)))
  .pass) σ := rfl
def F_slopes_of : Fd := ⟨2, 4,
  (.seq (.set 2 (.lst .nil))
  (.seq (.for_ 3 (.rng (.cons (.int 1) (.cons (.bi .len (.cons (.v 0) .nil)) .nil))) B_slopes_of_1)
  (.seq (.ex (.me .append (.v 2) (.cons (.v 1) .nil)))
  (.seq (.ret (.v 2))
  .pass))))⟩
/- folded: 0:corners 1:last 2:slopes 3:kept 4:k -/
def B_folded_1 : Sm := (.seq (.ite (.cmp .ne (.ix (.v 2) (.bin .sub (.v 4) (.int 1))) (.ix (.v 2) (.v 4)))
    (.seq (.ex (.me .append (.v 3) (.cons (.ix (.v 0) (.v 4)) .nil)))
    .pass)
    .pass)
  .pass)
theorem VB_folded_1 {Φ : Str → List Dv → Rv Dv} {σ : Ev} : runP Φ B_folded_1 σ = runP Φ (.seq (.ite (.cmp .ne (.ix (.v 2) (.bin .sub (.v 4) (.int 1))) (.ix (.v 2) (.v 4)))
    (.seq (.ex (.me .append (.v 3) (.cons (.ix (.v 0) (.v 4)) .nil)))
    .pass)
    .pass)
  .pass) σ := rfl
def F_folded : Fd := ⟨2, 5,
  (.seq (.set 2 (.call "slopes_of" (.cons (.v 0) (.cons (.v 1) .nil))))
  (.seq (.set 3 (.lst (.cons (.ix (.v 0) (.int 0)) .nil)))
  (.seq (.for_ 4 (.rng (.cons (.int 1) (.cons (.bi .len (.cons (.v 0) .nil)) .nil))) B_folded_1)
  (.seq (.ret (.v 3))
  .pass))))⟩
/- made: 0:corners 1:last -/
def F_made : Fd := ⟨2, 2,
  (.seq (.ret (.tup (.cons (.bi .tuple (.cons (.call "folded" (.cons (.v 0) (.cons (.v 1) .nil))) .nil)) (.cons (.v 1) .nil))))
  .pass)⟩
/- curve: 0:corners 1:last 2:k -/
def B_curve_1 : Sm := (.seq (.ite (.not (.call "under" (.cons (.ix (.ix (.v 0) (.bin .sub (.v 2) (.int 1))) (.int 0)) (.cons (.ix (.ix (.v 0) (.v 2)) (.int 0)) .nil))))
    (.seq (.raise "NoCurve")
    .pass)
    .pass)
  (.seq (.ite (.call "under" (.cons (.ix (.ix (.v 0) (.v 2)) (.int 1)) (.cons (.ix (.ix (.v 0) (.bin .sub (.v 2) (.int 1))) (.int 1)) .nil)))
    (.seq (.raise "NoCurve")
    .pass)
    .pass)
  .pass))
theorem VB_curve_1 {Φ : Str → List Dv → Rv Dv} {σ : Ev} : runP Φ B_curve_1 σ = runP Φ (.seq (.ite (.not (.call "under" (.cons (.ix (.ix (.v 0) (.bin .sub (.v 2) (.int 1))) (.int 0)) (.cons (.ix (.ix (.v 0) (.v 2)) (.int 0)) .nil))))
    (.seq (.raise "NoCurve")
    .pass)
    .pass)
  (.seq (.ite (.call "under" (.cons (.ix (.ix (.v 0) (.v 2)) (.int 1)) (.cons (.ix (.ix (.v 0) (.bin .sub (.v 2) (.int 1))) (.int 1)) .nil)))
    (.seq (.raise "NoCurve")
    .pass)
    .pass)
  .pass)) σ := rfl
def F_curve : Fd := ⟨2, 3,
  (.seq (.ite (.or (.cmp .eq (.bi .len (.cons (.v 0) .nil)) (.int 0)) (.call "under" (.cons (.v 1) (.cons (.k "NOUGHT" (.tup (.cons (.int 0) (.cons (.int 1) .nil)))) .nil))))
    (.seq (.raise "NoCurve")
    .pass)
    .pass)
  (.seq (.ite (.or (.cmp .ne (.ix (.ix (.v 0) (.int 0)) (.int 0)) (.k "NOUGHT" (.tup (.cons (.int 0) (.cons (.int 1) .nil))))) (.call "under" (.cons (.ix (.ix (.v 0) (.int 0)) (.int 1)) (.cons (.k "NOUGHT" (.tup (.cons (.int 0) (.cons (.int 1) .nil)))) .nil))))
    (.seq (.raise "NoCurve")
    .pass)
    .pass)
  (.seq (.for_ 2 (.rng (.cons (.int 1) (.cons (.bi .len (.cons (.v 0) .nil)) .nil))) B_curve_1)
  (.seq (.ret (.call "made" (.cons (.v 0) (.cons (.v 1) .nil))))
  .pass))))⟩
/- read_figures: 0:text 1:sign -/
def B_read_figures_1 : Sm := (.seq (.ite (.cmp .nin (.v 1) (.k "FIGURES" (.str "0123456789")))
    (.seq (.raise "NoText")
    .pass)
    .pass)
  .pass)
theorem VB_read_figures_1 {Φ : Str → List Dv → Rv Dv} {σ : Ev} : runP Φ B_read_figures_1 σ = runP Φ (.seq (.ite (.cmp .nin (.v 1) (.k "FIGURES" (.str "0123456789")))
    (.seq (.raise "NoText")
    .pass)
    .pass)
  .pass) σ := rfl
def F_read_figures : Fd := ⟨1, 2,
  (.seq (.ite (.or (.cmp .eq (.v 0) (.str "")) (.cmp .gt (.bi .len (.cons (.v 0) .nil)) (.k "MOST_FIGURES" (.int 60))))
    (.seq (.raise "NoText")
    .pass)
    .pass)
  (.seq (.for_ 1 (.v 0) B_read_figures_1)
  (.seq (.ite (.and (.cmp .eq (.ix (.v 0) (.int 0)) (.str "0")) (.cmp .ne (.v 0) (.str "0")))
    (.seq (.raise "NoText")
    .pass)
    .pass)
  (.seq (.ret (.bi .int (.cons (.v 0) .nil)))
  .pass))))⟩
/- read_ratio: 0:text 1:parts 2:top 3:bottom -/
def F_read_ratio : Fd := ⟨1, 4,
  (.seq (.ite (.not (.isi (.v 0) .str))
    (.seq (.raise "NoText")
    .pass)
    .pass)
  (.seq (.set 1 (.tm .partition (.v 0) (.cons (.str "/") .nil)))
  (.seq (.set 2 (.call "read_figures" (.cons (.ix (.v 1) (.int 0)) .nil)))
  (.seq (.ite (.cmp .eq (.ix (.v 1) (.int 1)) (.str ""))
    (.seq (.ret (.call "ratio" (.cons (.v 2) (.cons (.int 1) .nil))))
    .pass)
    .pass)
  (.seq (.set 3 (.call "read_figures" (.cons (.ix (.v 1) (.int 2)) .nil)))
  (.seq (.ite (.or (.cmp .lt (.v 3) (.int 2)) (.cmp .ne (.call "divisor" (.cons (.v 2) (.cons (.v 3) .nil))) (.int 1)))
    (.seq (.raise "NoText")
    .pass)
    .pass)
  (.seq (.ret (.call "ratio" (.cons (.v 2) (.cons (.v 3) .nil))))
  .pass)))))))⟩
/- read_corner: 0:word 1:parts -/
def F_read_corner : Fd := ⟨1, 2,
  (.seq (.set 1 (.tm .partition (.v 0) (.cons (.str ":") .nil)))
  (.seq (.ret (.tup (.cons (.call "read_ratio" (.cons (.ix (.v 1) (.int 0)) .nil)) (.cons (.call "read_ratio" (.cons (.ix (.v 1) (.int 2)) .nil)) .nil))))
  .pass))⟩
/- read_curve: 0:text 1:words 2:word 3:corners 4:last 5:found -/
def C_read_curve_1 : Ex := (.bl true)
theorem VC_read_curve_1 {Φ : Str → List Dv → Rv Dv} {σ : Ev} : evP Φ C_read_curve_1 σ = evP Φ (.bl true) σ := rfl
def E_read_curve_1 : Ex := (.call "read_corner" (.cons (.v 2) .nil))
theorem VE_read_curve_1 {Φ : Str → List Dv → Rv Dv} {σ : Ev} : evP Φ E_read_curve_1 σ = evP Φ (.call "read_corner" (.cons (.v 2) .nil)) σ := rfl
def F_read_curve : Fd := ⟨1, 6,
  (.seq (.ite (.not (.isi (.v 0) .str))
    (.seq (.raise "NoText")
    .pass)
    .pass)
  (.seq (.set 1 (.tm .split (.v 0) (.cons (.str " ") .nil)))
  (.seq (.ite (.not (.tm .startswith (.ix (.v 1) (.neg (.int 1))) (.cons (.str "+") .nil)))
    (.seq (.raise "NoText")
    .pass)
    .pass)
  (.seq (.setlc 3 2 (.sl (.v 1) .absent (.neg (.int 1))) C_read_curve_1 E_read_curve_1)
  (.seq (.set 4 (.call "read_ratio" (.cons (.sl (.ix (.v 1) (.neg (.int 1))) (.int 1) .absent) .nil)))
  (.seq (.tryR (.seq (.set 5 (.call "curve" (.cons (.v 3) (.cons (.v 4) .nil))))
    .pass) "NoCurve" "NoText")
  (.seq (.ret (.v 5))
  .pass)))))))⟩
/- _law_cell_at: 0:_law_script 1:_law_k -/
def F__law_cell_at : Fd := ⟨2, 2,
  (.seq (.ite (.cmp .lt (.v 1) (.bi .len (.cons (.v 0) .nil)))
    (.seq (.ret (.ix (.v 0) (.v 1)))
    .pass)
    .pass)
  (.seq (.ret (.bin .add (.bin .mul (.int 7) (.v 1)) (.int 3)))
  .pass))⟩
/- _law_lowest: 0:_law_top 1:_law_bottom 2:_law_one 3:_law_other 4:_law_rest -/
def C__law_lowest_1 : Ex := (.cmp .gt (.v 3) (.int 0))
theorem VC__law_lowest_1 {Φ : Str → List Dv → Rv Dv} {σ : Ev} : evP Φ C__law_lowest_1 σ = evP Φ (.cmp .gt (.v 3) (.int 0)) σ := rfl
def B__law_lowest_1 : Sm := (.seq (.set 4 (.bin .mod (.v 2) (.v 3)))
  (.seq (.set 2 (.v 3))
  (.seq (.set 3 (.v 4))
  .pass)))
theorem VB__law_lowest_1 {Φ : Str → List Dv → Rv Dv} {σ : Ev} : runP Φ B__law_lowest_1 σ = runP Φ (.seq (.set 4 (.bin .mod (.v 2) (.v 3)))
  (.seq (.set 2 (.v 3))
  (.seq (.set 3 (.v 4))
  .pass))) σ := rfl
def F__law_lowest : Fd := ⟨2, 5,
  (.seq (.set 2 (.bi .abs (.cons (.v 0) .nil)))
  (.seq (.set 3 (.v 1))
  (.seq (.wh C__law_lowest_1 B__law_lowest_1)
  (.seq (.ret (.tup (.cons (.bin .fdiv (.v 0) (.v 2)) (.cons (.bin .fdiv (.v 1) (.v 2)) .nil))))
  .pass))))⟩
/- _law_shown: 0:_law_one -/
def F__law_shown : Fd := ⟨1, 1,
  (.seq (.ite (.cmp .eq (.ix (.v 0) (.int 1)) (.int 1))
    (.seq (.ret (.bi .str (.cons (.ix (.v 0) (.int 0)) .nil)))
    .pass)
    .pass)
  (.seq (.ret (.bin .add (.bin .add (.bi .str (.cons (.ix (.v 0) (.int 0)) .nil)) (.str "/")) (.bi .str (.cons (.ix (.v 0) (.int 1)) .nil))))
  .pass))⟩
/- _law_shown_corners: 0:_law_corners 1:_law_last 2:_law_corner 3:_law_words -/
def C__law_shown_corners_1 : Ex := (.bl true)
theorem VC__law_shown_corners_1 {Φ : Str → List Dv → Rv Dv} {σ : Ev} : evP Φ C__law_shown_corners_1 σ = evP Φ (.bl true) σ := rfl
def E__law_shown_corners_1 : Ex := (.bin .add (.bin .add (.call "_law_shown" (.cons (.ix (.v 2) (.int 0)) .nil)) (.str ":")) (.call "_law_shown" (.cons (.ix (.v 2) (.int 1)) .nil)))
theorem VE__law_shown_corners_1 {Φ : Str → List Dv → Rv Dv} {σ : Ev} : evP Φ E__law_shown_corners_1 σ = evP Φ (.bin .add (.bin .add (.call "_law_shown" (.cons (.ix (.v 2) (.int 0)) .nil)) (.str ":")) (.call "_law_shown" (.cons (.ix (.v 2) (.int 1)) .nil))) σ := rfl
def F__law_shown_corners : Fd := ⟨2, 4,
  (.seq (.set 3 (.lc 2 (.v 0) C__law_shown_corners_1 E__law_shown_corners_1))
  (.seq (.ret (.tm .join (.str " ") (.cons (.bin .add (.v 3) (.lst (.cons (.bin .add (.str "+") (.call "_law_shown" (.cons (.v 1) .nil))) .nil))) .nil)))
  .pass))⟩
/- _law_curve_by: 0:_law_script 1:_law_low 2:_law_high 3:_law_at 4:_law_value 5:_law_corners 6:_law_k 7:_law_cell 8:_law_gap 9:_law_rise -/
def B__law_curve_by_1 : Sm := (.seq (.set 7 (.call "_law_cell_at" (.cons (.v 0) (.cons (.bin .add (.int 8) (.v 6)) .nil))))
  (.seq (.set 8 (.bin .add (.int 1) (.bin .mod (.v 7) (.int 12))))
  (.seq (.ite (.cmp .eq (.bin .mod (.v 7) (.int 5)) (.int 3))
    (.seq (.set 8 (.bin .add (.int 1) (.bin .mod (.bin .fdiv (.v 7) (.int 5)) (.bin .pow (.int 10) (.int 12)))))
    .pass)
    .pass)
  (.seq (.set 9 (.bin .add (.bin .add (.int 1) (.bin .mul (.int 13) (.v 6))) (.bin .mod (.bin .fdiv (.v 7) (.int 12)) (.int 12))))
  (.seq (.set 3 (.bin .add (.v 3) (.v 8)))
  (.seq (.set 4 (.bin .add (.v 4) (.bin .mul (.v 9) (.v 8))))
  (.seq (.ex (.me .append (.v 5) (.cons (.tup (.cons (.call "_law_lowest" (.cons (.v 3) (.cons (.v 1) .nil))) (.cons (.call "_law_lowest" (.cons (.v 4) (.cons (.v 2) .nil))) .nil))) .nil)))
  .pass)))))))
theorem VB__law_curve_by_1 {Φ : Str → List Dv → Rv Dv} {σ : Ev} : runP Φ B__law_curve_by_1 σ = runP Φ (.seq (.set 7 (.call "_law_cell_at" (.cons (.v 0) (.cons (.bin .add (.int 8) (.v 6)) .nil))))
  (.seq (.set 8 (.bin .add (.int 1) (.bin .mod (.v 7) (.int 12))))
  (.seq (.ite (.cmp .eq (.bin .mod (.v 7) (.int 5)) (.int 3))
    (.seq (.set 8 (.bin .add (.int 1) (.bin .mod (.bin .fdiv (.v 7) (.int 5)) (.bin .pow (.int 10) (.int 12)))))
    .pass)
    .pass)
  (.seq (.set 9 (.bin .add (.bin .add (.int 1) (.bin .mul (.int 13) (.v 6))) (.bin .mod (.bin .fdiv (.v 7) (.int 12)) (.int 12))))
  (.seq (.set 3 (.bin .add (.v 3) (.v 8)))
  (.seq (.set 4 (.bin .add (.v 4) (.bin .mul (.v 9) (.v 8))))
  (.seq (.ex (.me .append (.v 5) (.cons (.tup (.cons (.call "_law_lowest" (.cons (.v 3) (.cons (.v 1) .nil))) (.cons (.call "_law_lowest" (.cons (.v 4) (.cons (.v 2) .nil))) .nil))) .nil)))
  .pass))))))) σ := rfl
def F__law_curve_by : Fd := ⟨1, 10,
  (.seq (.set 1 (.bin .add (.int 1) (.bin .mod (.call "_law_cell_at" (.cons (.v 0) (.cons (.int 1) .nil))) (.int 12))))
  (.seq (.set 2 (.bin .add (.int 1) (.bin .mod (.call "_law_cell_at" (.cons (.v 0) (.cons (.int 2) .nil))) (.int 12))))
  (.seq (.set 3 (.int 0))
  (.seq (.set 4 (.bin .mod (.call "_law_cell_at" (.cons (.v 0) (.cons (.int 3) .nil))) (.int 5)))
  (.seq (.set 5 (.lst (.cons (.tup (.cons (.tup (.cons (.int 0) (.cons (.int 1) .nil))) (.cons (.call "_law_lowest" (.cons (.v 4) (.cons (.v 2) .nil))) .nil))) .nil)))
  (.seq (.for_ 6 (.rng (.cons (.bin .mod (.bin .fdiv (.call "_law_cell_at" (.cons (.v 0) (.cons (.int 4) .nil))) (.int 3)) (.int 4)) .nil)) B__law_curve_by_1)
  (.seq (.ite (.cmp .eq (.bin .mod (.call "_law_cell_at" (.cons (.v 0) (.cons (.int 4) .nil))) (.int 3)) (.int 0))
    (.seq (.ret (.tup (.cons (.v 5) (.cons (.tup (.cons (.int 0) (.cons (.int 1) .nil))) .nil))))
    .pass)
    .pass)
  (.seq (.ret (.tup (.cons (.v 5) (.cons (.call "_law_lowest" (.cons (.bin .mul (.bin .add (.int 100) (.bin .mod (.call "_law_cell_at" (.cons (.v 0) (.cons (.int 6) .nil))) (.bin .pow (.int 10) (.int 12)))) (.v 1)) (.cons (.v 2) .nil))) .nil))))
  .pass))))))))⟩
/- _law_more: 0:_law_one -/
def F__law_more : Fd := ⟨1, 1,
  (.seq (.ret (.tup (.cons (.bin .add (.ix (.v 0) (.int 0)) (.ix (.v 0) (.int 1))) (.cons (.ix (.v 0) (.int 1)) .nil))))
  .pass)⟩
/- _law_corners_spoiled: 0:_law_corners 1:_law_way 2:_law_place 3:_law_at 4:_law_begin 5:_law_row 6:_law_later 7:_law_here 8:_law_there -/
def C__law_corners_spoiled_1 : Ex := (.bl true)
theorem VC__law_corners_spoiled_1 {Φ : Str → List Dv → Rv Dv} {σ : Ev} : evP Φ C__law_corners_spoiled_1 σ = evP Φ (.bl true) σ := rfl
def E__law_corners_spoiled_1 : Ex := (.tup (.cons (.call "_law_more" (.cons (.ix (.v 5) (.int 0)) .nil)) (.cons (.ix (.v 5) (.int 1)) .nil)))
theorem VE__law_corners_spoiled_1 {Φ : Str → List Dv → Rv Dv} {σ : Ev} : evP Φ E__law_corners_spoiled_1 σ = evP Φ (.tup (.cons (.call "_law_more" (.cons (.ix (.v 5) (.int 0)) .nil)) (.cons (.ix (.v 5) (.int 1)) .nil))) σ := rfl
def C__law_corners_spoiled_2 : Ex := (.bl true)
theorem VC__law_corners_spoiled_2 {Φ : Str → List Dv → Rv Dv} {σ : Ev} : evP Φ C__law_corners_spoiled_2 σ = evP Φ (.bl true) σ := rfl
def E__law_corners_spoiled_2 : Ex := (.tup (.cons (.call "_law_more" (.cons (.ix (.v 5) (.int 0)) .nil)) (.cons (.ix (.v 5) (.int 1)) .nil)))
theorem VE__law_corners_spoiled_2 {Φ : Str → List Dv → Rv Dv} {σ : Ev} : evP Φ E__law_corners_spoiled_2 σ = evP Φ (.tup (.cons (.call "_law_more" (.cons (.ix (.v 5) (.int 0)) .nil)) (.cons (.ix (.v 5) (.int 1)) .nil))) σ := rfl
def F__law_corners_spoiled : Fd := ⟨3, 9,
  (.seq (.set 3 (.bin .mod (.v 2) (.bi .len (.cons (.v 0) .nil))))
  (.seq (.ite (.cmp .eq (.v 1) (.int 3))
    (.seq (.set 4 (.tup (.cons (.tup (.cons (.int 1) (.cons (.bin .add (.int 1) (.bin .mod (.v 2) (.int 1000))) .nil))) (.cons (.ix (.ix (.v 0) (.int 0)) (.int 1)) .nil))))
    (.seq (.ret (.bin .add (.lst (.cons (.v 4) .nil)) (.lc 5 (.sl (.v 0) (.int 1) .absent) C__law_corners_spoiled_1 E__law_corners_spoiled_1)))
    .pass))
    .pass)
  (.seq (.ite (.and (.cmp .eq (.v 1) (.int 4)) (.and (.cmp .eq (.bin .mod (.bin .fdiv (.v 2) (.int 11)) (.int 2)) (.int 1)) (.cmp .lt (.bin .add (.v 3) (.int 1)) (.bi .len (.cons (.v 0) .nil)))))
    (.seq (.ret (.bin .add (.bin .add (.sl (.v 0) .absent (.v 3)) (.lst (.cons (.ix (.v 0) (.bin .add (.v 3) (.int 1))) (.cons (.ix (.v 0) (.v 3)) .nil)))) (.sl (.v 0) (.bin .add (.v 3) (.int 2)) .absent)))
    .pass)
    .pass)
  (.seq (.ite (.cmp .eq (.v 1) (.int 4))
    (.seq (.ret (.bin .add (.sl (.v 0) .absent (.bin .add (.v 3) (.int 1))) (.sl (.v 0) (.v 3) .absent)))
    .pass)
    .pass)
  (.seq (.set 6 (.lc 5 (.sl (.v 0) (.bin .add (.v 3) (.int 1)) .absent) C__law_corners_spoiled_2 E__law_corners_spoiled_2))
  (.seq (.set 7 (.tup (.cons (.ix (.ix (.v 0) (.v 3)) (.int 0)) (.cons (.call "_law_more" (.cons (.ix (.ix (.v 0) (.v 3)) (.int 1)) .nil)) .nil))))
  (.seq (.set 8 (.tup (.cons (.tup (.cons (.bin .add (.bin .mul (.int 2) (.ix (.ix (.ix (.v 0) (.v 3)) (.int 0)) (.int 0))) (.int 1)) (.cons (.bin .mul (.int 2) (.ix (.ix (.ix (.v 0) (.v 3)) (.int 0)) (.int 1))) .nil))) (.cons (.ix (.ix (.v 0) (.v 3)) (.int 1)) .nil))))
  (.seq (.ret (.bin .add (.bin .add (.sl (.v 0) .absent (.v 3)) (.lst (.cons (.v 7) (.cons (.tup (.cons (.call "_law_lowest" (.cons (.ix (.ix (.v 8) (.int 0)) (.int 0)) (.cons (.ix (.ix (.v 8) (.int 0)) (.int 1)) .nil))) (.cons (.ix (.v 8) (.int 1)) .nil))) .nil)))) (.v 6)))
  .pass))))))))⟩
/- _law_text_spoiled: 0:_law_words 1:_law_way 2:_law_place 3:_law_sign 4:_law_text 5:_law_at 6:_law_word 7:_law_odd 8:_law_some -/
def F__law_text_spoiled : Fd := ⟨4, 9,
  (.seq (.set 4 (.tm .join (.str " ") (.cons (.v 0) .nil)))
  (.seq (.set 5 (.bin .mod (.v 2) (.bi .len (.cons (.v 0) .nil))))
  (.seq (.set 6 (.ix (.v 0) (.v 5)))
  (.seq (.set 7 (.lst (.cons (.str "2/4") (.cons (.str "6/3") (.cons (.str "5/1") (.cons (.str "0/2") (.cons (.str "00") (.cons (.str "07") (.cons (.str "3/06") (.cons (.str "3/0") (.cons (.str "") (.cons (.str "/2") (.cons (.str "3/") .nil)))))))))))))
  (.seq (.set 7 (.ix (.bin .add (.v 7) (.lst (.cons (.bi .str (.cons (.bin .pow (.int 10) (.int 60)) .nil)) (.cons (.str "+3") (.cons (.str "+0") .nil))))) (.bin .mod (.v 3) (.int 14))))
  (.seq (.ite (.cmp .eq (.v 1) (.int 0))
    (.seq (.set 5 (.bin .mod (.v 2) (.bin .add (.bi .len (.cons (.v 0) .nil)) (.int 1))))
    (.seq (.ret (.tm .join (.str " ") (.cons (.bin .add (.bin .add (.sl (.v 0) .absent (.v 5)) (.lst (.cons (.str "") .nil))) (.sl (.v 0) (.v 5) .absent)) .nil)))
    .pass))
    .pass)
  (.seq (.ite (.cmp .eq (.v 1) (.int 1))
    (.seq (.ret (.tm .join (.str " ") (.cons (.bin .add (.sl (.v 0) .absent (.neg (.int 1))) (.lst (.cons (.sl (.ix (.v 0) (.neg (.int 1))) (.int 1) .absent) .nil))) .nil)))
    .pass)
    .pass)
  (.seq (.ite (.cmp .eq (.v 1) (.int 2))
    (.seq (.ret (.ix (.v 0) (.neg (.int 1))))
    .pass)
    .pass)
  (.seq (.ite (.cmp .eq (.v 1) (.int 6))
    (.seq (.set 8 (.str "!\"#$&'()*,-.;<=>?@ABCDEFGHIJKLMNOPQRSTUVWXYZ[\\]^_`abcdefghijklmnopqrstuvwxyz{|}~\n\t"))
    (.seq (.set 5 (.bin .mod (.v 2) (.bin .add (.bi .len (.cons (.v 4) .nil)) (.int 1))))
    (.seq (.ret (.bin .add (.bin .add (.sl (.v 4) .absent (.v 5)) (.ix (.v 8) (.bin .mod (.v 3) (.bi .len (.cons (.v 8) .nil))))) (.sl (.v 4) (.v 5) .absent)))
    .pass)))
    .pass)
  (.seq (.ite (.cmp .eq (.v 1) (.int 7))
    (.seq (.ret (.tm .join (.str " ") (.cons (.bin .add (.bin .add (.sl (.v 0) .absent (.v 5)) (.lst (.cons (.bin .add (.str "3") (.tm .replace (.v 6) (.cons (.str ":") (.cons (.str "") .nil)))) .nil))) (.sl (.v 0) (.v 5) .absent)) .nil)))
    .pass)
    .pass)
  (.seq (.ite (.cmp .eq (.v 1) (.int 8))
    (.seq (.ret (.tm .join (.str " ") (.cons (.bin .add (.bin .add (.sl (.v 0) .absent (.v 5)) (.lst (.cons (.bin .add (.bin .add (.v 6) (.str ":")) (.bi .str (.cons (.bin .mod (.v 2) (.int 7)) .nil))) .nil))) (.sl (.v 0) (.bin .add (.v 5) (.int 1)) .absent)) .nil)))
    .pass)
    .pass)
  (.seq (.ite (.or (.cmp .eq (.v 1) (.int 9)) (.and (.cmp .eq (.v 1) (.int 10)) (.cmp .eq (.bin .add (.v 5) (.int 1)) (.bi .len (.cons (.v 0) .nil)))))
    (.seq (.ret (.tm .join (.str " ") (.cons (.bin .add (.sl (.v 0) .absent (.neg (.int 1))) (.lst (.cons (.bin .add (.str "+") (.v 7)) .nil))) .nil)))
    .pass)
    .pass)
  (.seq (.ite (.and (.cmp .eq (.v 1) (.int 10)) (.cmp .eq (.bin .mod (.bin .fdiv (.v 3) (.int 14)) (.int 2)) (.int 1)))
    (.seq (.set 6 (.bin .add (.bin .add (.v 7) (.str ":")) (.ix (.tm .partition (.v 6) (.cons (.str ":") .nil)) (.int 2))))
    (.seq (.ret (.tm .join (.str " ") (.cons (.bin .add (.bin .add (.sl (.v 0) .absent (.v 5)) (.lst (.cons (.v 6) .nil))) (.sl (.v 0) (.bin .add (.v 5) (.int 1)) .absent)) .nil)))
    .pass))
    .pass)
  (.seq (.ite (.cmp .eq (.v 1) (.int 10))
    (.seq (.set 6 (.bin .add (.bin .add (.ix (.tm .partition (.v 6) (.cons (.str ":") .nil)) (.int 0)) (.str ":")) (.v 7)))
    (.seq (.ret (.tm .join (.str " ") (.cons (.bin .add (.bin .add (.sl (.v 0) .absent (.v 5)) (.lst (.cons (.v 6) .nil))) (.sl (.v 0) (.bin .add (.v 5) (.int 1)) .absent)) .nil)))
    .pass))
    .pass)
  (.seq (.ret (.ix (.lst (.cons .non (.cons (.int 7) (.cons (.bl true) (.cons (.v 0) (.cons (.bi .tuple (.cons (.v 0) .nil)) .nil)))))) (.bin .mod (.v 3) (.int 5))))
  .pass)))))))))))))))⟩
/- _law_refused: 0:_law_text 1:e -/
def F__law_refused : Fd := ⟨1, 2,
  (.seq (.try_ (.seq (.ex (.call "read_curve" (.cons (.v 0) .nil)))
    .pass) "CurveError" (some 1)
    (.seq (.ite (.or (.ise 1 "NoCurve") (.or (.ise 1 "NoEnd") (.or (.ise 1 "NoHouse") (.ise 1 "NoName"))))
      (.seq (.ret (.bl false))
      .pass)
      .pass)
    (.seq (.ite (.or (.ise 1 "NoRatio") (.or (.ise 1 "NoRow") (.or (.ise 1 "NoTime") (.ise 1 "NoWay"))))
      (.seq (.ret (.bl false))
      .pass)
      .pass)
    (.seq (.ret (.and (.ise 1 "NoText") (.ise 1 "ValueError")))
    .pass))))
  (.seq (.ret (.bl false))
  .pass))⟩
/- law: 0:_law_script 1:_law_way 2:_law_place 3:_law_drawn 4:_law_corners 5:_law_last 6:_law_text 7:_law_spoiled -/
def F_law : Fd := ⟨1, 8,
  (.seq (.set 1 (.bin .mod (.call "_law_cell_at" (.cons (.v 0) (.cons (.int 0) .nil))) (.int 12)))
  (.seq (.set 2 (.call "_law_cell_at" (.cons (.v 0) (.cons (.int 5) .nil))))
  (.seq (.set 3 (.call "_law_curve_by" (.cons (.v 0) .nil)))
  (.seq (.set 4 (.ix (.v 3) (.int 0)))
  (.seq (.set 5 (.ix (.v 3) (.int 1)))
  (.seq (.set 6 (.call "_law_shown_corners" (.cons (.v 4) (.cons (.v 5) .nil))))
  (.seq (.ite (.and (.cmp .le (.int 3) (.v 1)) (.cmp .lt (.v 1) (.int 6)))
    (.seq (.set 7 (.call "_law_shown_corners" (.cons (.call "_law_corners_spoiled" (.cons (.v 4) (.cons (.v 1) (.cons (.v 2) .nil)))) (.cons (.v 5) .nil))))
    .pass)
    (.seq (.set 7 (.call "_law_text_spoiled" (.cons (.tm .split (.v 6) (.cons (.str " ") .nil)) (.cons (.v 1) (.cons (.v 2) (.cons (.call "_law_cell_at" (.cons (.v 0) (.cons (.int 7) .nil))) .nil))))))
    .pass))
  (.seq (.ite (.not (.call "_law_refused" (.cons (.v 7) .nil)))
    (.seq (.ret (.bl false))
    .pass)
    .pass)
  (.seq (.ret (.cmp .eq (.call "read_curve" (.cons (.v 6) .nil)) (.tup (.cons (.bi .tuple (.cons (.v 4) .nil)) (.cons (.v 5) .nil)))))
  .pass)))))))))⟩
def tab0 : List (Str × Fd) := [("is_whole", F_is_whole), ("divisor", F_divisor), ("ratio", F_ratio), ("minus", F_minus), ("over", F_over), ("under", F_under), ("slope_between", F_slope_between), ("slopes_of", F_slopes_of), ("folded", F_folded), ("made", F_made), ("curve", F_curve), ("read_figures", F_read_figures), ("read_ratio", F_read_ratio), ("read_corner", F_read_corner), ("read_curve", F_read_curve), ("_law_cell_at", F__law_cell_at), ("_law_lowest", F__law_lowest), ("_law_shown", F__law_shown), ("_law_shown_corners", F__law_shown_corners), ("_law_curve_by", F__law_curve_by)]
def tab1 : List (Str × Fd) := [("_law_more", F__law_more), ("_law_corners_spoiled", F__law_corners_spoiled), ("_law_text_spoiled", F__law_text_spoiled), ("_law_refused", F__law_refused), ("law", F_law)]
def tab : List (Str × Fd) := tab0 ++ tab1
def T : Str → Option Fd := fun x => tab.lookup x
theorem T_is_whole : T "is_whole" = some F_is_whole := by decide +kernel
theorem T_divisor : T "divisor" = some F_divisor := by decide +kernel
theorem T_ratio : T "ratio" = some F_ratio := by decide +kernel
theorem T_minus : T "minus" = some F_minus := by decide +kernel
theorem T_over : T "over" = some F_over := by decide +kernel
theorem T_under : T "under" = some F_under := by decide +kernel
theorem T_slope_between : T "slope_between" = some F_slope_between := by decide +kernel
theorem T_slopes_of : T "slopes_of" = some F_slopes_of := by decide +kernel
theorem T_folded : T "folded" = some F_folded := by decide +kernel
theorem T_made : T "made" = some F_made := by decide +kernel
theorem T_curve : T "curve" = some F_curve := by decide +kernel
theorem T_read_figures : T "read_figures" = some F_read_figures := by decide +kernel
theorem T_read_ratio : T "read_ratio" = some F_read_ratio := by decide +kernel
theorem T_read_corner : T "read_corner" = some F_read_corner := by decide +kernel
theorem T_read_curve : T "read_curve" = some F_read_curve := by decide +kernel
theorem T__law_cell_at : T "_law_cell_at" = some F__law_cell_at := by decide +kernel
theorem T__law_lowest : T "_law_lowest" = some F__law_lowest := by decide +kernel
theorem T__law_shown : T "_law_shown" = some F__law_shown := by decide +kernel
theorem T__law_shown_corners : T "_law_shown_corners" = some F__law_shown_corners := by decide +kernel
theorem T__law_curve_by : T "_law_curve_by" = some F__law_curve_by := by decide +kernel
theorem T__law_more : T "_law_more" = some F__law_more := by decide +kernel
theorem T__law_corners_spoiled : T "_law_corners_spoiled" = some F__law_corners_spoiled := by decide +kernel
theorem T__law_text_spoiled : T "_law_text_spoiled" = some F__law_text_spoiled := by decide +kernel
theorem T__law_refused : T "_law_refused" = some F__law_refused := by decide +kernel
theorem T_law : T "law" = some F_law := by decide +kernel
end Q
set_option hygiene false in
local macro_rules
  | `(tactic| simp only [ME_] $[$loc:location]?) => `(tactic| simp only [q_tryR, q_try2, q_setlc, tryR_rt, tryR_nx, tryR_ex, noEx_rt, noEx_nx, try2_rt, try2_nx, try2_ex, onLcX_ok, onLcX_exc, vx_int, vx_bl, vx_non, vx_v, vx_bin, vx_neg, vx_call, vx_bi, vx_tup, vx_lst, vx_ix, frzIf_nil, e_tm, qs_tm, qr_tm, isStr_s, slp_str, i_lenstr, bp_adds, itemsP_str, nn_str, Rv.bind_ok, Rv.bind_exc, Rv.bind_bad, Rv.on_ok, Rv.on_exc, Rv.on_bad, fuel_eq, vars, runFP_mk, e_non, e_bl, e_int, e_str, e_v, e_k, e_f, e_nil, e_absent, e_cons, e_tup, e_lst, e_bin, e_neg, e_not, e_and, e_or, e_cmp, e_isn, e_notn, e_ix, e_sl, e_call, e_callv, e_bi, e_isi, e_ise, e_lc, e_rng, e_rev, q_pass, qs_non, qr_non, qs_bl, qr_bl, qs_int, qr_int, qs_str, qr_str, qs_v, qs_k, qr_k, qs_f, qr_f, qs_tup, qr_tup, qs_lst, qr_lst, qs_bin, qr_bin, qs_neg, qr_neg, qs_not, qr_not, qs_and, qr_and, qs_or, qr_or, qs_cmp, qr_cmp, qs_isn, qr_isn, qs_notn, qr_notn, qs_ix, qr_ix, qs_sl, qr_sl, qs_call, qr_call, qe_call, qs_callv, qr_callv, qe_callv, qs_bi, qr_bi, qs_isi, qr_isi, qs_ise, qr_ise, qs_lc, qr_lc, qs_rng, qr_rng, qs_rev, qr_rev, qs_me, qe_me, qr_v, qx_v, q_seq, q_aug, q_ite, q_wh, q_for, q_for2, fo2_nil, q_retn, q_brk, q_cnt, q_raise, q_tryN, q_tryA, fo_nil, consP_t, tupP_t, lstP_t, allocP_e, negP_i, onTupP_t, onTupO_t, callP_t, onBlP_bl, ifP_bl, getP_non, getP_bl, getP_int, getP_str, getP_tup, getP_lst, getP_scr, getP_own, getP_fn, rawP_non, rawP_bl, rawP_int, rawP_str, rawP_tup, rawP_lst, rawP_scr, rawP_own, rawP_fn, frz_non, frz_bl, frz_int, frz_str, frz_tup, frz_lst, frz_scr, frz_own, frz_fn, frz_exc, inL_non, inL_bl, inL_int, inL_str, inL_fn, inL_exc, inL_lst, inL_scr, inL_own, inL_tup, ls_non, ls_bl, ls_int, ls_str, ls_fn, ls_exc, ls_lst, ls_scr, ls_tup, any_int, any_steps, frzIf_f, frzIf_t, frzs_nil, frzs_cons, frzAt_0, frzAt_s, frzO_n, frzO_s, isL_non, isL_bl, isL_int, isL_str, isL_tup, isL_lst, isL_scr, isL_own, onOwn_o, onSome_s, onIntP_i, onFnP_f, onExcP_f, okOnlyP_ok, onItemsP_s, itemsP_t, itemsP_l, itemsP_s, augP_a, augP_s, onPartP_int, onPartP_abs, meGo_e, onNat_s, setixP_i, meP_app', meP_rev, meP_clear, onSome_if, rc1, rc2, rc3, rc4, rc5, rc6, bp_add, bp_sub, bp_mul, bp_fdiv, bp_mod, bp_addt, bp_addl, cp_lt, cp_le, cp_gt, cp_ge, cp_eq, cp_ne, ep_int, np_int, ep_bl, np_bl, xp_t, xp_l, xp_s, atP_s, slp_t, slp_l, slp_s, i_abs, i_lent, i_lenl, i_lens, i_max, i_min, i_int, i_intb, i_listt, i_listl, i_lists, i_tupt, i_tupl, i_sorted, i_sortedR, intsP_map, sortP_f, sortP_t, t_non, t_bl, t_int, t_str, t_tup, t_lst, tz1, tz2, tz3, nn_non, nn_tup, nn_int, nn_lst, nn_own, rv_t, rp_1, rp_2, rp_3, stepsP_0, Op.then_nx, Op.then_rt, Op.then_ex, Op.then_bk, Op.then_ct, Op.then_bad, Op.turn_nx, Op.turn_ct, Op.turn_bk, Op.turn_rt, Op.turn_ex, ofP_nx, ofP_rt, ofP_ex, tryN_nx, tryA_nx, tryN_rt, tryA_rt, tryA2_rt, tryA_ex, tryN2_rt, tryN2_nx, tryN_ex, at_0, at_1, at_2, at_3, at_m1, at_m2, lt0, lt1, lt2, lt3, lt4, lt5, lt6, lt7, lt8, lt9, lt10, lt11, lt12, lt13, lt14, lt15, le6, le7, le8, le9, le10, le11, le12, le13, le14, le15, le16, le17, le18, le19, le20, le21, le22, le23, le24, le25, takeS_0, takeS_s, dropS_0, dropS_s, MP.tb1, MP.tb2, MP.tb3, MP.tb4, MP.tb5, MP.tn1, MP.tn2, MP.tn3, MP.tn4, MP.tn5, MP.tn6, MP.lim1, MP.lim2, MP.lim3, MP.lim4, MP.lim5, List.getElem?_cons_zero, List.getElem?_cons_succ, List.set_cons_zero, List.set_cons_succ, List.length_cons, List.length_nil, List.map_cons, List.map_nil, List.cons_append, List.nil_append, List.replicate_succ, List.replicate_zero, List.any_cons, List.any_nil, Nat.reduceAdd, Nat.reduceSub, Nat.reduceEqDiff, Nat.reduceLT, Nat.reduceLeDiff, if_true, if_false, ite_true, ite_false, eq_self, Bool.not_true, Bool.not_false, Bool.true_eq_false, Bool.false_eq_true, Bool.or_true, Bool.or_false, Bool.true_or, Bool.false_or, Bool.and_true, Bool.and_false, Bool.or_self, reduceIte, reduceCtorEq, decide_true, decide_false, decide_eq_true_eq, Bool.not_eq_true', decide_eq_false_iff_not, Nat.zero_le, Int.reduceLE, Int.reduceLT, Int.reduceEq, Int.reduceNe, ne_eq, not_false_eq_true, not_true_eq_false, Int.reduceNeg, and_true, true_and, and_false, false_and, or_true, true_or, or_false, false_or] $[$loc]?)
  | `(tactic| simp only [ME_, $xs,*] $[$loc:location]?) => `(tactic| simp only [q_tryR, q_try2, q_setlc, tryR_rt, tryR_nx, tryR_ex, noEx_rt, noEx_nx, try2_rt, try2_nx, try2_ex, onLcX_ok, onLcX_exc, vx_int, vx_bl, vx_non, vx_v, vx_bin, vx_neg, vx_call, vx_bi, vx_tup, vx_lst, vx_ix, frzIf_nil, e_tm, qs_tm, qr_tm, isStr_s, slp_str, i_lenstr, bp_adds, itemsP_str, nn_str, Rv.bind_ok, Rv.bind_exc, Rv.bind_bad, Rv.on_ok, Rv.on_exc, Rv.on_bad, fuel_eq, vars, runFP_mk, e_non, e_bl, e_int, e_str, e_v, e_k, e_f, e_nil, e_absent, e_cons, e_tup, e_lst, e_bin, e_neg, e_not, e_and, e_or, e_cmp, e_isn, e_notn, e_ix, e_sl, e_call, e_callv, e_bi, e_isi, e_ise, e_lc, e_rng, e_rev, q_pass, qs_non, qr_non, qs_bl, qr_bl, qs_int, qr_int, qs_str, qr_str, qs_v, qs_k, qr_k, qs_f, qr_f, qs_tup, qr_tup, qs_lst, qr_lst, qs_bin, qr_bin, qs_neg, qr_neg, qs_not, qr_not, qs_and, qr_and, qs_or, qr_or, qs_cmp, qr_cmp, qs_isn, qr_isn, qs_notn, qr_notn, qs_ix, qr_ix, qs_sl, qr_sl, qs_call, qr_call, qe_call, qs_callv, qr_callv, qe_callv, qs_bi, qr_bi, qs_isi, qr_isi, qs_ise, qr_ise, qs_lc, qr_lc, qs_rng, qr_rng, qs_rev, qr_rev, qs_me, qe_me, qr_v, qx_v, q_seq, q_aug, q_ite, q_wh, q_for, q_for2, fo2_nil, q_retn, q_brk, q_cnt, q_raise, q_tryN, q_tryA, fo_nil, consP_t, tupP_t, lstP_t, allocP_e, negP_i, onTupP_t, onTupO_t, callP_t, onBlP_bl, ifP_bl, getP_non, getP_bl, getP_int, getP_str, getP_tup, getP_lst, getP_scr, getP_own, getP_fn, rawP_non, rawP_bl, rawP_int, rawP_str, rawP_tup, rawP_lst, rawP_scr, rawP_own, rawP_fn, frz_non, frz_bl, frz_int, frz_str, frz_tup, frz_lst, frz_scr, frz_own, frz_fn, frz_exc, inL_non, inL_bl, inL_int, inL_str, inL_fn, inL_exc, inL_lst, inL_scr, inL_own, inL_tup, ls_non, ls_bl, ls_int, ls_str, ls_fn, ls_exc, ls_lst, ls_scr, ls_tup, any_int, any_steps, frzIf_f, frzIf_t, frzs_nil, frzs_cons, frzAt_0, frzAt_s, frzO_n, frzO_s, isL_non, isL_bl, isL_int, isL_str, isL_tup, isL_lst, isL_scr, isL_own, onOwn_o, onSome_s, onIntP_i, onFnP_f, onExcP_f, okOnlyP_ok, onItemsP_s, itemsP_t, itemsP_l, itemsP_s, augP_a, augP_s, onPartP_int, onPartP_abs, meGo_e, onNat_s, setixP_i, meP_app', meP_rev, meP_clear, onSome_if, rc1, rc2, rc3, rc4, rc5, rc6, bp_add, bp_sub, bp_mul, bp_fdiv, bp_mod, bp_addt, bp_addl, cp_lt, cp_le, cp_gt, cp_ge, cp_eq, cp_ne, ep_int, np_int, ep_bl, np_bl, xp_t, xp_l, xp_s, atP_s, slp_t, slp_l, slp_s, i_abs, i_lent, i_lenl, i_lens, i_max, i_min, i_int, i_intb, i_listt, i_listl, i_lists, i_tupt, i_tupl, i_sorted, i_sortedR, intsP_map, sortP_f, sortP_t, t_non, t_bl, t_int, t_str, t_tup, t_lst, tz1, tz2, tz3, nn_non, nn_tup, nn_int, nn_lst, nn_own, rv_t, rp_1, rp_2, rp_3, stepsP_0, Op.then_nx, Op.then_rt, Op.then_ex, Op.then_bk, Op.then_ct, Op.then_bad, Op.turn_nx, Op.turn_ct, Op.turn_bk, Op.turn_rt, Op.turn_ex, ofP_nx, ofP_rt, ofP_ex, tryN_nx, tryA_nx, tryN_rt, tryA_rt, tryA2_rt, tryA_ex, tryN2_rt, tryN2_nx, tryN_ex, at_0, at_1, at_2, at_3, at_m1, at_m2, lt0, lt1, lt2, lt3, lt4, lt5, lt6, lt7, lt8, lt9, lt10, lt11, lt12, lt13, lt14, lt15, le6, le7, le8, le9, le10, le11, le12, le13, le14, le15, le16, le17, le18, le19, le20, le21, le22, le23, le24, le25, takeS_0, takeS_s, dropS_0, dropS_s, MP.tb1, MP.tb2, MP.tb3, MP.tb4, MP.tb5, MP.tn1, MP.tn2, MP.tn3, MP.tn4, MP.tn5, MP.tn6, MP.lim1, MP.lim2, MP.lim3, MP.lim4, MP.lim5, List.getElem?_cons_zero, List.getElem?_cons_succ, List.set_cons_zero, List.set_cons_succ, List.length_cons, List.length_nil, List.map_cons, List.map_nil, List.cons_append, List.nil_append, List.replicate_succ, List.replicate_zero, List.any_cons, List.any_nil, Nat.reduceAdd, Nat.reduceSub, Nat.reduceEqDiff, Nat.reduceLT, Nat.reduceLeDiff, if_true, if_false, ite_true, ite_false, eq_self, Bool.not_true, Bool.not_false, Bool.true_eq_false, Bool.false_eq_true, Bool.or_true, Bool.or_false, Bool.true_or, Bool.false_or, Bool.and_true, Bool.and_false, Bool.or_self, reduceIte, reduceCtorEq, decide_true, decide_false, decide_eq_true_eq, Bool.not_eq_true', decide_eq_false_iff_not, Nat.zero_le, Int.reduceLE, Int.reduceLT, Int.reduceEq, Int.reduceNe, ne_eq, not_false_eq_true, not_true_eq_false, Int.reduceNeg, and_true, true_and, and_false, false_and, or_true, true_or, or_false, false_or, $xs,*] $[$loc]?)
set_option hygiene false in
local macro_rules
  | `(tactic| simp only [MR_] $[$loc:location]?) => `(tactic| simp only [q_tryR, q_try2, q_setlc, tryR_rt, tryR_nx, tryR_ex, noEx_rt, noEx_nx, try2_rt, try2_nx, try2_ex, onLcX_ok, onLcX_exc, vx_int, vx_bl, vx_non, vx_v, vx_bin, vx_neg, vx_call, vx_bi, vx_tup, vx_lst, vx_ix, frzIf_nil, e_tm, qs_tm, qr_tm, isStr_s, slp_str, i_lenstr, bp_adds, itemsP_str, nn_str, Rv.bind_ok, Rv.bind_exc, Rv.bind_bad, Rv.on_ok, Rv.on_exc, Rv.on_bad, fuel_eq, vars, runFP_mk, e_non, e_bl, e_int, e_str, e_v, e_k, e_f, e_nil, e_absent, e_cons, e_tup, e_lst, e_bin, e_neg, e_not, e_and, e_or, e_cmp, e_isn, e_notn, e_ix, e_sl, e_call, e_callv, e_bi, e_isi, e_ise, e_lc, e_rng, e_rev, q_pass, qs_non, qr_non, qs_bl, qr_bl, qs_int, qr_int, qs_str, qr_str, qs_v, qs_k, qr_k, qs_f, qr_f, qs_tup, qr_tup, qs_lst, qr_lst, qs_bin, qr_bin, qs_neg, qr_neg, qs_not, qr_not, qs_and, qr_and, qs_or, qr_or, qs_cmp, qr_cmp, qs_isn, qr_isn, qs_notn, qr_notn, qs_ix, qr_ix, qs_sl, qr_sl, qs_call, qr_call, qe_call, qs_callv, qr_callv, qe_callv, qs_bi, qr_bi, qs_isi, qr_isi, qs_ise, qr_ise, qs_lc, qr_lc, qs_rng, qr_rng, qs_rev, qr_rev, qs_me, qe_me, qr_v, qx_v, q_seq, q_aug, q_ite, q_wh, q_for, q_for2, fo2_nil, q_retn, q_brk, q_cnt, q_raise, q_tryN, q_tryA, fo_nil, consP_t, tupP_t, lstP_t, allocP_e, negP_i, onTupP_t, onTupO_t, callP_t, onBlP_bl, ifP_bl, getP_non, getP_bl, getP_int, getP_str, getP_tup, getP_lst, getP_scr, getP_own, getP_fn, rawP_non, rawP_bl, rawP_int, rawP_str, rawP_tup, rawP_lst, rawP_scr, rawP_own, rawP_fn, frz_non, frz_bl, frz_int, frz_str, frz_tup, frz_lst, frz_scr, frz_own, frz_fn, frz_exc, inL_non, inL_bl, inL_int, inL_str, inL_fn, inL_exc, inL_lst, inL_scr, inL_own, inL_tup, ls_non, ls_bl, ls_int, ls_str, ls_fn, ls_exc, ls_lst, ls_scr, ls_tup, any_int, any_steps, frzIf_f, frzIf_t, frzs_nil, frzs_cons, frzAt_0, frzAt_s, frzO_n, frzO_s, isL_non, isL_bl, isL_int, isL_str, isL_tup, isL_lst, isL_scr, isL_own, onOwn_o, onSome_s, onIntP_i, onFnP_f, onExcP_f, okOnlyP_ok, onItemsP_s, itemsP_t, itemsP_l, itemsP_s, augP_a, augP_s, onPartP_int, onPartP_abs, meGo_e, onNat_s, setixP_i, meP_app', meP_rev, meP_clear, onSome_if, rc1, rc2, rc3, rc4, rc5, rc6, bp_add, bp_sub, bp_mul, bp_fdiv, bp_mod, bp_addt, bp_addl, cp_lt, cp_le, cp_gt, cp_ge, cp_eq, cp_ne, ep_int, np_int, ep_bl, np_bl, xp_t, xp_l, xp_s, atP_s, slp_t, slp_l, slp_s, i_abs, i_lent, i_lenl, i_lens, i_max, i_min, i_int, i_intb, i_listt, i_listl, i_lists, i_tupt, i_tupl, i_sorted, i_sortedR, intsP_map, sortP_f, sortP_t, t_non, t_bl, t_int, t_str, t_tup, t_lst, tz1, tz2, tz3, nn_non, nn_tup, nn_int, nn_lst, nn_own, rv_t, rp_1, rp_2, rp_3, stepsP_0, Op.then_nx, Op.then_rt, Op.then_ex, Op.then_bk, Op.then_ct, Op.then_bad, Op.turn_nx, Op.turn_ct, Op.turn_bk, Op.turn_rt, Op.turn_ex, ofP_nx, ofP_rt, ofP_ex, tryN_nx, tryA_nx, tryN_rt, tryA_rt, tryA2_rt, tryA_ex, tryN2_rt, tryN2_nx, tryN_ex, at_0, at_1, at_2, at_3, at_m1, at_m2, lt0, lt1, lt2, lt3, lt4, lt5, lt6, lt7, lt8, lt9, lt10, lt11, lt12, lt13, lt14, lt15, le6, le7, le8, le9, le10, le11, le12, le13, le14, le15, le16, le17, le18, le19, le20, le21, le22, le23, le24, le25, takeS_0, takeS_s, dropS_0, dropS_s, MP.tb1, MP.tb2, MP.tb3, MP.tb4, MP.tb5, MP.tn1, MP.tn2, MP.tn3, MP.tn4, MP.tn5, MP.tn6, MP.lim1, MP.lim2, MP.lim3, MP.lim4, MP.lim5, List.getElem?_cons_zero, List.getElem?_cons_succ, List.set_cons_zero, List.set_cons_succ, List.length_cons, List.length_nil, List.map_cons, List.map_nil, List.cons_append, List.nil_append, List.replicate_succ, List.replicate_zero, List.any_cons, List.any_nil, Nat.reduceAdd, Nat.reduceSub, Nat.reduceEqDiff, Nat.reduceLT, Nat.reduceLeDiff, if_true, if_false, ite_true, ite_false, eq_self, Bool.not_true, Bool.not_false, Bool.true_eq_false, Bool.false_eq_true, Bool.or_true, Bool.or_false, Bool.true_or, Bool.false_or, Bool.and_true, Bool.and_false, Bool.or_self, reduceIte, reduceCtorEq, decide_true, decide_false, decide_eq_true_eq, Bool.not_eq_true', decide_eq_false_iff_not, Nat.zero_le, Int.reduceLE, Int.reduceLT, Int.reduceEq, Int.reduceNe, ne_eq, not_false_eq_true, not_true_eq_false, Int.reduceNeg, and_true, true_and, and_false, false_and, or_true, true_or, or_false, false_or, fmp, pp_4, pp_6, pp_9, pp_12, pp_18, pp_20, pp_28, pp_30, pp_40, pp_44, pp_50, pp_57, pp_58, pp_59, pp_60, getP_R, xp_R0, xp_R1, t_R, l_R, nn_R, tupP_R, callP_R, onTupP_R, consP_R, frz_R, rawP_R, inL_R, isL_R, ls_R, items_R, ep_R, np_R, R0n, R0d, R1n, R1d, R_eta, R_0, R_1, R_neg, R_den', R_den1, R_den0] $[$loc]?)
  | `(tactic| simp only [MR_, $xs,*] $[$loc:location]?) => `(tactic| simp only [q_tryR, q_try2, q_setlc, tryR_rt, tryR_nx, tryR_ex, noEx_rt, noEx_nx, try2_rt, try2_nx, try2_ex, onLcX_ok, onLcX_exc, vx_int, vx_bl, vx_non, vx_v, vx_bin, vx_neg, vx_call, vx_bi, vx_tup, vx_lst, vx_ix, frzIf_nil, e_tm, qs_tm, qr_tm, isStr_s, slp_str, i_lenstr, bp_adds, itemsP_str, nn_str, Rv.bind_ok, Rv.bind_exc, Rv.bind_bad, Rv.on_ok, Rv.on_exc, Rv.on_bad, fuel_eq, vars, runFP_mk, e_non, e_bl, e_int, e_str, e_v, e_k, e_f, e_nil, e_absent, e_cons, e_tup, e_lst, e_bin, e_neg, e_not, e_and, e_or, e_cmp, e_isn, e_notn, e_ix, e_sl, e_call, e_callv, e_bi, e_isi, e_ise, e_lc, e_rng, e_rev, q_pass, qs_non, qr_non, qs_bl, qr_bl, qs_int, qr_int, qs_str, qr_str, qs_v, qs_k, qr_k, qs_f, qr_f, qs_tup, qr_tup, qs_lst, qr_lst, qs_bin, qr_bin, qs_neg, qr_neg, qs_not, qr_not, qs_and, qr_and, qs_or, qr_or, qs_cmp, qr_cmp, qs_isn, qr_isn, qs_notn, qr_notn, qs_ix, qr_ix, qs_sl, qr_sl, qs_call, qr_call, qe_call, qs_callv, qr_callv, qe_callv, qs_bi, qr_bi, qs_isi, qr_isi, qs_ise, qr_ise, qs_lc, qr_lc, qs_rng, qr_rng, qs_rev, qr_rev, qs_me, qe_me, qr_v, qx_v, q_seq, q_aug, q_ite, q_wh, q_for, q_for2, fo2_nil, q_retn, q_brk, q_cnt, q_raise, q_tryN, q_tryA, fo_nil, consP_t, tupP_t, lstP_t, allocP_e, negP_i, onTupP_t, onTupO_t, callP_t, onBlP_bl, ifP_bl, getP_non, getP_bl, getP_int, getP_str, getP_tup, getP_lst, getP_scr, getP_own, getP_fn, rawP_non, rawP_bl, rawP_int, rawP_str, rawP_tup, rawP_lst, rawP_scr, rawP_own, rawP_fn, frz_non, frz_bl, frz_int, frz_str, frz_tup, frz_lst, frz_scr, frz_own, frz_fn, frz_exc, inL_non, inL_bl, inL_int, inL_str, inL_fn, inL_exc, inL_lst, inL_scr, inL_own, inL_tup, ls_non, ls_bl, ls_int, ls_str, ls_fn, ls_exc, ls_lst, ls_scr, ls_tup, any_int, any_steps, frzIf_f, frzIf_t, frzs_nil, frzs_cons, frzAt_0, frzAt_s, frzO_n, frzO_s, isL_non, isL_bl, isL_int, isL_str, isL_tup, isL_lst, isL_scr, isL_own, onOwn_o, onSome_s, onIntP_i, onFnP_f, onExcP_f, okOnlyP_ok, onItemsP_s, itemsP_t, itemsP_l, itemsP_s, augP_a, augP_s, onPartP_int, onPartP_abs, meGo_e, onNat_s, setixP_i, meP_app', meP_rev, meP_clear, onSome_if, rc1, rc2, rc3, rc4, rc5, rc6, bp_add, bp_sub, bp_mul, bp_fdiv, bp_mod, bp_addt, bp_addl, cp_lt, cp_le, cp_gt, cp_ge, cp_eq, cp_ne, ep_int, np_int, ep_bl, np_bl, xp_t, xp_l, xp_s, atP_s, slp_t, slp_l, slp_s, i_abs, i_lent, i_lenl, i_lens, i_max, i_min, i_int, i_intb, i_listt, i_listl, i_lists, i_tupt, i_tupl, i_sorted, i_sortedR, intsP_map, sortP_f, sortP_t, t_non, t_bl, t_int, t_str, t_tup, t_lst, tz1, tz2, tz3, nn_non, nn_tup, nn_int, nn_lst, nn_own, rv_t, rp_1, rp_2, rp_3, stepsP_0, Op.then_nx, Op.then_rt, Op.then_ex, Op.then_bk, Op.then_ct, Op.then_bad, Op.turn_nx, Op.turn_ct, Op.turn_bk, Op.turn_rt, Op.turn_ex, ofP_nx, ofP_rt, ofP_ex, tryN_nx, tryA_nx, tryN_rt, tryA_rt, tryA2_rt, tryA_ex, tryN2_rt, tryN2_nx, tryN_ex, at_0, at_1, at_2, at_3, at_m1, at_m2, lt0, lt1, lt2, lt3, lt4, lt5, lt6, lt7, lt8, lt9, lt10, lt11, lt12, lt13, lt14, lt15, le6, le7, le8, le9, le10, le11, le12, le13, le14, le15, le16, le17, le18, le19, le20, le21, le22, le23, le24, le25, takeS_0, takeS_s, dropS_0, dropS_s, MP.tb1, MP.tb2, MP.tb3, MP.tb4, MP.tb5, MP.tn1, MP.tn2, MP.tn3, MP.tn4, MP.tn5, MP.tn6, MP.lim1, MP.lim2, MP.lim3, MP.lim4, MP.lim5, List.getElem?_cons_zero, List.getElem?_cons_succ, List.set_cons_zero, List.set_cons_succ, List.length_cons, List.length_nil, List.map_cons, List.map_nil, List.cons_append, List.nil_append, List.replicate_succ, List.replicate_zero, List.any_cons, List.any_nil, Nat.reduceAdd, Nat.reduceSub, Nat.reduceEqDiff, Nat.reduceLT, Nat.reduceLeDiff, if_true, if_false, ite_true, ite_false, eq_self, Bool.not_true, Bool.not_false, Bool.true_eq_false, Bool.false_eq_true, Bool.or_true, Bool.or_false, Bool.true_or, Bool.false_or, Bool.and_true, Bool.and_false, Bool.or_self, reduceIte, reduceCtorEq, decide_true, decide_false, decide_eq_true_eq, Bool.not_eq_true', decide_eq_false_iff_not, Nat.zero_le, Int.reduceLE, Int.reduceLT, Int.reduceEq, Int.reduceNe, ne_eq, not_false_eq_true, not_true_eq_false, Int.reduceNeg, and_true, true_and, and_false, false_and, or_true, true_or, or_false, false_or, fmp, pp_4, pp_6, pp_9, pp_12, pp_18, pp_20, pp_28, pp_30, pp_40, pp_44, pp_50, pp_57, pp_58, pp_59, pp_60, getP_R, xp_R0, xp_R1, t_R, l_R, nn_R, tupP_R, callP_R, onTupP_R, consP_R, frz_R, rawP_R, inL_R, isL_R, ls_R, items_R, ep_R, np_R, R0n, R0d, R1n, R1d, R_eta, R_0, R_1, R_neg, R_den', R_den1, R_den0, $xs,*] $[$loc]?)
set_option hygiene false in
local macro_rules
  | `(tactic| simp only [MC_] $[$loc:location]?) => `(tactic| simp only [q_tryR, q_try2, q_setlc, tryR_rt, tryR_nx, tryR_ex, noEx_rt, noEx_nx, try2_rt, try2_nx, try2_ex, onLcX_ok, onLcX_exc, vx_int, vx_bl, vx_non, vx_v, vx_bin, vx_neg, vx_call, vx_bi, vx_tup, vx_lst, vx_ix, frzIf_nil, e_tm, qs_tm, qr_tm, isStr_s, slp_str, i_lenstr, bp_adds, itemsP_str, nn_str, Rv.bind_ok, Rv.bind_exc, Rv.bind_bad, Rv.on_ok, Rv.on_exc, Rv.on_bad, fuel_eq, vars, runFP_mk, e_non, e_bl, e_int, e_str, e_v, e_k, e_f, e_nil, e_absent, e_cons, e_tup, e_lst, e_bin, e_neg, e_not, e_and, e_or, e_cmp, e_isn, e_notn, e_ix, e_sl, e_call, e_callv, e_bi, e_isi, e_ise, e_lc, e_rng, e_rev, q_pass, qs_non, qr_non, qs_bl, qr_bl, qs_int, qr_int, qs_str, qr_str, qs_v, qs_k, qr_k, qs_f, qr_f, qs_tup, qr_tup, qs_lst, qr_lst, qs_bin, qr_bin, qs_neg, qr_neg, qs_not, qr_not, qs_and, qr_and, qs_or, qr_or, qs_cmp, qr_cmp, qs_isn, qr_isn, qs_notn, qr_notn, qs_ix, qr_ix, qs_sl, qr_sl, qs_call, qr_call, qe_call, qs_callv, qr_callv, qe_callv, qs_bi, qr_bi, qs_isi, qr_isi, qs_ise, qr_ise, qs_lc, qr_lc, qs_rng, qr_rng, qs_rev, qr_rev, qs_me, qe_me, qr_v, qx_v, q_seq, q_aug, q_ite, q_wh, q_for, q_for2, fo2_nil, q_retn, q_brk, q_cnt, q_raise, q_tryN, q_tryA, fo_nil, consP_t, tupP_t, lstP_t, allocP_e, negP_i, onTupP_t, onTupO_t, callP_t, onBlP_bl, ifP_bl, getP_non, getP_bl, getP_int, getP_str, getP_tup, getP_lst, getP_scr, getP_own, getP_fn, rawP_non, rawP_bl, rawP_int, rawP_str, rawP_tup, rawP_lst, rawP_scr, rawP_own, rawP_fn, frz_non, frz_bl, frz_int, frz_str, frz_tup, frz_lst, frz_scr, frz_own, frz_fn, frz_exc, inL_non, inL_bl, inL_int, inL_str, inL_fn, inL_exc, inL_lst, inL_scr, inL_own, inL_tup, ls_non, ls_bl, ls_int, ls_str, ls_fn, ls_exc, ls_lst, ls_scr, ls_tup, any_int, any_steps, frzIf_f, frzIf_t, frzs_nil, frzs_cons, frzAt_0, frzAt_s, frzO_n, frzO_s, isL_non, isL_bl, isL_int, isL_str, isL_tup, isL_lst, isL_scr, isL_own, onOwn_o, onSome_s, onIntP_i, onFnP_f, onExcP_f, okOnlyP_ok, onItemsP_s, itemsP_t, itemsP_l, itemsP_s, augP_a, augP_s, onPartP_int, onPartP_abs, meGo_e, onNat_s, setixP_i, meP_app', meP_rev, meP_clear, onSome_if, rc1, rc2, rc3, rc4, rc5, rc6, bp_add, bp_sub, bp_mul, bp_fdiv, bp_mod, bp_addt, bp_addl, cp_lt, cp_le, cp_gt, cp_ge, cp_eq, cp_ne, ep_int, np_int, ep_bl, np_bl, xp_t, xp_l, xp_s, atP_s, slp_t, slp_l, slp_s, i_abs, i_lent, i_lenl, i_lens, i_max, i_min, i_int, i_intb, i_listt, i_listl, i_lists, i_tupt, i_tupl, i_sorted, i_sortedR, intsP_map, sortP_f, sortP_t, t_non, t_bl, t_int, t_str, t_tup, t_lst, tz1, tz2, tz3, nn_non, nn_tup, nn_int, nn_lst, nn_own, rv_t, rp_1, rp_2, rp_3, stepsP_0, Op.then_nx, Op.then_rt, Op.then_ex, Op.then_bk, Op.then_ct, Op.then_bad, Op.turn_nx, Op.turn_ct, Op.turn_bk, Op.turn_rt, Op.turn_ex, ofP_nx, ofP_rt, ofP_ex, tryN_nx, tryA_nx, tryN_rt, tryA_rt, tryA2_rt, tryA_ex, tryN2_rt, tryN2_nx, tryN_ex, at_0, at_1, at_2, at_3, at_m1, at_m2, lt0, lt1, lt2, lt3, lt4, lt5, lt6, lt7, lt8, lt9, lt10, lt11, lt12, lt13, lt14, lt15, le6, le7, le8, le9, le10, le11, le12, le13, le14, le15, le16, le17, le18, le19, le20, le21, le22, le23, le24, le25, takeS_0, takeS_s, dropS_0, dropS_s, MP.tb1, MP.tb2, MP.tb3, MP.tb4, MP.tb5, MP.tn1, MP.tn2, MP.tn3, MP.tn4, MP.tn5, MP.tn6, MP.lim1, MP.lim2, MP.lim3, MP.lim4, MP.lim5, List.getElem?_cons_zero, List.getElem?_cons_succ, List.set_cons_zero, List.set_cons_succ, List.length_cons, List.length_nil, List.map_cons, List.map_nil, List.cons_append, List.nil_append, List.replicate_succ, List.replicate_zero, List.any_cons, List.any_nil, Nat.reduceAdd, Nat.reduceSub, Nat.reduceEqDiff, Nat.reduceLT, Nat.reduceLeDiff, if_true, if_false, ite_true, ite_false, eq_self, Bool.not_true, Bool.not_false, Bool.true_eq_false, Bool.false_eq_true, Bool.or_true, Bool.or_false, Bool.true_or, Bool.false_or, Bool.and_true, Bool.and_false, Bool.or_self, reduceIte, reduceCtorEq, decide_true, decide_false, decide_eq_true_eq, Bool.not_eq_true', decide_eq_false_iff_not, Nat.zero_le, Int.reduceLE, Int.reduceLT, Int.reduceEq, Int.reduceNe, ne_eq, not_false_eq_true, not_true_eq_false, Int.reduceNeg, and_true, true_and, and_false, false_and, or_true, true_or, or_false, false_or, fmp, pp_4, pp_6, pp_9, pp_12, pp_18, pp_20, pp_28, pp_30, pp_40, pp_44, pp_50, pp_57, pp_58, pp_59, pp_60, getP_R, xp_R0, xp_R1, t_R, l_R, nn_R, tupP_R, callP_R, onTupP_R, consP_R, frz_R, rawP_R, inL_R, isL_R, ls_R, items_R, ep_R, np_R, R0n, R0d, R1n, R1d, R_eta, R_0, R_1, R_neg, R_den', R_den1, R_den0, getP_C, xp_C0, xp_C1, C_eta, tupP_C, callP_C, consP_C, t_C, l_C, onTupP_C, ep_C, frz_C, rawP_C, inL_C, isL_C, ls_C, nn_C, any_C, getP_F, xp_F0, xp_F1, t_F, l_F, frz_F, rawP_F, inL_F, isL_F, ls_F, nn_F, tupP_F, any_R] $[$loc]?)
  | `(tactic| simp only [MC_, $xs,*] $[$loc:location]?) => `(tactic| simp only [q_tryR, q_try2, q_setlc, tryR_rt, tryR_nx, tryR_ex, noEx_rt, noEx_nx, try2_rt, try2_nx, try2_ex, onLcX_ok, onLcX_exc, vx_int, vx_bl, vx_non, vx_v, vx_bin, vx_neg, vx_call, vx_bi, vx_tup, vx_lst, vx_ix, frzIf_nil, e_tm, qs_tm, qr_tm, isStr_s, slp_str, i_lenstr, bp_adds, itemsP_str, nn_str, Rv.bind_ok, Rv.bind_exc, Rv.bind_bad, Rv.on_ok, Rv.on_exc, Rv.on_bad, fuel_eq, vars, runFP_mk, e_non, e_bl, e_int, e_str, e_v, e_k, e_f, e_nil, e_absent, e_cons, e_tup, e_lst, e_bin, e_neg, e_not, e_and, e_or, e_cmp, e_isn, e_notn, e_ix, e_sl, e_call, e_callv, e_bi, e_isi, e_ise, e_lc, e_rng, e_rev, q_pass, qs_non, qr_non, qs_bl, qr_bl, qs_int, qr_int, qs_str, qr_str, qs_v, qs_k, qr_k, qs_f, qr_f, qs_tup, qr_tup, qs_lst, qr_lst, qs_bin, qr_bin, qs_neg, qr_neg, qs_not, qr_not, qs_and, qr_and, qs_or, qr_or, qs_cmp, qr_cmp, qs_isn, qr_isn, qs_notn, qr_notn, qs_ix, qr_ix, qs_sl, qr_sl, qs_call, qr_call, qe_call, qs_callv, qr_callv, qe_callv, qs_bi, qr_bi, qs_isi, qr_isi, qs_ise, qr_ise, qs_lc, qr_lc, qs_rng, qr_rng, qs_rev, qr_rev, qs_me, qe_me, qr_v, qx_v, q_seq, q_aug, q_ite, q_wh, q_for, q_for2, fo2_nil, q_retn, q_brk, q_cnt, q_raise, q_tryN, q_tryA, fo_nil, consP_t, tupP_t, lstP_t, allocP_e, negP_i, onTupP_t, onTupO_t, callP_t, onBlP_bl, ifP_bl, getP_non, getP_bl, getP_int, getP_str, getP_tup, getP_lst, getP_scr, getP_own, getP_fn, rawP_non, rawP_bl, rawP_int, rawP_str, rawP_tup, rawP_lst, rawP_scr, rawP_own, rawP_fn, frz_non, frz_bl, frz_int, frz_str, frz_tup, frz_lst, frz_scr, frz_own, frz_fn, frz_exc, inL_non, inL_bl, inL_int, inL_str, inL_fn, inL_exc, inL_lst, inL_scr, inL_own, inL_tup, ls_non, ls_bl, ls_int, ls_str, ls_fn, ls_exc, ls_lst, ls_scr, ls_tup, any_int, any_steps, frzIf_f, frzIf_t, frzs_nil, frzs_cons, frzAt_0, frzAt_s, frzO_n, frzO_s, isL_non, isL_bl, isL_int, isL_str, isL_tup, isL_lst, isL_scr, isL_own, onOwn_o, onSome_s, onIntP_i, onFnP_f, onExcP_f, okOnlyP_ok, onItemsP_s, itemsP_t, itemsP_l, itemsP_s, augP_a, augP_s, onPartP_int, onPartP_abs, meGo_e, onNat_s, setixP_i, meP_app', meP_rev, meP_clear, onSome_if, rc1, rc2, rc3, rc4, rc5, rc6, bp_add, bp_sub, bp_mul, bp_fdiv, bp_mod, bp_addt, bp_addl, cp_lt, cp_le, cp_gt, cp_ge, cp_eq, cp_ne, ep_int, np_int, ep_bl, np_bl, xp_t, xp_l, xp_s, atP_s, slp_t, slp_l, slp_s, i_abs, i_lent, i_lenl, i_lens, i_max, i_min, i_int, i_intb, i_listt, i_listl, i_lists, i_tupt, i_tupl, i_sorted, i_sortedR, intsP_map, sortP_f, sortP_t, t_non, t_bl, t_int, t_str, t_tup, t_lst, tz1, tz2, tz3, nn_non, nn_tup, nn_int, nn_lst, nn_own, rv_t, rp_1, rp_2, rp_3, stepsP_0, Op.then_nx, Op.then_rt, Op.then_ex, Op.then_bk, Op.then_ct, Op.then_bad, Op.turn_nx, Op.turn_ct, Op.turn_bk, Op.turn_rt, Op.turn_ex, ofP_nx, ofP_rt, ofP_ex, tryN_nx, tryA_nx, tryN_rt, tryA_rt, tryA2_rt, tryA_ex, tryN2_rt, tryN2_nx, tryN_ex, at_0, at_1, at_2, at_3, at_m1, at_m2, lt0, lt1, lt2, lt3, lt4, lt5, lt6, lt7, lt8, lt9, lt10, lt11, lt12, lt13, lt14, lt15, le6, le7, le8, le9, le10, le11, le12, le13, le14, le15, le16, le17, le18, le19, le20, le21, le22, le23, le24, le25, takeS_0, takeS_s, dropS_0, dropS_s, MP.tb1, MP.tb2, MP.tb3, MP.tb4, MP.tb5, MP.tn1, MP.tn2, MP.tn3, MP.tn4, MP.tn5, MP.tn6, MP.lim1, MP.lim2, MP.lim3, MP.lim4, MP.lim5, List.getElem?_cons_zero, List.getElem?_cons_succ, List.set_cons_zero, List.set_cons_succ, List.length_cons, List.length_nil, List.map_cons, List.map_nil, List.cons_append, List.nil_append, List.replicate_succ, List.replicate_zero, List.any_cons, List.any_nil, Nat.reduceAdd, Nat.reduceSub, Nat.reduceEqDiff, Nat.reduceLT, Nat.reduceLeDiff, if_true, if_false, ite_true, ite_false, eq_self, Bool.not_true, Bool.not_false, Bool.true_eq_false, Bool.false_eq_true, Bool.or_true, Bool.or_false, Bool.true_or, Bool.false_or, Bool.and_true, Bool.and_false, Bool.or_self, reduceIte, reduceCtorEq, decide_true, decide_false, decide_eq_true_eq, Bool.not_eq_true', decide_eq_false_iff_not, Nat.zero_le, Int.reduceLE, Int.reduceLT, Int.reduceEq, Int.reduceNe, ne_eq, not_false_eq_true, not_true_eq_false, Int.reduceNeg, and_true, true_and, and_false, false_and, or_true, true_or, or_false, false_or, fmp, pp_4, pp_6, pp_9, pp_12, pp_18, pp_20, pp_28, pp_30, pp_40, pp_44, pp_50, pp_57, pp_58, pp_59, pp_60, getP_R, xp_R0, xp_R1, t_R, l_R, nn_R, tupP_R, callP_R, onTupP_R, consP_R, frz_R, rawP_R, inL_R, isL_R, ls_R, items_R, ep_R, np_R, R0n, R0d, R1n, R1d, R_eta, R_0, R_1, R_neg, R_den', R_den1, R_den0, getP_C, xp_C0, xp_C1, C_eta, tupP_C, callP_C, consP_C, t_C, l_C, onTupP_C, ep_C, frz_C, rawP_C, inL_C, isL_C, ls_C, nn_C, any_C, getP_F, xp_F0, xp_F1, t_F, l_F, frz_F, rawP_F, inL_F, isL_F, ls_F, nn_F, tupP_F, any_R, $xs,*] $[$loc]?)
set_option hygiene false in
local macro_rules
  | `(tactic| simp only [MW_] $[$loc:location]?) => `(tactic| simp only [q_tryR, q_try2, q_setlc, tryR_rt, tryR_nx, tryR_ex, noEx_rt, noEx_nx, try2_rt, try2_nx, try2_ex, onLcX_ok, onLcX_exc, vx_int, vx_bl, vx_non, vx_v, vx_bin, vx_neg, vx_call, vx_bi, vx_tup, vx_lst, vx_ix, frzIf_nil, e_tm, qs_tm, qr_tm, isStr_s, slp_str, i_lenstr, bp_adds, itemsP_str, nn_str, Rv.bind_ok, Rv.bind_exc, Rv.bind_bad, Rv.on_ok, Rv.on_exc, Rv.on_bad, fuel_eq, vars, runFP_mk, e_non, e_bl, e_int, e_str, e_v, e_k, e_f, e_nil, e_absent, e_cons, e_tup, e_lst, e_bin, e_neg, e_not, e_and, e_or, e_cmp, e_isn, e_notn, e_ix, e_sl, e_call, e_callv, e_bi, e_isi, e_ise, e_lc, e_rng, e_rev, q_pass, qs_non, qr_non, qs_bl, qr_bl, qs_int, qr_int, qs_str, qr_str, qs_v, qs_k, qr_k, qs_f, qr_f, qs_tup, qr_tup, qs_lst, qr_lst, qs_bin, qr_bin, qs_neg, qr_neg, qs_not, qr_not, qs_and, qr_and, qs_or, qr_or, qs_cmp, qr_cmp, qs_isn, qr_isn, qs_notn, qr_notn, qs_ix, qr_ix, qs_sl, qr_sl, qs_call, qr_call, qe_call, qs_callv, qr_callv, qe_callv, qs_bi, qr_bi, qs_isi, qr_isi, qs_ise, qr_ise, qs_lc, qr_lc, qs_rng, qr_rng, qs_rev, qr_rev, qs_me, qe_me, qr_v, qx_v, q_seq, q_aug, q_ite, q_wh, q_for, q_for2, fo2_nil, q_retn, q_brk, q_cnt, q_raise, q_tryN, q_tryA, fo_nil, consP_t, tupP_t, lstP_t, allocP_e, negP_i, onTupP_t, onTupO_t, callP_t, onBlP_bl, ifP_bl, getP_non, getP_bl, getP_int, getP_str, getP_tup, getP_lst, getP_scr, getP_own, getP_fn, rawP_non, rawP_bl, rawP_int, rawP_str, rawP_tup, rawP_lst, rawP_scr, rawP_own, rawP_fn, frz_non, frz_bl, frz_int, frz_str, frz_tup, frz_lst, frz_scr, frz_own, frz_fn, frz_exc, inL_non, inL_bl, inL_int, inL_str, inL_fn, inL_exc, inL_lst, inL_scr, inL_own, inL_tup, ls_non, ls_bl, ls_int, ls_str, ls_fn, ls_exc, ls_lst, ls_scr, ls_tup, any_int, any_steps, frzIf_f, frzIf_t, frzs_nil, frzs_cons, frzAt_0, frzAt_s, frzO_n, frzO_s, isL_non, isL_bl, isL_int, isL_str, isL_tup, isL_lst, isL_scr, isL_own, onOwn_o, onSome_s, onIntP_i, onFnP_f, onExcP_f, okOnlyP_ok, onItemsP_s, itemsP_t, itemsP_l, itemsP_s, augP_a, augP_s, onPartP_int, onPartP_abs, meGo_e, onNat_s, setixP_i, meP_app', meP_rev, meP_clear, onSome_if, rc1, rc2, rc3, rc4, rc5, rc6, bp_add, bp_sub, bp_mul, bp_fdiv, bp_mod, bp_addt, bp_addl, cp_lt, cp_le, cp_gt, cp_ge, cp_eq, cp_ne, ep_int, np_int, ep_bl, np_bl, xp_t, xp_l, xp_s, atP_s, slp_t, slp_l, slp_s, i_abs, i_lent, i_lenl, i_lens, i_max, i_min, i_int, i_intb, i_listt, i_listl, i_lists, i_tupt, i_tupl, i_sorted, i_sortedR, intsP_map, sortP_f, sortP_t, t_non, t_bl, t_int, t_str, t_tup, t_lst, tz1, tz2, tz3, nn_non, nn_tup, nn_int, nn_lst, nn_own, rv_t, rp_1, rp_2, rp_3, stepsP_0, Op.then_nx, Op.then_rt, Op.then_ex, Op.then_bk, Op.then_ct, Op.then_bad, Op.turn_nx, Op.turn_ct, Op.turn_bk, Op.turn_rt, Op.turn_ex, ofP_nx, ofP_rt, ofP_ex, tryN_nx, tryA_nx, tryN_rt, tryA_rt, tryA2_rt, tryA_ex, tryN2_rt, tryN2_nx, tryN_ex, at_0, at_1, at_2, at_3, at_m1, at_m2, lt0, lt1, lt2, lt3, lt4, lt5, lt6, lt7, lt8, lt9, lt10, lt11, lt12, lt13, lt14, lt15, le6, le7, le8, le9, le10, le11, le12, le13, le14, le15, le16, le17, le18, le19, le20, le21, le22, le23, le24, le25, takeS_0, takeS_s, dropS_0, dropS_s, MP.tb1, MP.tb2, MP.tb3, MP.tb4, MP.tb5, MP.tn1, MP.tn2, MP.tn3, MP.tn4, MP.tn5, MP.tn6, MP.lim1, MP.lim2, MP.lim3, MP.lim4, MP.lim5, List.getElem?_cons_zero, List.getElem?_cons_succ, List.set_cons_zero, List.set_cons_succ, List.length_cons, List.length_nil, List.map_cons, List.map_nil, List.cons_append, List.nil_append, List.replicate_succ, List.replicate_zero, List.any_cons, List.any_nil, Nat.reduceAdd, Nat.reduceSub, Nat.reduceEqDiff, Nat.reduceLT, Nat.reduceLeDiff, if_true, if_false, ite_true, ite_false, eq_self, Bool.not_true, Bool.not_false, Bool.true_eq_false, Bool.false_eq_true, Bool.or_true, Bool.or_false, Bool.true_or, Bool.false_or, Bool.and_true, Bool.and_false, Bool.or_self, reduceIte, reduceCtorEq, decide_true, decide_false, decide_eq_true_eq, Bool.not_eq_true', decide_eq_false_iff_not, Nat.zero_le, Int.reduceLE, Int.reduceLT, Int.reduceEq, Int.reduceNe, ne_eq, not_false_eq_true, not_true_eq_false, Int.reduceNeg, and_true, true_and, and_false, false_and, or_true, true_or, or_false, false_or, fmp, pp_4, pp_6, pp_9, pp_12, pp_18, pp_20, pp_28, pp_30, pp_40, pp_44, pp_50, pp_57, pp_58, pp_59, pp_60, getP_R, xp_R0, xp_R1, t_R, l_R, nn_R, tupP_R, callP_R, onTupP_R, consP_R, frz_R, rawP_R, inL_R, isL_R, ls_R, items_R, ep_R, np_R, R0n, R0d, R1n, R1d, R_eta, R_0, R_1, R_neg, R_den', R_den1, R_den0, getP_C, xp_C0, xp_C1, C_eta, tupP_C, callP_C, consP_C, t_C, l_C, onTupP_C, ep_C, frz_C, rawP_C, inL_C, isL_C, ls_C, nn_C, any_C, getP_F, xp_F0, xp_F1, t_F, l_F, frz_F, rawP_F, inL_F, isL_F, ls_F, nn_F, tupP_F, any_R, getP_W, xp_W0, xp_W1, xp_W2, frz_W, inL_W, isL_W, ls_W, any_W, nn_W, W_eta, tupP_W, consP_W, onTupP_W, callP_W, any_W'] $[$loc]?)
  | `(tactic| simp only [MW_, $xs,*] $[$loc:location]?) => `(tactic| simp only [q_tryR, q_try2, q_setlc, tryR_rt, tryR_nx, tryR_ex, noEx_rt, noEx_nx, try2_rt, try2_nx, try2_ex, onLcX_ok, onLcX_exc, vx_int, vx_bl, vx_non, vx_v, vx_bin, vx_neg, vx_call, vx_bi, vx_tup, vx_lst, vx_ix, frzIf_nil, e_tm, qs_tm, qr_tm, isStr_s, slp_str, i_lenstr, bp_adds, itemsP_str, nn_str, Rv.bind_ok, Rv.bind_exc, Rv.bind_bad, Rv.on_ok, Rv.on_exc, Rv.on_bad, fuel_eq, vars, runFP_mk, e_non, e_bl, e_int, e_str, e_v, e_k, e_f, e_nil, e_absent, e_cons, e_tup, e_lst, e_bin, e_neg, e_not, e_and, e_or, e_cmp, e_isn, e_notn, e_ix, e_sl, e_call, e_callv, e_bi, e_isi, e_ise, e_lc, e_rng, e_rev, q_pass, qs_non, qr_non, qs_bl, qr_bl, qs_int, qr_int, qs_str, qr_str, qs_v, qs_k, qr_k, qs_f, qr_f, qs_tup, qr_tup, qs_lst, qr_lst, qs_bin, qr_bin, qs_neg, qr_neg, qs_not, qr_not, qs_and, qr_and, qs_or, qr_or, qs_cmp, qr_cmp, qs_isn, qr_isn, qs_notn, qr_notn, qs_ix, qr_ix, qs_sl, qr_sl, qs_call, qr_call, qe_call, qs_callv, qr_callv, qe_callv, qs_bi, qr_bi, qs_isi, qr_isi, qs_ise, qr_ise, qs_lc, qr_lc, qs_rng, qr_rng, qs_rev, qr_rev, qs_me, qe_me, qr_v, qx_v, q_seq, q_aug, q_ite, q_wh, q_for, q_for2, fo2_nil, q_retn, q_brk, q_cnt, q_raise, q_tryN, q_tryA, fo_nil, consP_t, tupP_t, lstP_t, allocP_e, negP_i, onTupP_t, onTupO_t, callP_t, onBlP_bl, ifP_bl, getP_non, getP_bl, getP_int, getP_str, getP_tup, getP_lst, getP_scr, getP_own, getP_fn, rawP_non, rawP_bl, rawP_int, rawP_str, rawP_tup, rawP_lst, rawP_scr, rawP_own, rawP_fn, frz_non, frz_bl, frz_int, frz_str, frz_tup, frz_lst, frz_scr, frz_own, frz_fn, frz_exc, inL_non, inL_bl, inL_int, inL_str, inL_fn, inL_exc, inL_lst, inL_scr, inL_own, inL_tup, ls_non, ls_bl, ls_int, ls_str, ls_fn, ls_exc, ls_lst, ls_scr, ls_tup, any_int, any_steps, frzIf_f, frzIf_t, frzs_nil, frzs_cons, frzAt_0, frzAt_s, frzO_n, frzO_s, isL_non, isL_bl, isL_int, isL_str, isL_tup, isL_lst, isL_scr, isL_own, onOwn_o, onSome_s, onIntP_i, onFnP_f, onExcP_f, okOnlyP_ok, onItemsP_s, itemsP_t, itemsP_l, itemsP_s, augP_a, augP_s, onPartP_int, onPartP_abs, meGo_e, onNat_s, setixP_i, meP_app', meP_rev, meP_clear, onSome_if, rc1, rc2, rc3, rc4, rc5, rc6, bp_add, bp_sub, bp_mul, bp_fdiv, bp_mod, bp_addt, bp_addl, cp_lt, cp_le, cp_gt, cp_ge, cp_eq, cp_ne, ep_int, np_int, ep_bl, np_bl, xp_t, xp_l, xp_s, atP_s, slp_t, slp_l, slp_s, i_abs, i_lent, i_lenl, i_lens, i_max, i_min, i_int, i_intb, i_listt, i_listl, i_lists, i_tupt, i_tupl, i_sorted, i_sortedR, intsP_map, sortP_f, sortP_t, t_non, t_bl, t_int, t_str, t_tup, t_lst, tz1, tz2, tz3, nn_non, nn_tup, nn_int, nn_lst, nn_own, rv_t, rp_1, rp_2, rp_3, stepsP_0, Op.then_nx, Op.then_rt, Op.then_ex, Op.then_bk, Op.then_ct, Op.then_bad, Op.turn_nx, Op.turn_ct, Op.turn_bk, Op.turn_rt, Op.turn_ex, ofP_nx, ofP_rt, ofP_ex, tryN_nx, tryA_nx, tryN_rt, tryA_rt, tryA2_rt, tryA_ex, tryN2_rt, tryN2_nx, tryN_ex, at_0, at_1, at_2, at_3, at_m1, at_m2, lt0, lt1, lt2, lt3, lt4, lt5, lt6, lt7, lt8, lt9, lt10, lt11, lt12, lt13, lt14, lt15, le6, le7, le8, le9, le10, le11, le12, le13, le14, le15, le16, le17, le18, le19, le20, le21, le22, le23, le24, le25, takeS_0, takeS_s, dropS_0, dropS_s, MP.tb1, MP.tb2, MP.tb3, MP.tb4, MP.tb5, MP.tn1, MP.tn2, MP.tn3, MP.tn4, MP.tn5, MP.tn6, MP.lim1, MP.lim2, MP.lim3, MP.lim4, MP.lim5, List.getElem?_cons_zero, List.getElem?_cons_succ, List.set_cons_zero, List.set_cons_succ, List.length_cons, List.length_nil, List.map_cons, List.map_nil, List.cons_append, List.nil_append, List.replicate_succ, List.replicate_zero, List.any_cons, List.any_nil, Nat.reduceAdd, Nat.reduceSub, Nat.reduceEqDiff, Nat.reduceLT, Nat.reduceLeDiff, if_true, if_false, ite_true, ite_false, eq_self, Bool.not_true, Bool.not_false, Bool.true_eq_false, Bool.false_eq_true, Bool.or_true, Bool.or_false, Bool.true_or, Bool.false_or, Bool.and_true, Bool.and_false, Bool.or_self, reduceIte, reduceCtorEq, decide_true, decide_false, decide_eq_true_eq, Bool.not_eq_true', decide_eq_false_iff_not, Nat.zero_le, Int.reduceLE, Int.reduceLT, Int.reduceEq, Int.reduceNe, ne_eq, not_false_eq_true, not_true_eq_false, Int.reduceNeg, and_true, true_and, and_false, false_and, or_true, true_or, or_false, false_or, fmp, pp_4, pp_6, pp_9, pp_12, pp_18, pp_20, pp_28, pp_30, pp_40, pp_44, pp_50, pp_57, pp_58, pp_59, pp_60, getP_R, xp_R0, xp_R1, t_R, l_R, nn_R, tupP_R, callP_R, onTupP_R, consP_R, frz_R, rawP_R, inL_R, isL_R, ls_R, items_R, ep_R, np_R, R0n, R0d, R1n, R1d, R_eta, R_0, R_1, R_neg, R_den', R_den1, R_den0, getP_C, xp_C0, xp_C1, C_eta, tupP_C, callP_C, consP_C, t_C, l_C, onTupP_C, ep_C, frz_C, rawP_C, inL_C, isL_C, ls_C, nn_C, any_C, getP_F, xp_F0, xp_F1, t_F, l_F, frz_F, rawP_F, inL_F, isL_F, ls_F, nn_F, tupP_F, any_R, getP_W, xp_W0, xp_W1, xp_W2, frz_W, inL_W, isL_W, ls_W, any_W, nn_W, W_eta, tupP_W, consP_W, onTupP_W, callP_W, any_W', $xs,*] $[$loc]?)
set_option hygiene false in
local macro_rules
  | `(tactic| simp only [MQ_] $[$loc:location]?) => `(tactic| simp only [q_tryR, q_try2, q_setlc, tryR_rt, tryR_nx, tryR_ex, noEx_rt, noEx_nx, try2_rt, try2_nx, try2_ex, onLcX_ok, onLcX_exc, vx_int, vx_bl, vx_non, vx_v, vx_bin, vx_neg, vx_call, vx_bi, vx_tup, vx_lst, vx_ix, frzIf_nil, e_tm, qs_tm, qr_tm, isStr_s, slp_str, i_lenstr, bp_adds, itemsP_str, nn_str, Rv.bind_ok, Rv.bind_exc, Rv.bind_bad, Rv.on_ok, Rv.on_exc, Rv.on_bad, fuel_eq, vars, runFP_mk, e_non, e_bl, e_int, e_str, e_v, e_k, e_f, e_nil, e_absent, e_cons, e_tup, e_lst, e_bin, e_neg, e_not, e_and, e_or, e_cmp, e_isn, e_notn, e_ix, e_sl, e_call, e_callv, e_bi, e_isi, e_ise, e_lc, e_rng, e_rev, q_pass, qs_non, qr_non, qs_bl, qr_bl, qs_int, qr_int, qs_str, qr_str, qs_v, qs_k, qr_k, qs_f, qr_f, qs_tup, qr_tup, qs_lst, qr_lst, qs_bin, qr_bin, qs_neg, qr_neg, qs_not, qr_not, qs_and, qr_and, qs_or, qr_or, qs_cmp, qr_cmp, qs_isn, qr_isn, qs_notn, qr_notn, qs_ix, qr_ix, qs_sl, qr_sl, qs_call, qr_call, qe_call, qs_callv, qr_callv, qe_callv, qs_bi, qr_bi, qs_isi, qr_isi, qs_ise, qr_ise, qs_lc, qr_lc, qs_rng, qr_rng, qs_rev, qr_rev, qs_me, qe_me, qr_v, qx_v, q_seq, q_aug, q_ite, q_wh, q_for, q_for2, fo2_nil, q_retn, q_brk, q_cnt, q_raise, q_tryN, q_tryA, fo_nil, consP_t, tupP_t, lstP_t, allocP_e, negP_i, onTupP_t, onTupO_t, callP_t, onBlP_bl, ifP_bl, getP_non, getP_bl, getP_int, getP_str, getP_tup, getP_lst, getP_scr, getP_own, getP_fn, rawP_non, rawP_bl, rawP_int, rawP_str, rawP_tup, rawP_lst, rawP_scr, rawP_own, rawP_fn, frz_non, frz_bl, frz_int, frz_str, frz_tup, frz_lst, frz_scr, frz_own, frz_fn, frz_exc, inL_non, inL_bl, inL_int, inL_str, inL_fn, inL_exc, inL_lst, inL_scr, inL_own, inL_tup, ls_non, ls_bl, ls_int, ls_str, ls_fn, ls_exc, ls_lst, ls_scr, ls_tup, any_int, any_steps, frzIf_f, frzIf_t, frzs_nil, frzs_cons, frzAt_0, frzAt_s, frzO_n, frzO_s, isL_non, isL_bl, isL_int, isL_str, isL_tup, isL_lst, isL_scr, isL_own, onOwn_o, onSome_s, onIntP_i, onFnP_f, onExcP_f, okOnlyP_ok, onItemsP_s, itemsP_t, itemsP_l, itemsP_s, augP_a, augP_s, onPartP_int, onPartP_abs, meGo_e, onNat_s, setixP_i, meP_app', meP_rev, meP_clear, onSome_if, rc1, rc2, rc3, rc4, rc5, rc6, bp_add, bp_sub, bp_mul, bp_fdiv, bp_mod, bp_addt, bp_addl, cp_lt, cp_le, cp_gt, cp_ge, cp_eq, cp_ne, ep_int, np_int, ep_bl, np_bl, xp_t, xp_l, xp_s, atP_s, slp_t, slp_l, slp_s, i_abs, i_lent, i_lenl, i_lens, i_max, i_min, i_int, i_intb, i_listt, i_listl, i_lists, i_tupt, i_tupl, i_sorted, i_sortedR, intsP_map, sortP_f, sortP_t, t_non, t_bl, t_int, t_str, t_tup, t_lst, tz1, tz2, tz3, nn_non, nn_tup, nn_int, nn_lst, nn_own, rv_t, rp_1, rp_2, rp_3, stepsP_0, Op.then_nx, Op.then_rt, Op.then_ex, Op.then_bk, Op.then_ct, Op.then_bad, Op.turn_nx, Op.turn_ct, Op.turn_bk, Op.turn_rt, Op.turn_ex, ofP_nx, ofP_rt, ofP_ex, tryN_nx, tryA_nx, tryN_rt, tryA_rt, tryA2_rt, tryA_ex, tryN2_rt, tryN2_nx, tryN_ex, at_0, at_1, at_2, at_3, at_m1, at_m2, lt0, lt1, lt2, lt3, lt4, lt5, lt6, lt7, lt8, lt9, lt10, lt11, lt12, lt13, lt14, lt15, le6, le7, le8, le9, le10, le11, le12, le13, le14, le15, le16, le17, le18, le19, le20, le21, le22, le23, le24, le25, takeS_0, takeS_s, dropS_0, dropS_s, MP.tb1, MP.tb2, MP.tb3, MP.tb4, MP.tb5, MP.tn1, MP.tn2, MP.tn3, MP.tn4, MP.tn5, MP.tn6, MP.lim1, MP.lim2, MP.lim3, MP.lim4, MP.lim5, List.getElem?_cons_zero, List.getElem?_cons_succ, List.set_cons_zero, List.set_cons_succ, List.length_cons, List.length_nil, List.map_cons, List.map_nil, List.cons_append, List.nil_append, List.replicate_succ, List.replicate_zero, List.any_cons, List.any_nil, Nat.reduceAdd, Nat.reduceSub, Nat.reduceEqDiff, Nat.reduceLT, Nat.reduceLeDiff, if_true, if_false, ite_true, ite_false, eq_self, Bool.not_true, Bool.not_false, Bool.true_eq_false, Bool.false_eq_true, Bool.or_true, Bool.or_false, Bool.true_or, Bool.false_or, Bool.and_true, Bool.and_false, Bool.or_self, reduceIte, reduceCtorEq, decide_true, decide_false, decide_eq_true_eq, Bool.not_eq_true', decide_eq_false_iff_not, Nat.zero_le, Int.reduceLE, Int.reduceLT, Int.reduceEq, Int.reduceNe, ne_eq, not_false_eq_true, not_true_eq_false, Int.reduceNeg, and_true, true_and, and_false, false_and, or_true, true_or, or_false, false_or, fmp, pp_4, pp_6, pp_9, pp_12, pp_18, pp_20, pp_28, pp_30, pp_40, pp_44, pp_50, pp_57, pp_58, pp_59, pp_60, getP_R, xp_R0, xp_R1, t_R, l_R, nn_R, tupP_R, callP_R, onTupP_R, consP_R, frz_R, rawP_R, inL_R, isL_R, ls_R, items_R, ep_R, np_R, R0n, R0d, R1n, R1d, R_eta, R_0, R_1, R_neg, R_den', R_den1, R_den0, getP_C, xp_C0, xp_C1, C_eta, tupP_C, callP_C, consP_C, t_C, l_C, onTupP_C, ep_C, frz_C, rawP_C, inL_C, isL_C, ls_C, nn_C, any_C, getP_F, xp_F0, xp_F1, t_F, l_F, frz_F, rawP_F, inL_F, isL_F, ls_F, nn_F, tupP_F, any_R, getP_Q, rawP_Q, frz_Q, inL_Q, isL_Q, ls_Q, any_Q, xp_Q0, xp_Q1, t_Q, l_Q, nn_Q] $[$loc]?)
  | `(tactic| simp only [MQ_, $xs,*] $[$loc:location]?) => `(tactic| simp only [q_tryR, q_try2, q_setlc, tryR_rt, tryR_nx, tryR_ex, noEx_rt, noEx_nx, try2_rt, try2_nx, try2_ex, onLcX_ok, onLcX_exc, vx_int, vx_bl, vx_non, vx_v, vx_bin, vx_neg, vx_call, vx_bi, vx_tup, vx_lst, vx_ix, frzIf_nil, e_tm, qs_tm, qr_tm, isStr_s, slp_str, i_lenstr, bp_adds, itemsP_str, nn_str, Rv.bind_ok, Rv.bind_exc, Rv.bind_bad, Rv.on_ok, Rv.on_exc, Rv.on_bad, fuel_eq, vars, runFP_mk, e_non, e_bl, e_int, e_str, e_v, e_k, e_f, e_nil, e_absent, e_cons, e_tup, e_lst, e_bin, e_neg, e_not, e_and, e_or, e_cmp, e_isn, e_notn, e_ix, e_sl, e_call, e_callv, e_bi, e_isi, e_ise, e_lc, e_rng, e_rev, q_pass, qs_non, qr_non, qs_bl, qr_bl, qs_int, qr_int, qs_str, qr_str, qs_v, qs_k, qr_k, qs_f, qr_f, qs_tup, qr_tup, qs_lst, qr_lst, qs_bin, qr_bin, qs_neg, qr_neg, qs_not, qr_not, qs_and, qr_and, qs_or, qr_or, qs_cmp, qr_cmp, qs_isn, qr_isn, qs_notn, qr_notn, qs_ix, qr_ix, qs_sl, qr_sl, qs_call, qr_call, qe_call, qs_callv, qr_callv, qe_callv, qs_bi, qr_bi, qs_isi, qr_isi, qs_ise, qr_ise, qs_lc, qr_lc, qs_rng, qr_rng, qs_rev, qr_rev, qs_me, qe_me, qr_v, qx_v, q_seq, q_aug, q_ite, q_wh, q_for, q_for2, fo2_nil, q_retn, q_brk, q_cnt, q_raise, q_tryN, q_tryA, fo_nil, consP_t, tupP_t, lstP_t, allocP_e, negP_i, onTupP_t, onTupO_t, callP_t, onBlP_bl, ifP_bl, getP_non, getP_bl, getP_int, getP_str, getP_tup, getP_lst, getP_scr, getP_own, getP_fn, rawP_non, rawP_bl, rawP_int, rawP_str, rawP_tup, rawP_lst, rawP_scr, rawP_own, rawP_fn, frz_non, frz_bl, frz_int, frz_str, frz_tup, frz_lst, frz_scr, frz_own, frz_fn, frz_exc, inL_non, inL_bl, inL_int, inL_str, inL_fn, inL_exc, inL_lst, inL_scr, inL_own, inL_tup, ls_non, ls_bl, ls_int, ls_str, ls_fn, ls_exc, ls_lst, ls_scr, ls_tup, any_int, any_steps, frzIf_f, frzIf_t, frzs_nil, frzs_cons, frzAt_0, frzAt_s, frzO_n, frzO_s, isL_non, isL_bl, isL_int, isL_str, isL_tup, isL_lst, isL_scr, isL_own, onOwn_o, onSome_s, onIntP_i, onFnP_f, onExcP_f, okOnlyP_ok, onItemsP_s, itemsP_t, itemsP_l, itemsP_s, augP_a, augP_s, onPartP_int, onPartP_abs, meGo_e, onNat_s, setixP_i, meP_app', meP_rev, meP_clear, onSome_if, rc1, rc2, rc3, rc4, rc5, rc6, bp_add, bp_sub, bp_mul, bp_fdiv, bp_mod, bp_addt, bp_addl, cp_lt, cp_le, cp_gt, cp_ge, cp_eq, cp_ne, ep_int, np_int, ep_bl, np_bl, xp_t, xp_l, xp_s, atP_s, slp_t, slp_l, slp_s, i_abs, i_lent, i_lenl, i_lens, i_max, i_min, i_int, i_intb, i_listt, i_listl, i_lists, i_tupt, i_tupl, i_sorted, i_sortedR, intsP_map, sortP_f, sortP_t, t_non, t_bl, t_int, t_str, t_tup, t_lst, tz1, tz2, tz3, nn_non, nn_tup, nn_int, nn_lst, nn_own, rv_t, rp_1, rp_2, rp_3, stepsP_0, Op.then_nx, Op.then_rt, Op.then_ex, Op.then_bk, Op.then_ct, Op.then_bad, Op.turn_nx, Op.turn_ct, Op.turn_bk, Op.turn_rt, Op.turn_ex, ofP_nx, ofP_rt, ofP_ex, tryN_nx, tryA_nx, tryN_rt, tryA_rt, tryA2_rt, tryA_ex, tryN2_rt, tryN2_nx, tryN_ex, at_0, at_1, at_2, at_3, at_m1, at_m2, lt0, lt1, lt2, lt3, lt4, lt5, lt6, lt7, lt8, lt9, lt10, lt11, lt12, lt13, lt14, lt15, le6, le7, le8, le9, le10, le11, le12, le13, le14, le15, le16, le17, le18, le19, le20, le21, le22, le23, le24, le25, takeS_0, takeS_s, dropS_0, dropS_s, MP.tb1, MP.tb2, MP.tb3, MP.tb4, MP.tb5, MP.tn1, MP.tn2, MP.tn3, MP.tn4, MP.tn5, MP.tn6, MP.lim1, MP.lim2, MP.lim3, MP.lim4, MP.lim5, List.getElem?_cons_zero, List.getElem?_cons_succ, List.set_cons_zero, List.set_cons_succ, List.length_cons, List.length_nil, List.map_cons, List.map_nil, List.cons_append, List.nil_append, List.replicate_succ, List.replicate_zero, List.any_cons, List.any_nil, Nat.reduceAdd, Nat.reduceSub, Nat.reduceEqDiff, Nat.reduceLT, Nat.reduceLeDiff, if_true, if_false, ite_true, ite_false, eq_self, Bool.not_true, Bool.not_false, Bool.true_eq_false, Bool.false_eq_true, Bool.or_true, Bool.or_false, Bool.true_or, Bool.false_or, Bool.and_true, Bool.and_false, Bool.or_self, reduceIte, reduceCtorEq, decide_true, decide_false, decide_eq_true_eq, Bool.not_eq_true', decide_eq_false_iff_not, Nat.zero_le, Int.reduceLE, Int.reduceLT, Int.reduceEq, Int.reduceNe, ne_eq, not_false_eq_true, not_true_eq_false, Int.reduceNeg, and_true, true_and, and_false, false_and, or_true, true_or, or_false, false_or, fmp, pp_4, pp_6, pp_9, pp_12, pp_18, pp_20, pp_28, pp_30, pp_40, pp_44, pp_50, pp_57, pp_58, pp_59, pp_60, getP_R, xp_R0, xp_R1, t_R, l_R, nn_R, tupP_R, callP_R, onTupP_R, consP_R, frz_R, rawP_R, inL_R, isL_R, ls_R, items_R, ep_R, np_R, R0n, R0d, R1n, R1d, R_eta, R_0, R_1, R_neg, R_den', R_den1, R_den0, getP_C, xp_C0, xp_C1, C_eta, tupP_C, callP_C, consP_C, t_C, l_C, onTupP_C, ep_C, frz_C, rawP_C, inL_C, isL_C, ls_C, nn_C, any_C, getP_F, xp_F0, xp_F1, t_F, l_F, frz_F, rawP_F, inL_F, isL_F, ls_F, nn_F, tupP_F, any_R, getP_Q, rawP_Q, frz_Q, inL_Q, isL_Q, ls_Q, any_Q, xp_Q0, xp_Q1, t_Q, l_Q, nn_Q, $xs,*] $[$loc]?)
namespace Q
open PySem MP FP
/-! ### sizes -/
theorem BIG_ex : ∃ n : Nat, n = 13500 := ⟨_, rfl⟩
noncomputable def BIG : Nat := Classical.choose BIG_ex
theorem BIG_eq : BIG = 13500 := Classical.choose_spec BIG_ex
theorem SZ_ex : ∃ n : Nat, n = 6700 := ⟨_, rfl⟩
noncomputable def SZ : Nat := Classical.choose SZ_ex
theorem SZ_eq : SZ = 6700 := Classical.choose_spec SZ_ex
theorem z1 : SZ ≤ BIG := by rw [SZ_eq, BIG_eq]; decide
theorem z2 : SZ + 1 ≤ BIG := by rw [SZ_eq, BIG_eq]; decide
theorem z3 : SZ + SZ ≤ BIG := by rw [SZ_eq, BIG_eq]; decide
theorem z4 : SZ + SZ + 1 ≤ BIG := by rw [SZ_eq, BIG_eq]; decide
theorem zm : SZ + SZ ≤ 1000000 := by rw [SZ_eq]; decide
theorem log2_lt_of' {n k : Nat} (h : n < 2 ^ k) (h0 : n ≠ 0) : n.log2 < k := (Nat.log2_lt h0).mpr h
theorem divOk_of {i j : Int} (hj : j ≠ 0) (hi : i.natAbs < 2 ^ BIG) : divOk i j := by
  refine ⟨hj, ?_⟩
  unfold Builtin.divisionGoesByPylong
  have hx : (if i == 0 then 0 else i.natAbs.log2 / 30 + 1) ≤ 450 := by
    by_cases h0 : i = 0
    · subst h0
      decide
    · rw [if_neg (by simpa using h0)]
      have := log2_lt_of' hi (by omega)
      rw [BIG_eq] at this
      omega
  simp only [Bool.and_eq_false_iff, decide_eq_false_iff_not, Nat.not_lt]
  by_cases hy : (if j == 0 then 0 else j.natAbs.log2 / 30 + 1) > 300
  · right
    omega
  · left
    omega
theorem mulOk_of {i j : Int} {a b : Nat} (hi : i.natAbs < 2 ^ a) (hj : j.natAbs < 2 ^ b) (h : a + b ≤ 1000000) : mulOk i j := by
  by_cases h0 : i = 0
  · subst h0
    left
    decide
  by_cases h1 : j = 0
  · subst h1
    right
    left
    decide
  right
  right
  have := log2_lt_of' hi (by omega)
  have := log2_lt_of' hj (by omega)
  omega
theorem mulOk_small {i j : Int} (h : j.natAbs < 2 ^ 64) : mulOk i j := by
  right
  left
  omega
theorem mulOk_small' {i j : Int} (h : i.natAbs < 2 ^ 64) : mulOk i j := by
  left
  omega

/-- a script's number -/
def cell (ns : List Int) (k : Int) : Int := ns.getD k.toNat 0
theorem sc_at (ns : List Int) (k : Int) (h0 : 0 ≤ k) (h : k < ns.length) : L2.atI (ns.map Dv.int) k = some (.int (cell ns k)) := by
  have hk : k.toNat < ns.length := by omega
  have e := at_map (f := Dv.int) (List.getElem?_eq_getElem hk)
  rw [show ((k.toNat : Nat) : Int) = k by omega] at e
  rw [e]
  unfold cell
  rw [List.getD_eq_getElem?_getD, List.getElem?_eq_getElem hk]
  rfl
def sg (c m : Int) : Int := if c % 2 = 1 then -(c / 2 % m) else c / 2 % m
theorem sg_abs (c m : Int) (h : 0 < m) : (sg c m).natAbs < m.natAbs := by
  have h1 := Int.emod_nonneg (c / 2) (b := m) (by omega)
  have h2 := Int.emod_lt_of_pos (c / 2) h
  unfold sg
  split <;> omega
theorem fdiv2 (c : Int) : c.fdiv 2 = c / 2 := Int.fdiv_eq_ediv_of_nonneg _ (by omega)
theorem divOk2 (c : Int) : divOk c 2 := ⟨by decide, by
  unfold Builtin.divisionGoesByPylong
  simp only [Bool.and_eq_false_iff, decide_eq_false_iff_not, Nat.not_lt]
  left
  decide⟩
theorem fmp (a : Int) {b : Int} (h : 0 < b) : a.fmod b = a % b := Int.fmod_eq_emod_of_nonneg _ (by omega)
theorem pp_4 : binP .pow (.int 10) (.int 4) = .ok (.int 10000) := rfl
theorem pp_6 : binP .pow (.int 10) (.int 6) = .ok (.int 1000000) := rfl
theorem pp_9 : binP .pow (.int 10) (.int 9) = .ok (.int 1000000000) := rfl
theorem pp_12 : binP .pow (.int 10) (.int 12) = .ok (.int 1000000000000) := rfl
theorem pp_18 : binP .pow (.int 10) (.int 18) = .ok (.int 1000000000000000000) := rfl
theorem pp_20 : binP .pow (.int 10) (.int 20) = .ok (.int 100000000000000000000) := rfl
theorem pp_28 : binP .pow (.int 10) (.int 28) = .ok (.int 10000000000000000000000000000) := rfl
theorem pp_30 : binP .pow (.int 10) (.int 30) = .ok (.int 1000000000000000000000000000000) := rfl
theorem pp_40 : binP .pow (.int 10) (.int 40) = .ok (.int 10000000000000000000000000000000000000000) := rfl
theorem pp_44 : binP .pow (.int 10) (.int 44) = .ok (.int 100000000000000000000000000000000000000000000) := rfl
theorem pp_50 : binP .pow (.int 10) (.int 50) = .ok (.int 100000000000000000000000000000000000000000000000000) := rfl
theorem pp_57 : binP .pow (.int 10) (.int 57) = .ok (.int 1000000000000000000000000000000000000000000000000000000000) := rfl
theorem pp_58 : binP .pow (.int 10) (.int 58) = .ok (.int 10000000000000000000000000000000000000000000000000000000000) := rfl
theorem pp_59 : binP .pow (.int 10) (.int 59) = .ok (.int 100000000000000000000000000000000000000000000000000000000000) := rfl
theorem pp_60 : binP .pow (.int 10) (.int 60) = .ok (.int 1000000000000000000000000000000000000000000000000000000000000) := rfl
theorem abs_nat (a : Int) : (if a < 0 then -a else a) = ((a.natAbs : Nat) : Int) := by
  split <;> omega


end Q
namespace Q
open PySem MP FP
/-- d stands for the data p, k deep -/
structure IsP (k : Nat) (d : Dv) (p : PyData) : Prop where
  rd : ∀ n, k ≤ n → pyP n d = some p
  lay : p.canLay0 = true
  dep : p.depth ≤ k
theorem IsP.mono {k k' : Nat} {d : Dv} {p : PyData} (h : IsP k d p) (hk : k ≤ k') : IsP k' d p := ⟨fun n hn => h.rd n (by omega), h.lay, by have := h.dep; omega⟩
theorem eqP_p {x y : Dv} {p q : PyData} {k k' : Nat} (hx : IsP k x p) (hy : IsP k' y q) (hk : k ≤ 12) (hk' : k' ≤ 12) (f : Bool → Bool) : eqP x y f = .ok (.bl (f (PyData.eqv p q))) := by
  have e1 : pyP DEEP x = some p := hx.rd _ hk
  have e2 : pyP DEEP y = some q := hy.rd _ hk'
  have s1 : SeqAt.shaped p = true := by
    unfold SeqAt.shaped
    rw [hx.lay, decide_eq_true (show p.depth ≤ 64 by have := hx.dep; omega)]
    rfl
  have s2 : SeqAt.shaped q = true := by
    unfold SeqAt.shaped
    rw [hy.lay, decide_eq_true (show q.depth ≤ 64 by have := hy.dep; omega)]
    rfl
  unfold eqP
  rw [e1, e2]
  exact if_pos ⟨s1, s2⟩
theorem IsP.int (i : Int) : IsP 1 (.int i) (.int i) := ⟨fun n hn => by
  obtain ⟨m, rfl⟩ : ∃ m, n = m + 1 := ⟨n - 1, by omega⟩
  rfl, rfl, by simp [PyData.depth]⟩
theorem IsP.bl (i : Bool) : IsP 1 (.bl i) (.bool i) := ⟨fun n hn => by
  obtain ⟨m, rfl⟩ : ∃ m, n = m + 1 := ⟨n - 1, by omega⟩
  rfl, rfl, by simp [PyData.depth]⟩
theorem IsP.non : IsP 1 .non .none := ⟨fun n hn => by
  obtain ⟨m, rfl⟩ : ∃ m, n = m + 1 := ⟨n - 1, by omega⟩
  rfl, rfl, by simp [PyData.depth]⟩
/-- a row of data -/
inductive IsPs (k : Nat) : List Dv → List PyData → Prop where
  | nil : IsPs k [] []
  | cons {d p ds ps} : IsP k d p → IsPs k ds ps → IsPs k (d :: ds) (p :: ps)
theorem IsPs.rd {k : Nat} {ds : List Dv} {ps : List PyData} (h : IsPs k ds ps) : (∀ n, k ≤ n → pyAllP (pyP n) ds = some ps) ∧ PyData.canLayAll0 ps = true ∧ PyData.depthAll ps ≤ k := by
  induction h with
  | nil => exact ⟨fun _ _ => rfl, rfl, by simp [PyData.depthAll]⟩
  | cons h1 h2 ih =>
    obtain ⟨a, b, c⟩ := ih
    refine ⟨fun n hn => ?_, ?_, ?_⟩
    · unfold pyAllP
      rw [h1.rd n hn, a n hn]
    · unfold PyData.canLayAll0
      rw [h1.lay, b]
      rfl
    · unfold PyData.depthAll
      have := h1.dep
      omega
theorem IsPs.map {k : Nat} {α : Type} (f : α → Dv) (g : α → PyData) (h : ∀ a, IsP k (f a) (g a)) : ∀ xs : List α, IsPs k (xs.map f) (xs.map g)
  | [] => .nil
  | x :: xs => .cons (h x) (IsPs.map f g h xs)
theorem IsP.tup {k : Nat} {ds : List Dv} {ps : List PyData} (h : IsPs k ds ps) : IsP (k + 1) (.tup ds) (.tuple ps) := by
  obtain ⟨a, b, c⟩ := h.rd
  refine ⟨fun n hn => ?_, ?_, ?_⟩
  · obtain ⟨m, rfl⟩ : ∃ m, n = m + 1 := ⟨n - 1, by omega⟩
    unfold pyP
    rw [a m (by omega)]
    rfl
  · unfold PyData.canLay0
    exact b
  · unfold PyData.depth
    omega
theorem IsP.lst {k : Nat} {ds : List Dv} {ps : List PyData} (h : IsPs k ds ps) : IsP (k + 1) (.lst ds) (.list ps) := by
  obtain ⟨a, b, c⟩ := h.rd
  refine ⟨fun n hn => ?_, ?_, ?_⟩
  · obtain ⟨m, rfl⟩ : ∃ m, n = m + 1 := ⟨n - 1, by omega⟩
    unfold pyP
    rw [a m (by omega)]
    rfl
  · unfold PyData.canLay0
    exact b
  · unfold PyData.depth
    omega
theorem eqv_int (i j : Int) : PyData.eqv (.int i) (.int j) = decide (i = j) := by
  unfold PyData.eqv
  exact Bool.beq_eq_decide_eq i j
theorem eqv_tup (xs ys : List PyData) : PyData.eqv (.tuple xs) (.tuple ys) = PyData.eqvAll xs ys := by
  unfold PyData.eqv
  rfl
theorem eqv_list (xs ys : List PyData) : PyData.eqv (.list xs) (.list ys) = PyData.eqvAll xs ys := by
  unfold PyData.eqv
  rfl
theorem eqvAll_nil : PyData.eqvAll [] [] = true := by unfold PyData.eqvAll; rfl
theorem eqvAll_cons (x y : PyData) (xs ys : List PyData) : PyData.eqvAll (x :: xs) (y :: ys) = (PyData.eqv x y && PyData.eqvAll xs ys) := by rw [PyData.eqvAll]
theorem eqvAll_nc (y : PyData) (ys : List PyData) : PyData.eqvAll [] (y :: ys) = false := by rw [PyData.eqvAll]
theorem eqvAll_cn (y : PyData) (ys : List PyData) : PyData.eqvAll (y :: ys) [] = false := by rw [PyData.eqvAll]
/-- rows alike, item by item -/
theorem eqvAll_map {α : Type} [DecidableEq α] (g : α → PyData) (h : ∀ a b, PyData.eqv (g a) (g b) = decide (a = b)) : ∀ xs ys : List α, PyData.eqvAll (xs.map g) (ys.map g) = decide (xs = ys)
  | [], [] => by rw [List.map_nil, eqvAll_nil]; rfl
  | [], y :: ys => by rw [List.map_nil, List.map_cons, eqvAll_nc]; simp
  | x :: xs, [] => by rw [List.map_nil, List.map_cons, eqvAll_cn]; simp
  | x :: xs, y :: ys => by
    rw [List.map_cons, List.map_cons, eqvAll_cons, h, eqvAll_map g h xs ys]
    by_cases h1 : x = y <;> by_cases h2 : xs = ys <;> simp [h1, h2]


end Q
namespace Q
open PySem MP FP
/-- a ratio as the program has it -/
def dR (q : Rat) : Dv := .tup [.int q.num, .int (q.den : Int)]
def pR (q : Rat) : PyData := .tuple [.int q.num, .int (q.den : Int)]
theorem dR_P (q : Rat) : IsP 2 (dR q) (pR q) := IsP.tup (.cons (IsP.int _) (.cons (IsP.int _) .nil))
theorem eqv_R (p q : Rat) : PyData.eqv (pR p) (pR q) = decide (p = q) := by
  unfold pR
  rw [eqv_tup, eqvAll_cons, eqvAll_cons, eqvAll_nil, eqv_int, eqv_int]
  have : p = q ↔ p.num = q.num ∧ (p.den : Int) = q.den := ⟨fun h => by subst h; exact ⟨rfl, rfl⟩, fun ⟨a, b⟩ => Rat.ext a (by omega)⟩
  by_cases h1 : p.num = q.num <;> by_cases h2 : (p.den : Int) = q.den <;> simp [h1, h2, this]
theorem ep_R (p q : Rat) : eqP (dR p) (dR q) id = .ok (.bl (decide (p = q))) := by
  rw [eqP_p (dR_P p) (dR_P q) (by decide) (by decide), eqv_R]
  rfl
theorem np_R (p q : Rat) : eqP (dR p) (dR q) not = .ok (.bl (!decide (p = q))) := by
  rw [eqP_p (dR_P p) (dR_P q) (by decide) (by decide), eqv_R]
theorem getP_R {q : Rat} : getP (some (some (dR q))) = .ok (dR q) := rfl
theorem rawP_R {q : Rat} : rawP (some (some (dR q))) = .rt (dR q) := rfl
theorem frz_R {q : Rat} : frz (dR q) = dR q := rfl
theorem isL_R {q : Rat} : isL (dR q) = false := rfl
theorem inL_R {q : Rat} : inL (dR q) = false := rfl
theorem ls_R {n : Nat} {q : Rat} : lsF (n + 2) (dR q) = false := rfl
theorem any_R {n : Nat} {xs : List Rat} : (xs.map dR).any (lsF (n + 2)) = false := any_f (fun _ => rfl) xs
theorem xp_R0 {q : Rat} : ixP (dR q) (.int 0) = .ok (.int q.num) := rfl
theorem xp_R1 {q : Rat} : ixP (dR q) (.int 1) = .ok (.int (q.den : Int)) := rfl
theorem t_R {q : Rat} {t : Ty} : tyP (dR q) t = .ok (.bl (t == .tuple)) := rfl
theorem l_R {q : Rat} : biP .len [dR q] = .ok (.int 2) := rfl
theorem nn_R {q : Rat} : isNonP (dR q) = false := rfl
theorem tupP_R {q : Rat} : tupP (dR q) = .ok (dR q) := by
  show (if 2 ≤ LIM then Rv.ok (dR q) else .bad) = _
  rw [if_pos (by decide)]
theorem callP_R {Φ : Str → List Dv → Rv Dv} {f : Str} {q : Rat} : callP Φ f (dR q) = Φ f [.int q.num, .int (q.den : Int)] := rfl
theorem onTupP_R {q : Rat} {f : List Dv → Rv Dv} : onTupP (dR q) f = f [.int q.num, .int (q.den : Int)] := rfl
theorem consP_R {x : Dv} {q : Rat} : consP x (dR q) = .ok (.tup [frz x, .int q.num, .int (q.den : Int)]) := rfl
theorem R0n : (0 : Rat).num = 0 := rfl
theorem R0d : (((0 : Rat).den : Nat) : Int) = 1 := rfl
theorem R1n : (1 : Rat).num = 1 := rfl
theorem R1d : (((1 : Rat).den : Nat) : Int) = 1 := rfl
theorem items_R {q : Rat} : itemsP (dR q) = some [.int q.num, .int (q.den : Int)] := rfl
theorem R_0 : Dv.tup [.int 0, .int 1] = dR 0 := rfl
theorem R_1 : Dv.tup [.int 1, .int 1] = dR 1 := rfl
theorem R_eta {q : Rat} : Dv.tup [.int q.num, .int (q.den : Int)] = dR q := rfl
theorem R_neg {q : Rat} : Dv.tup [.int (-q.num), .int (q.den : Int)] = dR (-q) := rfl
theorem R_den {q : Rat} : (q.den : Int) ≠ 0 := by have := q.den_pos; omega
theorem R_den' {q : Rat} : ((q.den : Int) = 0) = False := by have := q.den_pos; simp only [eq_iff_iff, iff_false]; omega
theorem R_den1 {q : Rat} : ((q.den : Int) < 1) = False := by have := q.den_pos; simp only [eq_iff_iff, iff_false]; omega
theorem R_den0 {q : Rat} : ((q.den : Int) < 0) = False := by have := q.den_pos; simp only [eq_iff_iff, iff_false]; omega

/-- how large a ratio's figures are -/
def Rb (q : Rat) (k : Nat) : Prop := q.num.natAbs < 2 ^ k ∧ q.den < 2 ^ k
/-- small enough for one step more -/
def Sz (q : Rat) : Prop := Rb q SZ
theorem Rb.mono {q : Rat} {k k' : Nat} (h : Rb q k) (hk : k ≤ k') : Rb q k' := ⟨Nat.lt_of_lt_of_le h.1 (Nat.pow_le_pow_right (by decide) hk), Nat.lt_of_lt_of_le h.2 (Nat.pow_le_pow_right (by decide) hk)⟩
theorem Rb.sz {q : Rat} {k : Nat} (h : Rb q k) (hk : k ≤ 6700) : Sz q := h.mono (by rw [SZ_eq]; exact hk)
theorem Rb.div {t b : Int} {k : Nat} (ht : t.natAbs < 2 ^ k) (hb : b.natAbs < 2 ^ k) (h0 : b ≠ 0) : Rb (Rat.divInt t b) k := by
  constructor
  · rw [Rat.num_divInt, Int.natAbs_ediv_of_dvd]
    · refine Nat.lt_of_le_of_lt (Nat.div_le_self _ _) ?_
      rw [Int.natAbs_mul, Int.natAbs_sign_of_ne_zero h0, Nat.one_mul]
      exact ht
    · exact Int.dvd_mul_of_dvd_right (Int.gcd_dvd_right ..)
  · rw [Rat.den_divInt, if_neg h0]
    exact Nat.lt_of_le_of_lt (Nat.div_le_self _ _) hb
theorem mul_lt {a b : Int} {j k : Nat} (ha : a.natAbs < 2 ^ j) (hb : b.natAbs < 2 ^ k) : (a * b).natAbs < 2 ^ (j + k) := by
  rw [Int.natAbs_mul, Nat.pow_add]
  exact Nat.mul_lt_mul'' ha hb
theorem add_lt {a b : Int} {k : Nat} (ha : a.natAbs < 2 ^ k) (hb : b.natAbs < 2 ^ k) : (a + b).natAbs < 2 ^ (k + 1) := by
  have := Int.natAbs_add_le a b
  have e : 2 ^ (k + 1) = 2 ^ k + 2 ^ k := by omega
  omega
theorem sub_lt {a b : Int} {k : Nat} (ha : a.natAbs < 2 ^ k) (hb : b.natAbs < 2 ^ k) : (a - b).natAbs < 2 ^ (k + 1) := by
  have := Int.natAbs_sub_le a b
  have e : 2 ^ (k + 1) = 2 ^ k + 2 ^ k := by omega
  omega
theorem den_lt {q : Rat} {k : Nat} (h : Rb q k) : ((q.den : Int)).natAbs < 2 ^ k := by
  rw [Int.natAbs_natCast]
  exact h.2
theorem up_lt {a : Int} {k k' : Nat} (h : a.natAbs < 2 ^ k) (hk : k ≤ k') : a.natAbs < 2 ^ k' := Nat.lt_of_lt_of_le h (Nat.pow_le_pow_right (by decide) hk)
theorem add_R (p q : Rat) : p + q = Rat.divInt (p.num * q.den + q.num * p.den) (p.den * q.den) := by
  conv => lhs; rw [← Rat.num_divInt_den p, ← Rat.num_divInt_den q]
  rw [Rat.divInt_add_divInt _ _ R_den R_den]
theorem sub_R (p q : Rat) : p - q = Rat.divInt (p.num * q.den - q.num * p.den) (p.den * q.den) := by
  conv => lhs; rw [← Rat.num_divInt_den p, ← Rat.num_divInt_den q]
  rw [Rat.divInt_sub_divInt _ _ R_den R_den]
theorem mul_R (p q : Rat) : p * q = Rat.divInt (p.num * q.num) (p.den * q.den) := by
  conv => lhs; rw [← Rat.num_divInt_den p, ← Rat.num_divInt_den q]
  rw [Rat.divInt_mul_divInt]
theorem div_R (p q : Rat) : p / q = Rat.divInt (p.num * q.den) (p.den * q.num) := by
  rw [Rat.div_def, Rat.inv_def]
  conv => lhs; rw [← Rat.num_divInt_den p]
  rw [Rat.divInt_mul_divInt]
theorem Rb.add {p q : Rat} {j k : Nat} (hp : Rb p j) (hq : Rb q k) : Rb (p + q) (j + k + 1) := by
  rw [add_R]
  refine Rb.div (add_lt (mul_lt hp.1 (den_lt hq)) ?_) (up_lt (mul_lt (den_lt hp) (den_lt hq)) (by omega)) ?_
  · rw [Nat.add_comm]
    exact mul_lt hq.1 (den_lt hp)
  · exact Int.mul_ne_zero R_den R_den
theorem Rb.sub {p q : Rat} {j k : Nat} (hp : Rb p j) (hq : Rb q k) : Rb (p - q) (j + k + 1) := by
  rw [sub_R]
  refine Rb.div (sub_lt (mul_lt hp.1 (den_lt hq)) ?_) (up_lt (mul_lt (den_lt hp) (den_lt hq)) (by omega)) ?_
  · rw [Nat.add_comm]
    exact mul_lt hq.1 (den_lt hp)
  · exact Int.mul_ne_zero R_den R_den
theorem Rb.mul {p q : Rat} {j k : Nat} (hp : Rb p j) (hq : Rb q k) : Rb (p * q) (j + k) := by
  rw [mul_R]
  exact Rb.div (mul_lt hp.1 hq.1) (mul_lt (den_lt hp) (den_lt hq)) (Int.mul_ne_zero R_den R_den)
theorem Rb.neg {p : Rat} {j : Nat} (hp : Rb p j) : Rb (-p) j := by
  refine ⟨?_, ?_⟩
  · rw [Rat.neg_num, Int.natAbs_neg]
    exact hp.1
  · rw [Rat.neg_den]
    exact hp.2
theorem num0 {q : Rat} : (q.num = 0) = (q = 0) := by
  simp only [eq_iff_iff]
  exact Rat.num_eq_zero
theorem Rb.quo {p q : Rat} {j k : Nat} (hp : Rb p j) (hq : Rb q k) (h0 : q ≠ 0) : Rb (p / q) (j + k) := by
  rw [div_R]
  refine Rb.div (mul_lt hp.1 (den_lt hq)) (mul_lt (den_lt hp) hq.1) (Int.mul_ne_zero R_den ?_)
  rw [Ne, num0]
  exact h0
theorem same_den {p q : Rat} (h : (p.den : Int) = q.den) : Rat.divInt (p.num + q.num) p.den = p + q := by
  conv => rhs; rw [← Rat.num_divInt_den p, ← Rat.num_divInt_den q, ← h]
  rw [Rat.divInt_add_divInt _ _ R_den R_den, Rat.divInt_eq_divInt_iff R_den (Int.mul_ne_zero R_den R_den)]
  grind
theorem same_den' {p q : Rat} (h : (p.den : Int) = q.den) : Rat.divInt (p.num - q.num) p.den = p - q := by
  conv => rhs; rw [← Rat.num_divInt_den p, ← Rat.num_divInt_den q, ← h]
  rw [Rat.divInt_sub_divInt _ _ R_den R_den, Rat.divInt_eq_divInt_iff R_den (Int.mul_ne_zero R_den R_den)]
  grind
theorem div_pos_parts (t b : Int) (hb : 0 < b) : t.fdiv (Int.gcd t b : Nat) = (Rat.divInt t b).num ∧ b.fdiv (Int.gcd t b : Nat) = ((Rat.divInt t b).den : Int) := by
  constructor
  · rw [Rat.num_divInt, Int.sign_eq_one_of_pos hb, Int.one_mul, Int.gcd_comm b t, Int.fdiv_eq_ediv_of_nonneg _ (by omega)]
  · rw [Rat.den_divInt, if_neg (by omega), Int.gcd_comm b t, Int.fdiv_eq_ediv_of_nonneg _ (by omega), Int.natCast_ediv]
    congr 1
    omega
theorem div_neg_parts (t b : Int) (hb : b < 0) : t.fdiv (-(Int.gcd t b : Nat)) = (Rat.divInt t b).num ∧ b.fdiv (-(Int.gcd t b : Nat)) = ((Rat.divInt t b).den : Int) := by
  have e : Rat.divInt t b = Rat.divInt (-t) (-b) := by
    rw [Rat.divInt_eq_divInt_iff (by omega) (by omega)]
    grind
  have := div_pos_parts (-t) (-b) (by omega)
  rw [e, ← this.1, ← this.2, Int.neg_gcd, Int.gcd_neg]
  constructor
  · rw [← Int.neg_fdiv_neg, Int.neg_neg]
  · rw [← Int.neg_fdiv_neg, Int.neg_neg]
theorem divInt_1 (t : Int) : Dv.tup [.int t, .int 1] = dR (Rat.divInt t 1) := by
  have := div_pos_parts t 1 (by decide)
  unfold dR
  rw [← this.1, ← this.2]
  simp
/-- a drawn bottom -/
def lo (o m : Int) : Int := if o % m > 1 then o % m else 1
theorem lo_pos (o m : Int) : 0 < lo o m := by unfold lo; split <;> omega
theorem lo_abs (o m : Int) (h : 1 < m) : (lo o m).natAbs < m.natAbs := by
  have h1 := Int.emod_nonneg o (b := m) (by omega)
  have h2 := Int.emod_lt_of_pos o (b := m) (by omega)
  unfold lo
  split <;> omega
theorem sg_big (c m : Int) {k : Nat} (h : 0 < m) (hm : m.natAbs ≤ 2 ^ k) : (sg c m).natAbs < 2 ^ k := Nat.lt_of_lt_of_le (sg_abs c m h) hm
theorem lo_big (c m : Int) {k : Nat} (h : 1 < m) (hm : m.natAbs ≤ 2 ^ k) : (lo c m).natAbs < 2 ^ k := Nat.lt_of_lt_of_le (lo_abs c m h) hm
theorem le_big {k : Nat} (h : k ≤ 13500) : k ≤ BIG := by rw [BIG_eq]; exact h
theorem le_sz {k : Nat} (h : k ≤ 6700) : k ≤ SZ := by rw [SZ_eq]; exact h
theorem Sz0 : Sz 0 := Rb.sz (k := 2) ⟨by decide, by decide⟩ (by decide)


end Q
namespace Q
open PySem MP FP
theorem gcd_loop {Φ : Str → List Dv → Rv Dv} : ∀ (n : Nat) (a b : Nat) (r : Option Dv), b ≤ n → ∃ r', whP Φ C_divisor_1 B_divisor_1 [some (.int a), some (.int b), r] = .nx [some (.int (Nat.gcd a b)), some (.int 0), r']
  | n, a, 0, r, _ => by
    refine ⟨r, ?_⟩
    rw [wh_end (by simp only [ME_, VC_divisor_1] <;> rfl)]
    simp
  | 0, a, b + 1, r, h => absurd h (by omega)
  | n + 1, a, b + 1, r, h => by
    have hb : ((b + 1 : Nat) : Int) ≠ 0 := by omega
    have hlt : a % (b + 1) < b + 1 := Nat.mod_lt _ (by omega)
    obtain ⟨r', ih⟩ := gcd_loop n (b + 1) (a % (b + 1)) (some (.int ((a % (b + 1) : Nat) : Int))) (by omega)
    refine ⟨r', ?_⟩
    have hm : (a : Int).fmod ((b + 1 : Nat) : Int) = ((a % (b + 1) : Nat) : Int) := by
      rw [Int.fmod_eq_emod_of_nonneg _ (by omega)]
      rfl
    have hd : (0 : Int) < ((b + 1 : Nat) : Int) := by omega
    rw [wh_go (by simp only [ME_, VC_divisor_1, hd]) (by simp only [ME_, VB_divisor_1, hb, hm] <;> rfl) ih (fun z => by cases z)]
    rw [Nat.gcd_comm a, Nat.gcd_rec (b + 1) a, Nat.gcd_comm]
theorem abs_eq (a : Int) : (if a < 0 then -a else a) = ((a.natAbs : Nat) : Int) := by
  split <;> omega
theorem r_divisor (n : Nat) (a b : Int) : runTP T (n + 1) "divisor" [.int a, .int b] = .ok (.int (Int.gcd a b)) := by
  rw [runTP_succ T_divisor]
  obtain ⟨r, h⟩ := gcd_loop (Φ := runTP T n) b.natAbs a.natAbs b.natAbs none (Nat.le_refl _)
  unfold F_divisor
  simp only [ME_, abs_eq]
  rw [h]
  rfl

end Q
namespace Q
open PySem MP FP
theorem r_is_whole (n : Nat) (a : Int) : runTP T (n + 1) "is_whole" [.int a] = .ok (.bl true) := by
  rw [runTP_succ T_is_whole]
  unfold F_is_whole
  simp only [ME_]

end Q
namespace Q
open PySem MP FP
theorem r_ratio (n : Nat) (t b : Int) (hb : b ≠ 0) (ht : t.natAbs < 2 ^ BIG) (hbb : b.natAbs < 2 ^ BIG) : runTP T (n + 2) "ratio" [.int t, .int b] = .ok (dR (Rat.divInt t b)) := by
  rw [runTP_succ T_ratio]
  unfold F_ratio
  by_cases h1 : b = 1
  · subst h1
    simp only [MR_, r_is_whole, divInt_1]
  have hg : ((Int.gcd t b : Nat) : Int) ≠ 0 := by
    intro h
    have h' : Int.gcd t b = 0 := by omega
    exact hb (Int.gcd_eq_zero_iff.mp h').2
  by_cases hn : b < 0
  · have hg' : -((Int.gcd t b : Nat) : Int) ≠ 0 := by omega
    have d1 := divOk_of hg' ht
    have d2 := divOk_of hg' hbb
    have hp := div_neg_parts t b hn
    simp only [MR_, r_is_whole, r_divisor, hb, h1, hn, d1, d2, hp.1, hp.2]
  · have hp := div_pos_parts t b (by omega)
    have d1 := divOk_of hg ht
    have d2 := divOk_of hg hbb
    simp only [MR_, r_is_whole, r_divisor, hb, h1, hn, d1, d2, hp.1, hp.2]
theorem r_ratio_0 (n : Nat) (t : Int) : runTP T (n + 2) "ratio" [.int t, .int 0] = .exc "NoRatio" := by
  rw [runTP_succ T_ratio]
  unfold F_ratio
  simp only [MR_, r_is_whole]

end Q
namespace Q
open PySem MP FP
theorem r_minus (n : Nat) (p q : Rat) (hp : Sz p) (hq : Sz q) : runTP T (n + 3) "minus" [dR p, dR q] = .ok (dR (p - q)) := by
  rw [runTP_succ T_minus]
  unfold F_minus
  by_cases h : (p.den : Int) = q.den
  · have e1 := r_ratio n (p.num - q.num) p.den R_den (up_lt (sub_lt hp.1 hq.1) z2) (up_lt (den_lt hp) z1)
    rw [same_den' h] at e1
    simp only [h] at e1
    simp only [MR_, h, e1]
  · have m1 := mulOk_of hp.1 (den_lt hq) zm
    have m2 := mulOk_of hq.1 (den_lt hp) zm
    have m3 := mulOk_of (den_lt hp) (den_lt hq) zm
    have e1 := r_ratio n (p.num * q.den - q.num * p.den) (p.den * q.den) (Int.mul_ne_zero R_den R_den) (up_lt (sub_lt (mul_lt hp.1 (den_lt hq)) (mul_lt hq.1 (den_lt hp))) z4) (up_lt (mul_lt (den_lt hp) (den_lt hq)) z3)
    rw [← sub_R] at e1
    simp only [MR_, h, m1, m2, m3, e1]

end Q
namespace Q
open PySem MP FP
theorem r_over (n : Nat) (p q : Rat) (hp : Sz p) (hq : Sz q) (h0 : q ≠ 0) : runTP T (n + 3) "over" [dR p, dR q] = .ok (dR (p / q)) := by
  rw [runTP_succ T_over]
  unfold F_over
  have hn : q.num ≠ 0 := by rw [Ne, num0]; exact h0
  have m1 := mulOk_of hp.1 (den_lt hq) zm
  have m3 := mulOk_of (den_lt hp) hq.1 zm
  have e1 := r_ratio n (p.num * q.den) (p.den * q.num) (Int.mul_ne_zero R_den hn) (up_lt (mul_lt hp.1 (den_lt hq)) z3) (up_lt (mul_lt (den_lt hp) hq.1) z3)
  rw [← div_R] at e1
  simp only [MR_, m1, m3, e1, hn]
theorem r_over_0 (n : Nat) (p : Rat) : runTP T (n + 1) "over" [dR p, dR 0] = .exc "NoRatio" := by
  rw [runTP_succ T_over]
  unfold F_over
  have : (0 : Rat).num = 0 := rfl
  simp only [MR_, this]

end Q
namespace Q
open PySem MP FP
theorem r_under (n : Nat) (p q : Rat) (hp : Sz p) (hq : Sz q) : runTP T (n + 1) "under" [dR p, dR q] = .ok (.bl (decide (p < q))) := by
  rw [runTP_succ T_under]
  unfold F_under
  have m1 := mulOk_of hp.1 (den_lt hq) zm
  have m2 := mulOk_of hq.1 (den_lt hp) zm
  simp only [MR_, m1, m2]
  rw [decide_eq_decide.mpr (Rat.lt_iff p q)]

end Q
namespace Q
open PySem MP FP
/-- a corner, a curve -/
abbrev Cn := Rat × Rat
def dC (c : Cn) : Dv := .tup [dR c.1, dR c.2]
theorem getP_C {c : Cn} : getP (some (some (dC c))) = .ok (dC c) := rfl
theorem rawP_C {c : Cn} : rawP (some (some (dC c))) = .rt (dC c) := rfl
theorem frz_C {c : Cn} : frz (dC c) = dC c := rfl
theorem isL_C {c : Cn} : isL (dC c) = false := rfl
theorem inL_C {c : Cn} : inL (dC c) = false := rfl
theorem ls_C {n : Nat} {c : Cn} : lsF (n + 3) (dC c) = false := rfl
theorem any_C {n : Nat} {xs : List Cn} : (xs.map dC).any (lsF (n + 3)) = false := any_f (fun _ => rfl) xs
theorem xp_C0 {c : Cn} : ixP (dC c) (.int 0) = .ok (dR c.1) := rfl
theorem xp_C1 {c : Cn} : ixP (dC c) (.int 1) = .ok (dR c.2) := rfl
theorem C_eta {a b : Rat} : Dv.tup [dR a, dR b] = dC (a, b) := rfl
theorem tupP_C {c : Cn} : tupP (dC c) = .ok (dC c) := by
  show (if 2 ≤ LIM then Rv.ok (dC c) else .bad) = _
  rw [if_pos (by decide)]
theorem callP_C {Φ : Str → List Dv → Rv Dv} {f : Str} {c : Cn} : callP Φ f (dC c) = Φ f [dR c.1, dR c.2] := rfl
theorem consP_C {x : Dv} {c : Cn} : consP x (dC c) = .ok (.tup [frz x, dR c.1, dR c.2]) := rfl
theorem t_C {c : Cn} {t : Ty} : tyP (dC c) t = .ok (.bl (t == .tuple)) := rfl
theorem l_C {c : Cn} : biP .len [dC c] = .ok (.int 2) := rfl
theorem nn_C {c : Cn} : isNonP (dC c) = false := rfl
theorem onTupP_C {c : Cn} {f : List Dv → Rv Dv} : onTupP (dC c) f = f [dR c.1, dR c.2] := rfl
def pC (c : Cn) : PyData := .tuple [pR c.1, pR c.2]
theorem dC_P (c : Cn) : IsP 3 (dC c) (pC c) := IsP.tup (.cons (dR_P _) (.cons (dR_P _) .nil))
theorem eqv_C (p q : Cn) : PyData.eqv (pC p) (pC q) = decide (p = q) := by
  unfold pC
  rw [eqv_tup, eqvAll_cons, eqvAll_cons, eqvAll_nil, eqv_R, eqv_R]
  obtain ⟨a, b⟩ := p
  obtain ⟨c, d⟩ := q
  by_cases h1 : a = c <;> by_cases h2 : b = d <;> simp [h1, h2]
theorem ep_C (p q : Cn) : eqP (dC p) (dC q) id = .ok (.bl (decide (p = q))) := by
  rw [eqP_p (dC_P p) (dC_P q) (by decide) (by decide), eqv_C]
  rfl
/-- lists of corners alike -/
theorem eq_Cs (xs ys : List Cn) (f : Bool → Bool) : eqP (.lst (xs.map dC)) (.lst (ys.map dC)) f = .ok (.bl (f (decide (xs = ys)))) := by
  rw [eqP_p (IsP.lst (IsPs.map dC pC dC_P xs)) (IsP.lst (IsPs.map dC pC dC_P ys)) (by decide) (by decide), eqv_list, eqvAll_map pC eqv_C]
/-- a curve: its corners, its last slope -/
def dF (cs : List Cn) (s : Rat) : Dv := .tup [.tup (cs.map dC), dR s]
theorem F_eta {cs : List Cn} {s : Rat} : Dv.tup [.tup (cs.map dC), dR s] = dF cs s := rfl
theorem getP_F {cs : List Cn} {s : Rat} : getP (some (some (dF cs s))) = .ok (dF cs s) := rfl
theorem rawP_F {cs : List Cn} {s : Rat} : rawP (some (some (dF cs s))) = .rt (dF cs s) := rfl
theorem frz_F {cs : List Cn} {s : Rat} : frz (dF cs s) = dF cs s := rfl
theorem ls_F {n : Nat} {cs : List Cn} {s : Rat} : lsF (n + 5) (dF cs s) = false := by
  show (lsF (n + 4) (.tup (cs.map dC)) || (lsF (n + 4) (dR s) || false)) = false
  rw [show lsF (n + 4) (.tup (cs.map dC)) = (cs.map dC).any (lsF (n + 3)) from rfl, any_C]
  rfl
theorem inL_F {cs : List Cn} {s : Rat} : inL (dF cs s) = false := ls_F (n := 7)
theorem isL_F {cs : List Cn} {s : Rat} : isL (dF cs s) = false := rfl
theorem nn_F {cs : List Cn} {s : Rat} : isNonP (dF cs s) = false := rfl
theorem tupP_F {cs : List Cn} {s : Rat} : tupP (dF cs s) = .ok (dF cs s) := by
  show (if 2 ≤ LIM then Rv.ok (dF cs s) else .bad) = _
  rw [if_pos (by decide)]
theorem xp_F0 {cs : List Cn} {s : Rat} : ixP (dF cs s) (.int 0) = .ok (.tup (cs.map dC)) := rfl
theorem xp_F1 {cs : List Cn} {s : Rat} : ixP (dF cs s) (.int 1) = .ok (dR s) := rfl
theorem t_F {cs : List Cn} {s : Rat} {t : Ty} : tyP (dF cs s) t = .ok (.bl (t == .tuple)) := rfl
theorem l_F {cs : List Cn} {s : Rat} : biP .len [dF cs s] = .ok (.int 2) := rfl
def pF (f : List Cn × Rat) : PyData := .tuple [.tuple (f.1.map pC), pR f.2]
theorem dF_P (f : List Cn × Rat) : IsP 5 (dF f.1 f.2) (pF f) := IsP.tup (.cons (IsP.tup (IsPs.map dC pC dC_P f.1)) (.cons ((dR_P _).mono (by decide)) .nil))
theorem eqv_F (f g : List Cn × Rat) : PyData.eqv (pF f) (pF g) = decide (f = g) := by
  unfold pF
  rw [eqv_tup, eqvAll_cons, eqvAll_cons, eqvAll_nil, eqv_tup, eqvAll_map pC eqv_C, eqv_R]
  obtain ⟨a, b⟩ := f
  obtain ⟨c, d⟩ := g
  by_cases h1 : a = c <;> by_cases h2 : b = d <;> simp [h1, h2]
theorem ep_F (cs ds : List Cn) (s u : Rat) : eqP (dF cs s) (dF ds u) id = .ok (.bl (decide ((cs, s) = (ds, u)))) := by
  rw [eqP_p (dF_P (cs, s)) (dF_P (ds, u)) (by decide) (by decide), eqv_F]
  rfl
theorem np_F (cs ds : List Cn) (s u : Rat) : eqP (dF cs s) (dF ds u) not = .ok (.bl (!decide ((cs, s) = (ds, u)))) := by
  rw [eqP_p (dF_P (cs, s)) (dF_P (ds, u)) (by decide) (by decide), eqv_F]
/-- corners whose figures are small -/
def Cz (c : Cn) : Prop := Rb c.1 3300 ∧ Rb c.2 3300
theorem Cz.s1 {c : Cn} (h : Cz c) : Sz c.1 := h.1.sz (by decide)
theorem Cz.s2 {c : Cn} (h : Cz c) : Sz c.2 := h.2.sz (by decide)
theorem Cz.d1 {c d : Cn} (h : Cz c) (k : Cz d) : Sz (d.1 - c.1) := (k.1.sub h.1).sz (by decide)
theorem Cz.d2 {c d : Cn} (h : Cz c) (k : Cz d) : Sz (d.2 - c.2) := (k.2.sub h.2).sz (by decide)
def slope (c d : Cn) : Rat := (d.2 - c.2) / (d.1 - c.1)
/-- times that rise -/
def Ups : Cn → List Cn → Prop
  | _, [] => True
  | c, d :: r => c.1 < d.1 ∧ Ups d r
/-- values that don't fall -/
def Nds : Cn → List Cn → Prop
  | _, [] => True
  | c, d :: r => ¬ d.2 < c.2 ∧ Nds d r
/-- the slopes between the corners -/
def gaps : Cn → List Cn → List Rat
  | _, [] => []
  | c, d :: r => slope c d :: gaps d r
theorem gaps_len : ∀ (c : Cn) (r : List Cn), (gaps c r).length = r.length
  | _, [] => rfl
  | c, d :: r => by rw [gaps, List.length_cons, List.length_cons, gaps_len d r]
/-- the slope behind a corner -/
def behind (d : Cn) (t : List Cn) (s : Rat) : Rat := match t with
  | [] => s
  | e :: _ => slope d e
theorem gaps_hd (d : Cn) (t : List Cn) (s : Rat) : ∃ S, gaps d t ++ [s] = behind d t s :: S ∧ S.length = t.length := by
  cases t with
  | nil => exact ⟨[], rfl, rfl⟩
  | cons e t => exact ⟨gaps e t ++ [s], rfl, by simp [gaps_len]⟩
/-- the kept corners, one by one -/
def kl (s : Rat) : Cn → List Cn → List Cn
  | _, [] => []
  | p, d :: t => if slope p d = behind d t s then kl s d t else d :: kl s d t
theorem kl_len (s : Rat) : ∀ (r : List Cn) (p : Cn), (kl s p r).length ≤ r.length
  | [], _ => Nat.le_refl _
  | d :: t, p => by
    have := kl_len s t d
    unfold kl
    split
    · rw [List.length_cons]; omega
    · rw [List.length_cons, List.length_cons]; omega
/-- a row, a list or a tuple -/
structure Sq (X : Dv) (xs : List Dv) : Prop where
  gv : getP (some (some X)) = .ok X
  fz : frz X = X
  ix : ∀ i : Int, ixP X (.int i) = atP (L2.atI xs i)
  ln : biP .len [X] = .ok (.int xs.length)
theorem Sq.lst {xs : List Dv} : Sq (.lst xs) xs := ⟨rfl, rfl, fun _ => rfl, rfl⟩
theorem Sq.tup {xs : List Dv} : Sq (.tup xs) xs := ⟨rfl, rfl, fun _ => rfl, rfl⟩
theorem dR_inj {p q : Rat} (h : dR p = dR q) : p = q := by
  unfold dR at h
  injection h with h
  injection h with h1 h2
  injection h2 with h2 _
  injection h1 with h1
  injection h2 with h2
  exact Rat.ext h1 (by omega)
theorem dC_inj {p q : Cn} (h : dC p = dC q) : p = q := by
  unfold dC at h
  injection h with h
  injection h with h1 h2
  injection h2 with h2 _
  exact Prod.ext (dR_inj h1) (dR_inj h2)
theorem map_inj : ∀ {xs ys : List Cn}, xs.map dC = ys.map dC → xs = ys
  | [], [], _ => rfl
  | [], y :: ys, h => by cases h
  | x :: xs, [], h => by cases h
  | x :: xs, y :: ys, h => by
    rw [List.map_cons, List.map_cons] at h
    injection h with h1 h2
    rw [dC_inj h1, map_inj h2]
theorem dF_inj {cs ds : List Cn} {s u : Rat} (h : dF cs s = dF ds u) : cs = ds := by
  unfold dF at h
  injection h with h
  injection h with h1 h2
  injection h1 with h1
  exact map_inj h1
theorem dF_inj2 {cs ds : List Cn} {s u : Rat} (h : dF cs s = dF ds u) : s = u := by
  unfold dF at h
  injection h with h
  injection h with h1 h2
  injection h2 with h2 _
  exact dR_inj h2

end Q
namespace Q
open PySem MP FP
theorem r_slope_between (n : Nat) (c d : Cn) (hc : Cz c) (hd : Cz d) (h : c.1 < d.1) : runTP T (n + 4) "slope_between" [dC c, dC d] = .ok (dR (slope c d)) := by
  rw [runTP_succ T_slope_between]
  unfold F_slope_between
  have h0 : d.1 - c.1 ≠ 0 := by grind
  have e := r_over n (d.2 - c.2) (d.1 - c.1) (hc.d2 hd) (hc.d1 hd) h0
  simp only [MC_, r_minus, hc.s1, hc.s2, hd.s1, hd.s2, e]
  rfl
theorem rng1 (m : Nat) (hm : m ≤ 5000000) : rngP [.int 1, .int ((m + 1 : Nat) : Int)] = .ok (.tup (stepsP 1 1 m)) := by
  rw [rp_2, if_pos ⟨by unfold small; decide, by unfold small; omega⟩]
  congr 3
  omega
theorem rng0 (m : Nat) (hm : m ≤ 5000000) : rngP [.int ((m : Nat) : Int)] = .ok (.tup (stepsP 0 1 m)) := by
  rw [rp_1, if_pos (by unfold small; omega)]
  congr 3
theorem i_at {cs pre r : List Cn} {c : Cn} {k : Int} (h : cs = pre ++ c :: r) (hk : k = pre.length) : L2.atI (cs.map dC) k = some (dC c) := by
  rw [h, List.map_append, List.map_cons]
  exact FP.at_app (by simp; omega)
theorem iR_at {cs pre r : List Rat} {c : Rat} {k : Int} (h : cs = pre ++ c :: r) (hk : k = pre.length) : L2.atI (cs.map dR) k = some (dR c) := by
  rw [h, List.map_append, List.map_cons]
  exact FP.at_app (by simp; omega)
theorem rng0' (m : Nat) (hm : m ≤ 5000000) (k : Int) (hk : k = m) : rngP [.int k] = .ok (.tup (stepsP 0 1 m)) := by
  subst hk
  exact rng0 m hm

end Q
namespace Q
open PySem MP FP
theorem sl_loop (n : Nat) (X : Dv) (cs : List Cn) (e1 : Option Dv) (h : Sq X (cs.map dC)) (hz : ∀ x ∈ cs, Cz x) (hn : cs.length ≤ 5000000) : ∀ (r pre : List Cn) (c : Cn) (acc : List Rat) (k : Int) (r3 : Option Dv), cs = pre ++ c :: r → k = pre.length + 1 → acc.length + r.length ≤ 5000000 → Ups c r → ∃ r3', foP (runTP T (n + 4)) 3 B_slopes_of_1 (stepsP k 1 r.length) [some X, e1, some (.own (acc.map dR)), r3] = .nx [some X, e1, some (.own ((acc ++ gaps c r).map dR)), r3']
  | [], pre, c, acc, k, r3, _, _, _, _ => ⟨r3, by simp only [ME_, List.length_nil, stepsP, gaps, List.append_nil]⟩
  | d :: r, pre, c, acc, k, r3, hcs, hk, ha, hu => by
    obtain ⟨r3', ih⟩ := sl_loop n X cs e1 h hz hn r (pre ++ [c]) d (acc ++ [slope c d]) (k + 1) (some (.int k)) (by rw [hcs]; simp) (by simp; omega) (by simp at ha ⊢; omega) hu.2
    refine ⟨r3', ?_⟩
    have i1 := i_at (k := k - 1) hcs (by omega)
    have i2 := i_at (cs := cs) (pre := pre ++ [c]) (c := d) (r := r) (k := k) (by rw [hcs]; simp) (by simp; omega)
    have hsb := r_slope_between n c d (hz c (by rw [hcs]; simp)) (hz d (by rw [hcs]; simp)) hu.1
    have hl : acc.length < LIM := by unfold LIM; simp at ha; omega
    simp only [MC_, List.length_cons, stepsP, fo_cons, VB_slopes_of_1, h.gv, h.fz, h.ix, i1, i2, hsb, List.length_map, hl]
    simp only [gaps, List.map_append, List.map_cons, List.map_nil, List.append_assoc, List.cons_append, List.nil_append] at ih ⊢
    exact ih
theorem r_slopes_of (n : Nat) (X : Dv) (c : Cn) (r : List Cn) (s : Rat) (h : Sq X ((c :: r).map dC)) (hz : ∀ x ∈ c :: r, Cz x) (hn : r.length ≤ 4000000) (hu : Ups c r) : runTP T (n + 5) "slopes_of" [X, dR s] = .ok (.own ((gaps c r ++ [s]).map dR)) := by
  rw [runTP_succ T_slopes_of]
  obtain ⟨r3, hl⟩ := sl_loop n X (c :: r) (some (dR s)) h hz (by simp; omega) r [] c [] 1 none rfl rfl (by simp; omega) hu
  rw [List.map_nil, List.nil_append] at hl
  have hlen : (gaps c r).length < LIM := by rw [gaps_len]; unfold LIM; omega
  have hln := h.ln
  rw [List.length_map, List.length_cons] at hln
  have hr := rng1 r.length (by omega)
  unfold F_slopes_of
  simp only [MC_, h.gv, h.fz, hln, hr, any_steps, hl, List.length_map, hlen, List.map_append]

end Q
namespace Q
open PySem MP FP
theorem fo_loop (n : Nat) (X : Dv) (cs : List Cn) (S : List Rat) (e1 : Option Dv) (s : Rat) (h : Sq X (cs.map dC)) (hn : cs.length ≤ 5000000) : ∀ (r pre : List Cn) (p : Cn) (Sp : List Rat) (acc : List Cn) (k : Int) (r4 : Option Dv), cs = pre ++ r → S = Sp ++ (gaps p r ++ [s]) → k = pre.length → k = Sp.length + 1 → acc.length + r.length ≤ 5000000 → ∃ r4', foP (runTP T n) 4 B_folded_1 (stepsP k 1 r.length) [some X, e1, some (.own (S.map dR)), some (.own (acc.map dC)), r4] = .nx [some X, e1, some (.own (S.map dR)), some (.own ((acc ++ kl s p r).map dC)), r4']
  | [], pre, p, Sp, acc, k, r4, _, _, _, _, _ => ⟨r4, by simp only [ME_, List.length_nil, stepsP, kl, List.append_nil]⟩
  | d :: r, pre, p, Sp, acc, k, r4, hcs, hS, hk, hk2, ha => by
    obtain ⟨S', hS', _⟩ := gaps_hd d r s
    have hSS : S = Sp ++ slope p d :: (gaps d r ++ [s]) := by rw [hS]; rfl
    have i1 := iR_at (k := k - 1) hSS (by omega)
    have i2 := iR_at (cs := S) (pre := Sp ++ [slope p d]) (c := behind d r s) (r := S') (k := k) (by rw [hSS, hS']; simp) (by simp; omega)
    have i3 := i_at (cs := cs) (pre := pre) (c := d) (r := r) (k := k) hcs hk
    have hal : acc.length < LIM := by unfold LIM; simp at ha; omega
    by_cases hab : slope p d = behind d r s
    · obtain ⟨r4', ih⟩ := fo_loop n X cs S e1 s h hn r (pre ++ [d]) d (Sp ++ [slope p d]) acc (k + 1) (some (.int k)) (by rw [hcs]; simp) (by rw [hSS]; simp) (by simp; omega) (by simp; omega) (by simp at ha; omega)
      refine ⟨r4', ?_⟩
      have e : kl s p (d :: r) = kl s d r := if_pos hab
      rw [e]
      simp only [MC_, List.length_cons, stepsP, fo_cons, VB_folded_1, h.gv, i1, i2, hab]
      exact ih
    · obtain ⟨r4', ih⟩ := fo_loop n X cs S e1 s h hn r (pre ++ [d]) d (Sp ++ [slope p d]) (acc ++ [d]) (k + 1) (some (.int k)) (by rw [hcs]; simp) (by rw [hSS]; simp) (by simp; omega) (by simp; omega) (by simp at ha ⊢; omega)
      refine ⟨r4', ?_⟩
      have e : kl s p (d :: r) = d :: kl s d r := if_neg hab
      rw [e]
      simp only [MC_, List.length_cons, stepsP, fo_cons, VB_folded_1, h.gv, h.fz, h.ix, i1, i2, i3, hab, List.length_map, hal]
      simp only [List.map_append, List.map_cons, List.map_nil, List.append_assoc, List.cons_append, List.nil_append] at ih ⊢
      exact ih
theorem r_folded (n : Nat) (X : Dv) (c : Cn) (r : List Cn) (s : Rat) (h : Sq X ((c :: r).map dC)) (hz : ∀ x ∈ c :: r, Cz x) (hn : r.length ≤ 4000000) (hu : Ups c r) : runTP T (n + 6) "folded" [X, dR s] = .ok (.own ((c :: kl s c r).map dC)) := by
  rw [runTP_succ T_folded]
  have hsl := r_slopes_of n X c r s h hz hn hu
  have hln := h.ln
  rw [List.length_map, List.length_cons] at hln
  have hr := rng1 r.length (by omega)
  have i0 : L2.atI ((c :: r).map dC) 0 = some (dC c) := i_at (pre := []) rfl rfl
  obtain ⟨r4, hl⟩ := fo_loop (n + 5) X (c :: r) (gaps c r ++ [s]) (some (dR s)) s h (by simp; omega) r [c] c [] [c] 1 none rfl rfl rfl rfl (by simp; omega)
  rw [List.map_cons, List.map_nil] at hl
  unfold F_folded
  simp only [MC_, h.gv, h.fz, h.ix, hsl, i0, hln, hr, any_steps, hl]

end Q
namespace Q
open PySem MP FP
theorem r_made (n : Nat) (X : Dv) (c : Cn) (r : List Cn) (s : Rat) (h : Sq X ((c :: r).map dC)) (hz : ∀ x ∈ c :: r, Cz x) (hn : r.length ≤ 4000000) (hu : Ups c r) : runTP T (n + 7) "made" [X, dR s] = .ok (dF (c :: kl s c r) s) := by
  rw [runTP_succ T_made]
  have hf := r_folded n X c r s h hz hn hu
  unfold F_made
  simp only [MC_, h.gv, h.fz, hf]
  rfl

end Q
namespace Q
open PySem MP FP
theorem cu_loop (n : Nat) (X : Dv) (cs : List Cn) (e1 : Option Dv) (h : Sq X (cs.map dC)) (hz : ∀ x ∈ cs, Cz x) : ∀ (r pre : List Cn) (c : Cn) (k : Int) (r3 : Option Dv), cs = pre ++ c :: r → k = pre.length + 1 → Ups c r → Nds c r → ∃ r3', foP (runTP T (n + 1)) 2 B_curve_1 (stepsP k 1 r.length) [some X, e1, r3] = .nx [some X, e1, r3']
  | [], pre, c, k, r3, _, _, _, _ => ⟨r3, by simp only [ME_, List.length_nil, stepsP]⟩
  | d :: r, pre, c, k, r3, hcs, hk, hu, hd => by
    obtain ⟨r3', ih⟩ := cu_loop n X cs e1 h hz r (pre ++ [c]) d (k + 1) (some (.int k)) (by rw [hcs]; simp) (by simp; omega) hu.2 hd.2
    refine ⟨r3', ?_⟩
    have i1 := i_at (k := k - 1) hcs (by omega)
    have i2 := i_at (cs := cs) (pre := pre ++ [c]) (c := d) (r := r) (k := k) (by rw [hcs]; simp) (by simp; omega)
    have zc : Cz c := hz c (by rw [hcs]; simp)
    have zd : Cz d := hz d (by rw [hcs]; simp)
    simp only [MC_, List.length_cons, stepsP, fo_cons, VB_curve_1, h.gv, h.fz, h.ix, i1, i2, r_under, zc.s1, zc.s2, zd.s1, zd.s2, hu.1, hd.1]
    exact ih
theorem r_curve (n : Nat) (X : Dv) (c : Cn) (r : List Cn) (s : Rat) (h : Sq X ((c :: r).map dC)) (hz : ∀ x ∈ c :: r, Cz x) (hn : r.length ≤ 4000000) (hu : Ups c r) (hd : Nds c r) (h0 : c.1 = 0) (h1 : ¬ c.2 < 0) (hs : Sz s) (h2 : ¬ s < 0) : runTP T (n + 8) "curve" [X, dR s] = .ok (dF (c :: kl s c r) s) := by
  rw [runTP_succ T_curve]
  have hm := r_made n X c r s h hz hn hu
  obtain ⟨r3, hl⟩ := cu_loop (n + 6) X (c :: r) (some (dR s)) h hz r [] c 1 none rfl rfl hu hd
  have hln := h.ln
  rw [List.length_map, List.length_cons] at hln
  have hr := rng1 r.length (by omega)
  have i0 : L2.atI ((c :: r).map dC) 0 = some (dC c) := i_at (pre := []) rfl rfl
  have s2 := (hz c List.mem_cons_self).s2
  have hpos : (((r.length + 1 : Nat) : Int) = 0) = False := by simp only [eq_iff_iff, iff_false]; omega
  unfold F_curve
  simp only [MC_, h.gv, h.fz, h.ix, i0, hln, hr, any_steps, hl, hm, hpos, r_under, hs, s2, Sz0, h0, h1, h2]

end Q
namespace Q
open PySem MP FP
theorem quo_eq {a b c d : Rat} (hb : 0 < b) (hd : 0 < d) : a / b = c / d ↔ a * d = c * b := by
  constructor
  · intro h
    have h1 : a = c / d * b := by rw [← h, Rat.div_mul_cancel (by grind)]
    rw [h1]
    have h2 : c / d * d = c := Rat.div_mul_cancel (by grind)
    grind
  · intro h
    have h1 : a / b * b = a := Rat.div_mul_cancel (by grind)
    have h2 : c / d * d = c := Rat.div_mul_cancel (by grind)
    have h3 : (a / b - c / d) * (b * d) = 0 := by grind
    have h4 : b * d ≠ 0 := by
      have := Rat.mul_pos hb hd
      grind
    have h5 : a / b - c / d = 0 := by
      rcases Rat.mul_eq_zero.mp h3 with h | h
      · exact h
      · exact absurd h h4
    grind
/-- each corner bends -/
def NF (s : Rat) : Cn → List Cn → Prop
  | _, [] => True
  | q, d :: t => slope q d ≠ behind d t s ∧ NF s d t
theorem collin {q p d : Cn} (h1 : q.1 < p.1) (h2 : p.1 < d.1) (h : slope q p = slope p d) : slope q d = slope p d := by
  unfold slope at h ⊢
  have e1 := (quo_eq (show (0 : Rat) < p.1 - q.1 by grind) (show (0 : Rat) < d.1 - p.1 by grind)).mp h
  refine (quo_eq (show (0 : Rat) < d.1 - q.1 by grind) (show (0 : Rat) < d.1 - p.1 by grind)).mpr ?_
  grind
theorem nf (s : Rat) : ∀ (r : List Cn) (p q : Cn), Ups p r → (q = p ∨ (q.1 < p.1 ∧ slope q p = behind p r s)) → NF s q (kl s p r) ∧ behind q (kl s p r) s = behind p r s
  | [], p, q, _, _ => ⟨trivial, rfl⟩
  | d :: t, p, q, hu, hq => by
    have hb : behind p (d :: t) s = slope p d := rfl
    have hqd : q.1 < d.1 ∧ slope q d = slope p d := by
      rcases hq with h | ⟨h1, h2⟩
      · subst h
        exact ⟨hu.1, rfl⟩
      · rw [hb] at h2
        exact ⟨by have := hu.1; grind, collin h1 hu.1 h2⟩
    unfold kl
    by_cases hc : slope p d = behind d t s
    · rw [if_pos hc]
      have ih := nf s t d q hu.2 (.inr ⟨hqd.1, by rw [hqd.2, hc]⟩)
      exact ⟨ih.1, by rw [ih.2, hb, hc]⟩
    · rw [if_neg hc]
      have ih := nf s t d d hu.2 (.inl rfl)
      refine ⟨⟨?_, ih.1⟩, ?_⟩
      · rw [ih.2, hqd.2]
        exact hc
      · show slope q d = _
        rw [hqd.2, hb]
theorem kl_up (s : Rat) : ∀ (r : List Cn) (p q : Cn), q.1 ≤ p.1 → Ups p r → Ups q (kl s p r)
  | [], _, _, _, _ => trivial
  | d :: t, p, q, h, hu => by
    have := hu.1
    unfold kl
    split
    · exact kl_up s t d q (by grind) hu.2
    · exact ⟨by grind, kl_up s t d d (by grind) hu.2⟩
theorem kl_nd (s : Rat) : ∀ (r : List Cn) (p q : Cn), ¬ p.2 < q.2 → Nds p r → Nds q (kl s p r)
  | [], _, _, _, _ => trivial
  | d :: t, p, q, h, hu => by
    have := hu.1
    unfold kl
    split
    · exact kl_nd s t d q (by grind) hu.2
    · exact ⟨by grind, kl_nd s t d d (by grind) hu.2⟩
theorem kl_mem (s : Rat) : ∀ (r : List Cn) (p x : Cn), x ∈ kl s p r → x ∈ r
  | [], _, _, h => h
  | d :: t, p, x, h => by
    unfold kl at h
    split at h
    · exact List.mem_cons_of_mem _ (kl_mem s t d x h)
    · rcases List.mem_cons.mp h with h | h
      · rw [h]
        exact List.mem_cons_self
      · exact List.mem_cons_of_mem _ (kl_mem s t d x h)
/-- a curve's slope behind a time, and its value -/
def slp (s : Rat) (t : Rat) : Cn → List Cn → Rat
  | c, [] => s
  | c, d :: r => if t < d.1 then slope c d else slp s t d r
def val (s : Rat) (t : Rat) : Cn → List Cn → Rat
  | c, [] => c.2 + s * (t - c.1)
  | c, d :: r => if t < d.1 then c.2 + slope c d * (t - c.1) else val s t d r
theorem slope_mul {c d : Cn} (h : c.1 < d.1) : slope c d * (d.1 - c.1) = d.2 - c.2 := by
  unfold slope
  exact Rat.div_mul_cancel (by grind)
theorem on_line {q p : Cn} {m t : Rat} (h : q = p ∨ (q.1 < p.1 ∧ slope q p = m)) : q.2 + m * (t - q.1) = p.2 + m * (t - p.1) := by
  rcases h with h | ⟨h1, h2⟩
  · rw [h]
  · have := slope_mul h1
    rw [h2] at this
    grind
theorem fold_slp (s t : Rat) : ∀ (r : List Cn) (p q : Cn), Ups p r → (q = p ∨ (q.1 < p.1 ∧ slope q p = behind p r s)) → slp s t q (kl s p r) = slp s t p r
  | [], p, q, _, _ => rfl
  | d :: r, p, q, hu, hq => by
    have hb : behind p (d :: r) s = slope p d := rfl
    have hqd : q.1 < d.1 ∧ slope q d = slope p d := by
      rcases hq with h | ⟨h1, h2⟩
      · subst h
        exact ⟨hu.1, rfl⟩
      · rw [hb] at h2
        exact ⟨by have := hu.1; grind, collin h1 hu.1 h2⟩
    unfold kl
    by_cases hc : slope p d = behind d r s
    · rw [if_pos hc, fold_slp s t r d q hu.2 (.inr ⟨hqd.1, by rw [hqd.2, hc]⟩)]
      by_cases ht : t < d.1
      · rw [slp, if_pos ht]
        cases r with
        | nil => exact hc.symm
        | cons e r =>
          have he : t < e.1 := by have := hu.2.1; grind
          rw [slp, if_pos he]
          exact hc.symm
      · rw [show slp s t p (d :: r) = if t < d.1 then slope p d else slp s t d r from rfl, if_neg ht]
    · rw [if_neg hc]
      show (if t < d.1 then slope q d else slp s t d (kl s d r)) = if t < d.1 then slope p d else slp s t d r
      rw [hqd.2, fold_slp s t r d d hu.2 (.inl rfl)]
theorem fold_val (s t : Rat) : ∀ (r : List Cn) (p q : Cn), Ups p r → (q = p ∨ (q.1 < p.1 ∧ slope q p = behind p r s)) → val s t q (kl s p r) = val s t p r
  | [], p, q, _, hq => on_line hq
  | d :: r, p, q, hu, hq => by
    have hb : behind p (d :: r) s = slope p d := rfl
    have hqd : q.1 < d.1 ∧ slope q d = slope p d := by
      rcases hq with h | ⟨h1, h2⟩
      · subst h
        exact ⟨hu.1, rfl⟩
      · rw [hb] at h2
        exact ⟨by have := hu.1; grind, collin h1 hu.1 h2⟩
    have hline := on_line (t := t) hq
    rw [hb] at hline
    unfold kl
    by_cases hc : slope p d = behind d r s
    · rw [if_pos hc, fold_val s t r d q hu.2 (.inr ⟨hqd.1, by rw [hqd.2, hc]⟩)]
      by_cases ht : t < d.1
      · have hm := slope_mul hu.1
        rw [show val s t p (d :: r) = if t < d.1 then p.2 + slope p d * (t - p.1) else val s t d r from rfl, if_pos ht]
        cases r with
        | nil =>
          show d.2 + s * (t - d.1) = _
          rw [show s = slope p d from hc.symm]
          grind
        | cons e r =>
          have he : t < e.1 := by have := hu.2.1; grind
          rw [val, if_pos he, show slope d e = slope p d from hc.symm]
          grind
      · rw [show val s t p (d :: r) = if t < d.1 then p.2 + slope p d * (t - p.1) else val s t d r from rfl, if_neg ht]
    · rw [if_neg hc]
      show (if t < d.1 then q.2 + slope q d * (t - q.1) else val s t d (kl s d r)) = if t < d.1 then p.2 + slope p d * (t - p.1) else val s t d r
      rw [hqd.2, hline, fold_val s t r d d hu.2 (.inl rfl)]


end Q
namespace Q
open PySem MP FP
/-! ### texts -/
open TL in
theorem tl_lit_figs : tl ("0123456789" : Str) = [48, 49, 50, 51, 52, 53, 54, 55, 56, 57] := by decide +kernel
theorem shaped_str {a : Str} (h : PyData.strOk a = true) : SeqAt.shaped (.str a) = true := by
  have e : (PyData.str a).canLay0 = true := h
  unfold SeqAt.shaped
  rw [e]
  rfl
theorem sk_empty : PyData.strOk "" = true := by decide +kernel
theorem sk_0 : PyData.strOk "0" = true := by decide +kernel
theorem sk_of {a : Str} (h : ∀ c ∈ TL.tl a, c < 128) : PyData.strOk a = true := by
  show a.cps.all (· < 0x110000) = true
  rw [← Array.all_toList, List.all_eq_true]
  exact fun c hc => by
    have := h c hc
    exact decide_eq_true (by omega)
theorem ep_str {a b : Str} (ha : PyData.strOk a = true) (hb : PyData.strOk b = true) : eqP (.str a) (.str b) id = .ok (.bl (decide (a = b))) := by
  have e : PyData.eqv (.str a) (.str b) = decide (a = b) := by
    unfold PyData.eqv
    exact Bool.beq_eq_decide_eq a b
  show (if SeqAt.shaped (.str a) = true ∧ SeqAt.shaped (.str b) = true then Rv.ok (Dv.bl (id (PyData.eqv (.str a) (.str b)))) else .bad) = _
  rw [if_pos ⟨shaped_str ha, shaped_str hb⟩, e]
  rfl
theorem np_str {a b : Str} (ha : PyData.strOk a = true) (hb : PyData.strOk b = true) : eqP (.str a) (.str b) not = .ok (.bl (!decide (a = b))) := by
  have e : PyData.eqv (.str a) (.str b) = decide (a = b) := by
    unfold PyData.eqv
    exact Bool.beq_eq_decide_eq a b
  show (if SeqAt.shaped (.str a) = true ∧ SeqAt.shaped (.str b) = true then Rv.ok (Dv.bl (not (PyData.eqv (.str a) (.str b)))) else .bad) = _
  rw [if_pos ⟨shaped_str ha, shaped_str hb⟩, e]
/-- the text of a whole number -/
def nT (n : Nat) : Str := Str.ofString (toString ((n : Nat) : Int))
open TL in
theorem tl_nT (n : Nat) : tl (nT n) = numL n := tl_num n
open TL in
theorem numL_head (n : Nat) : 0 < n → ∃ c r, numL n = c :: r ∧ c ≠ 48 := by
  induction n using Nat.strongRecOn with
  | _ n ih =>
    intro h0
    by_cases h : n < 10
    · exact ⟨48 + n, [], numL_lt h, by omega⟩
    · obtain ⟨c, r, e, hc⟩ := ih (n / 10) (by omega) (by omega)
      exact ⟨c, r ++ [48 + n % 10], by rw [numL_step (by omega), e]; rfl, hc⟩
/-- what a text of figures writes -/
def figs (l : List Nat) : Option Nat := if l ≠ [] ∧ l.length ≤ 60 ∧ (∀ c ∈ l, c ∈ [48, 49, 50, 51, 52, 53, 54, 55, 56, 57]) ∧ (l.head? = some 48 → l = [48]) then some (NumText.digitsVal l) else none
theorem mem_figs {c : Nat} : c ∈ [48, 49, 50, 51, 52, 53, 54, 55, 56, 57] ↔ 48 ≤ c ∧ c ≤ 57 := by
  simp only [List.mem_cons, List.not_mem_nil, or_false]
  omega
open TL in
theorem figs_num {n : Nat} (h : n < 10 ^ 60) : figs (numL n) = some n := by
  unfold figs
  rw [if_pos, numL_val]
  refine ⟨numL_ne n, numL_len (by decide) h, fun c hc => mem_figs.mpr (numL_digits n c hc), fun hh => ?_⟩
  by_cases h0 : 0 < n
  · obtain ⟨c, r, e, hc⟩ := numL_head n h0
    rw [e] at hh
    injection hh with hh
    exact absurd hh hc
  · have e : n = 0 := by omega
    subst e
    exact numL_lt (by decide)
theorem rf_loop {Φ : Str → List Dv → Rv Dv} (e0 : Option Dv) : ∀ (l : List Nat) (r1 : Option Dv), ((∀ c ∈ l, c ∈ [48, 49, 50, 51, 52, 53, 54, 55, 56, 57]) → ∃ r1', foP Φ 1 B_read_figures_1 (l.map fun c => Dv.str ⟨#[c]⟩) [e0, r1] = .nx [e0, r1']) ∧ ((∃ c ∈ l, c ∉ [48, 49, 50, 51, 52, 53, 54, 55, 56, 57]) → ∃ σ, foP Φ 1 B_read_figures_1 (l.map fun c => Dv.str ⟨#[c]⟩) [e0, r1] = .ex "NoText" σ)
  | [], r1 => ⟨fun _ => ⟨r1, rfl⟩, fun ⟨c, hc, _⟩ => absurd hc List.not_mem_nil⟩
  | c :: l, r1 => by
    obtain ⟨i1, i2⟩ := rf_loop (Φ := Φ) e0 l (some (.str ⟨#[c]⟩))
    have hb : cmpP .nin (.str ⟨#[c]⟩) (.str "0123456789") = .ok (.bl (!decide (c ∈ [48, 49, 50, 51, 52, 53, 54, 55, 56, 57]))) := by
      have := tl_lit_figs
      show Rv.ok (Dv.bl (!decide (c ∈ TL.tl ("0123456789" : Str)))) = _
      rw [this]
    by_cases h : c ∈ [48, 49, 50, 51, 52, 53, 54, 55, 56, 57]
    · rw [decide_eq_true h] at hb
      refine ⟨fun ha => ?_, fun ⟨d, hd, hn⟩ => ?_⟩
      · obtain ⟨r1', e⟩ := i1 (fun d hd => ha d (List.mem_cons_of_mem _ hd))
        refine ⟨r1', ?_⟩
        rw [← e]
        simp only [ME_, List.map_cons, fo_cons, VB_read_figures_1, hb]
      · rcases List.mem_cons.mp hd with e | hd
        · rw [e] at hn
          exact absurd h hn
        · obtain ⟨σ, e⟩ := i2 ⟨d, hd, hn⟩
          refine ⟨σ, ?_⟩
          rw [← e]
          simp only [ME_, List.map_cons, fo_cons, VB_read_figures_1, hb]
    · rw [decide_eq_false h] at hb
      refine ⟨fun ha => absurd (ha c List.mem_cons_self) h, fun _ => ?_⟩
      exact ⟨[e0, some (.str ⟨#[c]⟩)], by simp only [ME_, List.map_cons, fo_cons, VB_read_figures_1, hb]⟩
theorem str_eq_iff (a b : Str) : a = b ↔ TL.tl a = TL.tl b := ⟨fun h => by rw [h], fun h => TL.ext_tl h⟩
theorem tl_empty : TL.tl ("" : Str) = [] := by decide +kernel
theorem tl_0 : TL.tl ("0" : Str) = [48] := by decide +kernel

theorem at0_list {c : Nat} {l : List Nat} : L2.atI (c :: l) 0 = some c := by
  unfold L2.atI L2.ixN
  simp
theorem r_read_figures (n : Nat) (z : Str) (hz : z.length ≤ 1000000) (hk : PyData.strOk z = true) : runTP T (n + 1) "read_figures" [.str z] = match figs (TL.tl z) with
    | some k => .ok (.int (k : Int))
    | none => .exc "NoText" := by
  rw [runTP_succ T_read_figures]
  have hz' : z.length ≤ LIM := by unfold LIM; omega
  have hlen : z.length = (TL.tl z).length := TL.len_tl z
  have e1 := str_eq_iff z ""
  have e2 := str_eq_iff z "0"
  rw [tl_empty] at e1
  rw [tl_0] at e2
  by_cases h1 : TL.tl z = []
  · have : figs (TL.tl z) = none := by unfold figs; rw [if_neg (fun h => h.1 h1)]
    rw [this]
    have he := e1.mpr h1
    unfold F_read_figures
    simp only [ME_, ep_str, hk, sk_empty, sk_0, he]
  · have he : ¬ z = "" := fun h => h1 (e1.mp h)
    by_cases h2 : 60 < (z.length : Int)
    · have : figs (TL.tl z) = none := by unfold figs; rw [if_neg (fun h => by have := h.2.1; omega)]
      rw [this]
      unfold F_read_figures
      simp only [ME_, ep_str, hk, sk_empty, sk_0, he, hz', h2]
    · have lp := rf_loop (Φ := runTP T n) (some (.str z)) (TL.tl z) none
      by_cases h3 : ∀ c ∈ TL.tl z, c ∈ [48, 49, 50, 51, 52, 53, 54, 55, 56, 57]
      · obtain ⟨r1, e3⟩ := lp.1 h3
        obtain ⟨c, l, hc⟩ : ∃ c l, TL.tl z = c :: l := by
          cases q : TL.tl z with
          | nil => exact absurd q h1
          | cons c l => exact ⟨c, l, rfl⟩
        have hx : ixP (.str z) (.int 0) = .ok (.str ⟨#[c]⟩) := by
          show (if z.length ≤ LIM then (match L2.atI (TL.tl z) 0 with | some c => Rv.ok (Dv.str ⟨#[c]⟩) | none => .bad) else .bad) = _
          rw [if_pos hz', hc, at0_list]
        have hc0 : ((⟨#[c]⟩ : Str) = "0") ↔ c = 48 := by
          rw [str_eq_iff, tl_0]
          show [c] = [48] ↔ _
          simp
        have hi : intText? z = some ((NumText.digitsVal (TL.tl z) : Nat) : Int) := PySem.intText_digits (x := z) (fun c hc => mem_figs.mp (h3 c hc)) h1 (by omega)
        have hz3 : z.length ≤ 640 := by omega
        have hint : biP .int [.str z] = .ok (.int ((NumText.digitsVal (TL.tl z) : Nat) : Int)) := by
          show (match intText? z with | some n => if z.length ≤ 640 then Rv.ok (Dv.int n) else .bad | none => .bad) = _
          rw [hi]
          exact if_pos hz3
        have e3' : foP (runTP T n) 1 B_read_figures_1 (z.cps.toList.map fun c => Dv.str ⟨#[c]⟩) [some (.str z), none] = .nx [some (.str z), r1] := e3
        by_cases h4 : c = 48 ∧ ¬ z = "0"
        · have : figs (TL.tl z) = none := by
            unfold figs
            rw [if_neg (fun h => h4.2 (e2.mpr (h.2.2.2 (by rw [hc, h4.1]; rfl))))]
          rw [this]
          have hc1 := hc0.mpr h4.1
          have h42 := h4.2
          rw [hc1] at hx
          unfold F_read_figures
          simp only [ME_, ep_str, hk, sk_empty, sk_0, np_str, he, hz', h2, e3', hx, h42]
        · have : figs (TL.tl z) = some (NumText.digitsVal (TL.tl z)) := by
            unfold figs
            rw [if_pos ⟨h1, by omega, h3, fun hh => by
              rw [hc] at hh
              injection hh with hh
              by_cases q : z = "0"
              · exact e2.mp q
              · exact absurd ⟨hh, q⟩ h4⟩]
          rw [this]
          by_cases q : c = 48
          · have q2 : z = "0" := by
              by_cases q2 : z = "0"
              · exact q2
              · exact absurd ⟨q, q2⟩ h4
            have hc1 := hc0.mpr q
            rw [hc1] at hx
            unfold F_read_figures
            have hq : decide (z = "0") = true := decide_eq_true q2
            simp only [ME_, ep_str, hk, sk_empty, sk_0, np_str, he, hz', h2, e3', hx, hq, hint]
          · have hc1 : ¬ ((⟨#[c]⟩ : Str) = "0") := fun h => q (hc0.mp h)
            have hck : PyData.strOk ⟨#[c]⟩ = true := sk_of (fun d hd => by
              have hd : d ∈ [c] := hd
              rw [List.mem_singleton.mp hd]
              have := mem_figs.mp (h3 c (by rw [hc]; exact List.mem_cons_self))
              omega)
            unfold F_read_figures
            simp only [ME_, ep_str, hk, hck, sk_empty, sk_0, np_str, he, hz', h2, e3', hx, hc1, hint]
      · have h3' : ∃ c ∈ TL.tl z, c ∉ [48, 49, 50, 51, 52, 53, 54, 55, 56, 57] := by
          by_cases q : ∃ c ∈ TL.tl z, c ∉ [48, 49, 50, 51, 52, 53, 54, 55, 56, 57]
          · exact q
          · exact absurd (fun c hc => Classical.byContradiction fun hn => q ⟨c, hc, hn⟩) h3
        obtain ⟨σ, e3⟩ := lp.2 h3'
        have : figs (TL.tl z) = none := by unfold figs; rw [if_neg (fun h => h3 h.2.2.1)]
        rw [this]
        have e3' : foP (runTP T n) 1 B_read_figures_1 (z.cps.toList.map fun c => Dv.str ⟨#[c]⟩) [some (.str z), none] = .ex "NoText" σ := e3
        unfold F_read_figures
        simp only [ME_, ep_str, hk, sk_empty, sk_0, he, hz', h2, e3']

end Q
namespace Q
open PySem MP FP
/-- the text of a ratio -/
def shT (q : Rat) : Str := if q.den = 1 then nT q.num.natAbs else nT q.num.natAbs ++ "/" ++ nT q.den
/-- few figures -/
structure Tf (q : Rat) : Prop where
  n0 : 0 ≤ q.num
  n : q.num.natAbs < 10 ^ 60
  d : q.den < 10 ^ 60
theorem tl_slash : TL.tl ("/" : Str) = [47] := by decide +kernel
theorem len_slash : (("/" : Str).length == 0) = false := by decide +kernel
theorem nT_len {n : Nat} (h : n < 10 ^ 60) : (nT n).length ≤ 60 := by
  rw [TL.len_tl, tl_nT]
  exact TL.numL_len (by decide) h
theorem nT_sk (n : Nat) : PyData.strOk (nT n) = true := sk_of (fun c hc => by
  rw [tl_nT] at hc
  have := TL.numL_digits n c hc
  omega)
theorem log_fits {n : Nat} (h : n < 10 ^ 60) : n.log2 < 1920 := by
  by_cases h0 : n = 0
  · subst h0
    decide
  · rw [Nat.log2_lt h0]
    exact Nat.lt_of_lt_of_le h (Nat.le_trans (show 10 ^ 60 ≤ 2 ^ 200 by decide) (Nat.pow_le_pow_right (by decide) (by decide)))
theorem i_strn {n : Nat} (h : n < 10 ^ 60) : biP .str [.int (n : Int)] = .ok (.str (nT n)) := by
  show (if ((n : Int)).natAbs.log2 < 1920 then Rv.ok (Dv.str (Str.ofString (toString (n : Int)))) else .bad) = _
  rw [if_pos (by rw [Int.natAbs_natCast]; exact log_fits h)]
  rfl
theorem bp_adds' {a b : Str} (h : a.length + b.length ≤ 1000000) : binP .add (.str a) (.str b) = .ok (.str (a ++ b)) := if_pos (by unfold LIM; omega)
theorem str_len_append (a b : Str) : (a ++ b).length = a.length + b.length := by
  rw [TL.len_tl, TL.len_tl a, TL.len_tl b, TL.tl_append, List.length_append]
theorem len1_slash : ("/" : Str).length = 1 := by decide +kernel
theorem shT_len {q : Rat} (h : Tf q) : (shT q).length ≤ 121 := by
  unfold shT
  have h1 := nT_len h.n
  have h2 := nT_len h.d
  split
  · omega
  · rw [str_len_append, str_len_append, len1_slash]
    omega
theorem tl_shT (q : Rat) : TL.tl (shT q) = if q.den = 1 then TL.numL q.num.natAbs else TL.numL q.num.natAbs ++ [47] ++ TL.numL q.den := by
  unfold shT
  split
  · rw [tl_nT]
  · rw [TL.tl_append, TL.tl_append, tl_nT, tl_nT, tl_slash]
theorem shT_sg (q : Rat) : ∀ c ∈ TL.tl (shT q), 47 ≤ c ∧ c ≤ 57 := fun c hc => by
  rw [tl_shT] at hc
  split at hc
  · have := TL.numL_digits _ c hc
    omega
  · simp only [List.mem_append, List.mem_singleton] at hc
    rcases hc with (hc | hc) | hc
    · have := TL.numL_digits _ c hc
      omega
    · omega
    · have := TL.numL_digits _ c hc
      omega
theorem shT_sk (q : Rat) : PyData.strOk (shT q) = true := sk_of (fun c hc => by have := shT_sg q c hc; omega)
theorem dig_fold : ∀ (l : List Nat) (a : Nat), (∀ c ∈ l, 48 ≤ c ∧ c ≤ 57) → l.foldl (fun acc c => acc * 10 + (c - 48)) a < (a + 1) * 10 ^ l.length
  | [], a, _ => by simp
  | c :: l, a, h => by
    have hc := h c List.mem_cons_self
    have ih := dig_fold l (a * 10 + (c - 48)) (fun d hd => h d (List.mem_cons_of_mem _ hd))
    rw [List.foldl_cons, List.length_cons, Nat.pow_succ]
    refine Nat.lt_of_lt_of_le ih ?_
    have : a * 10 + (c - 48) + 1 ≤ (a + 1) * 10 := by omega
    have := Nat.mul_le_mul_right (10 ^ l.length) this
    rw [Nat.mul_comm (10 ^ l.length) 10, ← Nat.mul_assoc]
    exact this
theorem figs_lt {l : List Nat} {t : Nat} (h : figs l = some t) : t < 10 ^ 60 := by
  unfold figs at h
  split at h
  · rename_i hh
    injection h with h
    have := dig_fold l 0 (fun c hc => mem_figs.mp (hh.2.2.1 c hc))
    rw [← h]
    refine Nat.lt_of_lt_of_le (show NumText.digitsVal l < 1 * 10 ^ l.length from this) ?_
    rw [Nat.one_mul]
    exact Nat.pow_le_pow_right (by decide) hh.2.1
  · cases h
theorem big10 {t : Nat} (h : t < 10 ^ 60) : ((t : Nat) : Int).natAbs < 2 ^ BIG := by
  rw [Int.natAbs_natCast]
  exact Nat.lt_of_lt_of_le (Nat.lt_of_lt_of_le h (show 10 ^ 60 ≤ 2 ^ 200 by decide)) (Nat.pow_le_pow_right (by decide) (le_big (by decide)))
/-- the ratio of a text -/
theorem r_read_ratio (n : Nat) (z a b c : Str) (hl : z.length ≤ 1000000) (hp : Txt.partition z "/" = (a, b, c)) (ha : PyData.strOk a = true ∧ a.length ≤ 1000000) (hb : PyData.strOk b = true) (hc : PyData.strOk c = true ∧ c.length ≤ 1000000) : runTP T (n + 4) "read_ratio" [.str z] = match figs (TL.tl a) with
    | none => .exc "NoText"
    | some t => if b = "" then .ok (dR (Rat.divInt t 1)) else match figs (TL.tl c) with
      | none => .exc "NoText"
      | some d => if d < 2 ∨ Nat.gcd t d ≠ 1 then .exc "NoText" else .ok (dR (Rat.divInt t d)) := by
  rw [runTP_succ T_read_ratio]
  have hz' : z.length ≤ LIM := by unfold LIM; omega
  have ep : tmP .partition (.str z) [.str "/"] = .ok (.tup [.str a, .str b, .str c]) := by
    rw [tm_part, if_pos ⟨len_slash, hz'⟩, hp]
  have f1 := r_read_figures (n + 2) a ha.2 ha.1
  cases q1 : figs (TL.tl a) with
  | none =>
    rw [q1] at f1
    unfold F_read_ratio
    simp only [ME_, t_str, ep, f1]
  | some t =>
    rw [q1] at f1
    have t1 := figs_lt q1
    show _ = if b = "" then _ else _
    by_cases hbe : b = ""
    · rw [if_pos hbe]
      have e1 := r_ratio (n + 1) (t : Int) 1 (by decide) (big10 t1) (up_lt (k := 2) (by decide) (le_big (by decide)))
      have hde : decide (b = "") = true := decide_eq_true hbe
      unfold F_read_ratio
      simp only [ME_, t_str, ep, f1, ep_str, hb, sk_empty, hde, e1]
    · rw [if_neg hbe]
      have f2 := r_read_figures (n + 2) c hc.2 hc.1
      cases q2 : figs (TL.tl c) with
      | none =>
        rw [q2] at f2
        unfold F_read_ratio
        simp only [ME_, t_str, ep, f1, ep_str, hb, sk_empty, hbe, f2]
      | some d =>
        rw [q2] at f2
        have d1 := figs_lt q2
        have hg : ((Int.gcd (t : Int) (d : Int) : Nat) : Int) = 1 ↔ Nat.gcd t d = 1 := by
          rw [Int.gcd_natCast_natCast]
          omega
        show _ = if d < 2 ∨ Nat.gcd t d ≠ 1 then _ else _
        by_cases h2 : d < 2
        · rw [if_pos (.inl h2)]
          have h2' : (d : Int) < 2 := by omega
          unfold F_read_ratio
          simp only [ME_, t_str, ep, f1, ep_str, hb, sk_empty, hbe, f2, h2']
        · have h2' : ¬ (d : Int) < 2 := by omega
          by_cases hg1 : Nat.gcd t d = 1
          · rw [if_neg (fun h => h.elim h2 (fun h => h hg1))]
            have hg' := hg.mpr hg1
            have e1 := r_ratio (n + 1) (t : Int) (d : Int) (by omega) (big10 t1) (big10 d1)
            unfold F_read_ratio
            simp only [ME_, t_str, ep, f1, ep_str, hb, sk_empty, hbe, f2, h2', r_divisor, hg', e1]
          · rw [if_pos (.inr hg1)]
            have hg' : ¬ ((Int.gcd (t : Int) (d : Int) : Nat) : Int) = 1 := fun h => hg1 (hg.mp h)
            unfold F_read_ratio
            simp only [ME_, t_str, ep, f1, ep_str, hb, sk_empty, hbe, f2, h2', r_divisor, hg']
theorem divInt_one (q : Rat) (h : q.den = 1) : Rat.divInt q.num 1 = q := by
  have := Rat.num_divInt_den q
  rw [h] at this
  exact this
theorem sk_slash : PyData.strOk "/" = true := by decide +kernel
theorem slash_ne : ¬ (("/" : Str) = "") := by rw [str_eq_iff, tl_slash, tl_empty]; simp
/-- a shown ratio is read -/
theorem r_read_shown (n : Nat) (q : Rat) (h : Tf q) : runTP T (n + 4) "read_ratio" [.str (shT q)] = .ok (dR q) := by
  have e1 : q.num = ((q.num.natAbs : Nat) : Int) := by have := h.n0; omega
  have hl := shT_len h
  have l1 := nT_len h.n
  have l2 := nT_len h.d
  have f1 : figs (TL.tl (nT q.num.natAbs)) = some q.num.natAbs := by rw [tl_nT]; exact figs_num h.n
  have f2 : figs (TL.tl (nT q.den)) = some q.den := by rw [tl_nT]; exact figs_num h.d
  have free : ∀ k, 47 ∉ TL.tl (nT k) := fun k hk => by
    rw [tl_nT] at hk
    exact TL.numL_free (.inl (by decide)) hk
  by_cases hd : q.den = 1
  · have es : shT q = nT q.num.natAbs := if_pos hd
    have hp : Txt.partition (shT q) "/" = (nT q.num.natAbs, Str.empty, Str.empty) := by
      rw [es]
      exact TL.partition_none tl_slash (free _)
    rw [r_read_ratio n (shT q) _ _ _ (by omega) hp ⟨nT_sk _, by omega⟩ (by decide +kernel) ⟨by decide +kernel, by decide +kernel⟩, f1]
    show (if Str.empty = ("" : Str) then _ else _) = _
    rw [if_pos (by decide +kernel), ← e1, divInt_one q hd]
  · have es : shT q = nT q.num.natAbs ++ "/" ++ nT q.den := if_neg hd
    have hp : Txt.partition (shT q) "/" = (nT q.num.natAbs, ("/" : Str), nT q.den) := by
      rw [es]
      exact TL.partition_app tl_slash (free _)
    rw [r_read_ratio n (shT q) (nT q.num.natAbs) ("/" : Str) (nT q.den) (by omega) hp ⟨nT_sk _, by omega⟩ sk_slash ⟨nT_sk _, by omega⟩, f1, f2]
    show (if ("/" : Str) = "" then _ else if q.den < 2 ∨ Nat.gcd q.num.natAbs q.den ≠ 1 then _ else _) = _
    have hdp := q.den_pos
    rw [if_neg slash_ne, if_neg (fun hh => hh.elim (fun h => by omega) (fun h => h q.reduced)), ← e1, Rat.num_divInt_den]

end Q
namespace Q
open PySem MP FP
/-- the word of a corner, the text of a curve -/
def wC (x : Cn) : Str := shT x.1 ++ (":" : Str) ++ shT x.2
def wS (s : Rat) : Str := ("+" : Str) ++ shT s
def wsC (cs : List Cn) (s : Rat) : List Str := cs.map wC ++ [wS s]
def shC (cs : List Cn) (s : Rat) : Str := Txt.join " " (wsC cs s)
theorem tl_colon : TL.tl (":" : Str) = [58] := by decide +kernel
theorem tl_plus : TL.tl ("+" : Str) = [43] := by decide +kernel
theorem tl_blank : TL.tl (" " : Str) = [32] := by decide +kernel
theorem len1_colon : (":" : Str).length = 1 := by decide +kernel
theorem len1_plus : ("+" : Str).length = 1 := by decide +kernel
theorem len1_blank : (" " : Str).length = 1 := by decide +kernel
theorem lenb_colon : ((":" : Str).length == 0) = false := by decide +kernel
theorem lenb_blank : ((" " : Str).length == 0) = false := by decide +kernel
theorem sk_colon : PyData.strOk ":" = true := by decide +kernel
def TfC (x : Cn) : Prop := Tf x.1 ∧ Tf x.2
theorem wC_len {x : Cn} (h : TfC x) : (wC x).length ≤ 243 := by
  unfold wC
  have := shT_len h.1
  have := shT_len h.2
  rw [str_len_append, str_len_append, len1_colon]
  omega
theorem wS_len {s : Rat} (h : Tf s) : (wS s).length ≤ 122 := by
  unfold wS
  have := shT_len h
  rw [str_len_append, len1_plus]
  omega
theorem wC_sg (x : Cn) : ∀ c ∈ TL.tl (wC x), 47 ≤ c ∧ c ≤ 58 := fun c hc => by
  unfold wC at hc
  rw [TL.tl_append, TL.tl_append, tl_colon] at hc
  simp only [List.mem_append, List.mem_singleton] at hc
  rcases hc with (hc | hc) | hc
  · have := shT_sg _ c hc; omega
  · omega
  · have := shT_sg _ c hc; omega
theorem wS_sg (s : Rat) : ∀ c ∈ TL.tl (wS s), 43 ≤ c ∧ c ≤ 58 := fun c hc => by
  unfold wS at hc
  rw [TL.tl_append, tl_plus] at hc
  simp only [List.mem_append, List.mem_singleton] at hc
  rcases hc with hc | hc
  · omega
  · have := shT_sg _ c hc; omega
theorem wsC_sum (cs : List Cn) (s : Rat) (h : ∀ x ∈ cs, TfC x) (hs : Tf s) : ((wsC cs s).map (·.length)).sum ≤ 243 * cs.length + 122 := by
  unfold wsC
  induction cs with
  | nil =>
    have := wS_len hs
    simp
    exact this
  | cons x cs ih =>
    have := ih (fun y hy => h y (List.mem_cons_of_mem _ hy))
    have := wC_len (h x List.mem_cons_self)
    simp only [List.map_cons, List.cons_append, List.sum_cons, List.length_cons] at *
    omega
theorem wsC_len (cs : List Cn) (s : Rat) : (wsC cs s).length = cs.length + 1 := by unfold wsC; simp
theorem joinL_len (S : List Nat) (B : Nat) (hS : S.length ≤ 1) : ∀ ps : List (List Nat), (TL.joinL S ps).length ≤ (ps.map (·.length)).sum + ps.length
  | [] => by simp [TL.joinL]
  | [p] => by simp [TL.joinL]
  | p :: q :: r => by
    have := joinL_len S B hS (q :: r)
    show (p ++ (S ++ TL.joinL S (q :: r))).length ≤ _
    simp only [List.length_append, List.map_cons, List.sum_cons, List.length_cons] at *
    omega
theorem shC_len (cs : List Cn) (s : Rat) (h : ∀ x ∈ cs, TfC x) (hs : Tf s) : (shC cs s).length ≤ 244 * cs.length + 123 := by
  unfold shC
  rw [TL.join_eq, TL.len_tl, TL.tl_join]
  have := joinL_len (TL.tl (" " : Str)) 0 (by rw [tl_blank]; simp) ((wsC cs s).map TL.tl)
  have e : ((wsC cs s).map TL.tl).map (·.length) = (wsC cs s).map (·.length) := by
    rw [List.map_map]
    exact List.map_congr_left fun z _ => (TL.len_tl z).symm
  rw [e, List.length_map, wsC_len] at this
  have := wsC_sum cs s h hs
  omega
theorem joinL_mem (S : List Nat) : ∀ (ps : List (List Nat)) (c : Nat), c ∈ TL.joinL S ps → c ∈ S ∨ ∃ p ∈ ps, c ∈ p
  | [], c, h => by simp [TL.joinL] at h
  | [p], c, h => .inr ⟨p, List.mem_cons_self, h⟩
  | p :: q :: r, c, h => by
    have h : c ∈ p ++ (S ++ TL.joinL S (q :: r)) := h
    simp only [List.mem_append] at h
    rcases h with h | h | h
    · exact .inr ⟨p, List.mem_cons_self, h⟩
    · exact .inl h
    · rcases joinL_mem S (q :: r) c h with h | ⟨z, hz, h⟩
      · exact .inl h
      · exact .inr ⟨z, List.mem_cons_of_mem _ hz, h⟩
theorem shC_sk (cs : List Cn) (s : Rat) : PyData.strOk (shC cs s) = true := sk_of (fun c hc => by
  unfold shC at hc
  rw [TL.join_eq, TL.tl_join, tl_blank] at hc
  rcases joinL_mem _ _ c hc with h | ⟨p, hp, h⟩
  · rw [List.mem_singleton.mp h]; decide
  · obtain ⟨z, hz, rfl⟩ := List.mem_map.mp hp
    unfold wsC at hz
    rcases List.mem_append.mp hz with hz | hz
    · obtain ⟨x, _, rfl⟩ := List.mem_map.mp hz
      have := wC_sg x c h
      omega
    · rw [List.mem_singleton.mp hz] at h
      have := wS_sg s c h
      omega)
theorem shC_split (cs : List Cn) (s : Rat) : Txt.split (shC cs s) " " = wsC cs s := by
  unfold shC
  refine TL.split_join tl_blank (by decide +kernel) ?_ ?_
  · unfold wsC; simp
  · intro z hz hm
    unfold wsC at hz
    rcases List.mem_append.mp hz with hz | hz
    · obtain ⟨x, _, rfl⟩ := List.mem_map.mp hz
      have := wC_sg x _ hm
      omega
    · rw [List.mem_singleton.mp hz] at hm
      have := wS_sg s _ hm
      omega
theorem sw_wS (s : Rat) : Txt.startswith (wS s) "+" = true := by
  unfold Txt.startswith
  have h1 : (0 + ("+" : Str).length ≤ (wS s).length) := by
    unfold wS
    rw [str_len_append]
    omega
  have h := (TL.at_iff (x := wS s) (y := "+") (by rw [tl_plus]; simp) 0).mpr (by
    rw [tl_plus]
    unfold wS
    rw [TL.tl_append, tl_plus]
    rfl)
  rw [decide_eq_true h1, Bool.true_and]
  exact h.2
theorem cutS_wS (s : Rat) : L2.cutS (wS s) (some 1) none = shT s := by
  refine TL.ext_tl ?_
  show ((wS s).cps.toList.drop (HT.sIx (wS s).length 0 (some 1))).take (HT.sIx (wS s).length (wS s).length none - HT.sIx (wS s).length 0 (some 1)) = TL.tl (shT s)
  have h1 : 1 ≤ (wS s).length := by unfold wS; rw [str_len_append, len1_plus]; omega
  have e1 : HT.sIx (wS s).length 0 (some 1) = 1 := by
    rw [show (1 : Int) = ((1 : Nat) : Int) from rfl, HT.sIx_nat]
    omega
  have e2 : (wS s).cps.toList = 43 :: TL.tl (shT s) := by
    show TL.tl (wS s) = _
    unfold wS
    rw [TL.tl_append, tl_plus]
    rfl
  have e3 := TL.len_tl (wS s)
  have e4 : TL.tl (wS s) = 43 :: TL.tl (shT s) := e2
  rw [e1, HT.sIx_none, e2, List.drop_one, List.tail_cons, List.take_of_length_le]
  rw [e3, e4]
  simp
theorem r_read_corner (n : Nat) (x : Cn) (h : TfC x) : runTP T (n + 5) "read_corner" [.str (wC x)] = .ok (dC x) := by
  rw [runTP_succ T_read_corner]
  have h1 := r_read_shown n x.1 h.1
  have h2 := r_read_shown n x.2 h.2
  have hl := wC_len h
  have hp : Txt.partition (wC x) ":" = (shT x.1, (":" : Str), shT x.2) := TL.partition_app tl_colon (fun hm => by have := shT_sg _ _ hm; omega)
  have hl' : (wC x).length ≤ LIM := by unfold LIM; omega
  have ep : tmP .partition (.str (wC x)) [.str ":"] = .ok (.tup [.str (shT x.1), .str ":", .str (shT x.2)]) := by
    rw [tm_part, if_pos ⟨lenb_colon, hl'⟩, hp]
  unfold F_read_corner
  simp only [MC_, ep, h1, h2]

end Q
namespace Q
open PySem MP FP
theorem lowg_loop {Φ : Str → List Dv → Rv Dv} (e0 e1 : Option Dv) : ∀ (n : Nat) (a b : Nat) (r : Option Dv), b ≤ n → ∃ r', whP Φ C__law_lowest_1 B__law_lowest_1 [e0, e1, some (.int a), some (.int b), r] = .nx [e0, e1, some (.int (Nat.gcd a b)), some (.int 0), r']
  | n, a, 0, r, _ => by
    refine ⟨r, ?_⟩
    rw [wh_end (by simp only [ME_, VC__law_lowest_1] <;> rfl)]
    simp
  | 0, a, b + 1, r, h => absurd h (by omega)
  | n + 1, a, b + 1, r, h => by
    have hb : ((b + 1 : Nat) : Int) ≠ 0 := by omega
    have hd : (0 : Int) < ((b + 1 : Nat) : Int) := by omega
    have hlt : a % (b + 1) < b + 1 := Nat.mod_lt _ (by omega)
    obtain ⟨r', ih⟩ := lowg_loop e0 e1 n (b + 1) (a % (b + 1)) (some (.int ((a % (b + 1) : Nat) : Int))) (by omega)
    refine ⟨r', ?_⟩
    have hm : (a : Int).fmod ((b + 1 : Nat) : Int) = ((a % (b + 1) : Nat) : Int) := by
      rw [Int.fmod_eq_emod_of_nonneg _ (by omega)]
      rfl
    rw [wh_go (by simp only [ME_, VC__law_lowest_1, hd]) (by simp only [ME_, VB__law_lowest_1, hb, hm] <;> rfl) ih (fun z => by cases z)]
    rw [Nat.gcd_comm a, Nat.gcd_rec (b + 1) a, Nat.gcd_comm]
theorem r_lowest (n : Nat) (t b : Int) (hb : 0 < b) (ht : t.natAbs < 2 ^ BIG) (hbb : b.natAbs < 2 ^ BIG) : runTP T (n + 1) "_law_lowest" [.int t, .int b] = .ok (dR (Rat.divInt t b)) := by
  rw [runTP_succ T__law_lowest]
  obtain ⟨r, hl⟩ := lowg_loop (Φ := runTP T n) (some (.int t)) (some (.int b)) b.natAbs t.natAbs b.natAbs none (Nat.le_refl _)
  have hb' : ((b.natAbs : Nat) : Int) = b := by omega
  rw [hb'] at hl
  have hg : ((Nat.gcd t.natAbs b.natAbs : Nat) : Int) ≠ 0 := by
    intro h
    have h' : Int.gcd t b = 0 := by show Nat.gcd t.natAbs b.natAbs = 0; omega
    have := (Int.gcd_eq_zero_iff.mp h').2
    omega
  have hp := div_pos_parts t b hb
  have d1 := divOk_of hg ht
  have d2 := divOk_of hg hbb
  have p1 : t.fdiv (Nat.gcd t.natAbs b.natAbs : Nat) = (Rat.divInt t b).num := hp.1
  have p2 : b.fdiv (Nat.gcd t.natAbs b.natAbs : Nat) = ((Rat.divInt t b).den : Int) := hp.2
  unfold F__law_lowest
  simp only [MR_, abs_nat, hl, d1, d2, p1, p2]

end Q
namespace Q
open PySem MP FP
def cellB (ns : List Int) (k : Int) : Int := if k < ns.length then cell ns k else 7 * k + 3
theorem r_bcell (n : Nat) (ns : List Int) (k : Int) (h0 : 0 ≤ k) : runTP T (n + 1) "_law_cell_at" [.scr (ns.map Dv.int), .int k] = .ok (.int (cellB ns k)) := by
  rw [runTP_succ T__law_cell_at]
  unfold F__law_cell_at cellB
  have m : mulOk 7 k := mulOk_small' (by decide)
  by_cases h : k < ns.length
  · simp only [MR_, List.length_map, h, sc_at ns k h0 h]
  · simp only [MR_, List.length_map, h, m]

end Q
namespace Q
open PySem MP FP
theorem at_mod {α : Type} (f : α → Dv) (xs : List α) (a : Int) (h : 0 < xs.length) : ∃ x ∈ xs, L2.atI (xs.map f) (a % (xs.length : Int)) = some (f x) := by
  have h1 := Int.emod_nonneg a (b := (xs.length : Int)) (by omega)
  have h2 := Int.emod_lt_of_pos a (b := (xs.length : Int)) (by omega)
  obtain ⟨k, hk⟩ : ∃ k : Nat, a % (xs.length : Int) = (k : Int) := ⟨(a % (xs.length : Int)).toNat, by omega⟩
  obtain ⟨x, hx⟩ : ∃ x, xs[k]? = some x := ⟨_, List.getElem?_eq_getElem (by omega)⟩
  exact ⟨x, List.mem_of_getElem? hx, by rw [hk]; exact at_map hx⟩
theorem divOk_s (c k : Int) (hk : 0 < k ∧ k.natAbs < 2 ^ 256) : divOk c k := ⟨by omega, by
  unfold Builtin.divisionGoesByPylong
  simp only [Bool.and_eq_false_iff, decide_eq_false_iff_not, Nat.not_lt]
  left
  by_cases h0 : k = 0
  · subst h0
    decide
  · rw [if_neg (by simpa using h0)]
    have := log2_lt_of' hk.2 (by omega)
    omega⟩
theorem divOk4 (c : Int) : divOk c 4 := divOk_s c 4 ⟨by decide, up_lt (k := 3) (by decide) (by decide)⟩
theorem fdiv4 (c : Int) : c.fdiv 4 = c / 4 := Int.fdiv_eq_ediv_of_nonneg _ (by omega)
theorem fdp (c : Int) {k : Int} (h : 0 < k) : c.fdiv k = c / k := Int.fdiv_eq_ediv_of_nonneg _ (by omega)
theorem lc_ints {Φ : Str → List Dv → Rv Dv} {σ : Ev} (P : Int → Prop) (s : Nat) (c e : Ex) : ∀ (n : Nat) (i st : Int), (∀ j : Nat, j < n → evP Φ c (σ.set s (some (.int (i + st * j)))) = .ok (.bl true)) → (∀ j : Nat, j < n → ∃ x, evP Φ e (σ.set s (some (.int (i + st * j)))) = .ok (.int x) ∧ P x) → ∃ ms : List Int, ms.length = n ∧ (∀ x ∈ ms, P x) ∧ lcQ Φ s c e σ (stepsP i st n) = .ok (ms.map Dv.int)
  | 0, i, st, _, _ => ⟨[], rfl, fun x hx => absurd hx List.not_mem_nil, FP.lc_nil⟩
  | n + 1, i, st, h1, h2 => by
    obtain ⟨ms, a, b, d⟩ := lc_ints P s c e n (i + st) st (fun j hj => by have := h1 (j + 1) (by omega); rw [show i + st + st * (j : Int) = i + st * ((j + 1 : Nat) : Int) by rw [Int.natCast_add, Int.mul_add]; omega]; exact this) (fun j hj => by have := h2 (j + 1) (by omega); rw [show i + st + st * (j : Int) = i + st * ((j + 1 : Nat) : Int) by rw [Int.natCast_add, Int.mul_add]; omega]; exact this)
    obtain ⟨x, hx, px⟩ := h2 0 (by omega)
    have h0 := h1 0 (by omega)
    rw [show i + st * ((0 : Nat) : Int) = i by simp] at hx h0
    refine ⟨x :: ms, by rw [List.length_cons, a], fun y hy => ?_, ?_⟩
    · rcases List.mem_cons.mp hy with e | hy
      · rw [e]; exact px
      · exact b y hy
    · rw [stepsP, List.map_cons]
      exact FP.lc_cons (y := .int x) h0 hx d

end Q
namespace Q
open PySem MP FP
/-- a short text of plain signs -/
def As (z : Str) : Prop := (∀ c ∈ TL.tl z, c < 128) ∧ z.length ≤ 5000
theorem As.sk {z : Str} (h : As z) : PyData.strOk z = true := sk_of h.1
theorem first_cut (s : Nat) : ∀ l : List Nat, s ∉ l ∨ ∃ p q, l = p ++ s :: q ∧ s ∉ p
  | [] => .inl List.not_mem_nil
  | c :: l => by
    by_cases h : c = s
    · exact .inr ⟨[], l, by rw [h]; rfl, List.not_mem_nil⟩
    · rcases first_cut s l with k | ⟨p, q, e, k⟩
      · exact .inl (fun z => (List.mem_cons.mp z).elim (fun e => h e.symm) k)
      · exact .inr ⟨c :: p, q, by rw [e]; rfl, fun z => (List.mem_cons.mp z).elim (fun e => h e.symm) k⟩
def dueZ (a b c : Str) : Option Rat := match figs (TL.tl a) with
  | none => none
  | some t => if b = "" then some (Rat.divInt t 1) else match figs (TL.tl c) with
    | none => none
    | some d => if d < 2 ∨ Nat.gcd t d ≠ 1 then none else some (Rat.divInt t d)
theorem read_due (n : Nat) {z a b c : Str} (hz : z.length ≤ 5000) (hp : Txt.partition z "/" = (a, b, c)) (ha : As a) (hc : As c) (hb : PyData.strOk b = true) : runTP T (n + 4) "read_ratio" [.str z] = match dueZ a b c with | some q => .ok (dR q) | none => .exc "NoText" := by
  rw [r_read_ratio n z a b c (by omega) hp ⟨ha.sk, by have := ha.2; omega⟩ hb ⟨hc.sk, by have := hc.2; omega⟩]
  unfold dueZ
  cases figs (TL.tl a) with
  | none => rfl
  | some t =>
    by_cases hbe : b = ""
    · simp only [hbe, if_true]
    · simp only [hbe, if_false]
      cases figs (TL.tl c) with
      | none => rfl
      | some d =>
        by_cases h : d < 2 ∨ Nat.gcd t d ≠ 1
        · simp only [h, if_true]
        · simp only [h, if_false]
theorem As.nil : As ("" : Str) := ⟨fun c hc => by
  rw [tl_empty] at hc
  exact absurd hc List.not_mem_nil, by decide +kernel⟩
/-- a cut at a sign -/
theorem part_cut {y : Str} {s : Nat} (ey : TL.tl y = [s]) (hk : PyData.strOk y = true) {z : Str} (h : As z) : (s ∉ TL.tl z ∧ Txt.partition z y = (z, ("" : Str), ("" : Str))) ∨ ∃ a c, As a ∧ As c ∧ s ∉ TL.tl a ∧ TL.tl z = TL.tl a ++ s :: TL.tl c ∧ Txt.partition z y = (a, y, c) := by
  rcases first_cut s (TL.tl z) with k | ⟨p, q, e, k⟩
  · refine .inl ⟨k, ?_⟩
    have := TL.partition_none ey k
    rw [this]
    rfl
  · have ez : z = (⟨p.toArray⟩ : Str) ++ y ++ (⟨q.toArray⟩ : Str) := TL.ext_tl (by rw [TL.tl_append, TL.tl_append, ey, e]; simp [TL.tl_mk])
    have hl := h.2
    rw [TL.len_tl, e, List.length_append, List.length_cons] at hl
    refine .inr ⟨⟨p.toArray⟩, ⟨q.toArray⟩, ⟨fun c hc => h.1 c (by rw [e]; exact List.mem_append_left _ hc), by rw [TL.len_tl, TL.tl_mk]; omega⟩, ⟨fun c hc => h.1 c (by rw [e]; exact List.mem_append_right _ (List.mem_cons_of_mem _ hc)), by rw [TL.len_tl, TL.tl_mk]; omega⟩, by rw [TL.tl_mk]; exact k, by rw [TL.tl_mk, TL.tl_mk]; exact e, ?_⟩
    have := TL.partition_app (y := y) (a := ⟨p.toArray⟩) (b := ⟨q.toArray⟩) ey (by rw [TL.tl_mk]; exact k)
    rw [← ez] at this
    exact this
/-- the ratio of a text, where it writes one -/
def due (z : Str) : Option Rat := dueZ (Txt.partition z "/").1 (Txt.partition z "/").2.1 (Txt.partition z "/").2.2
theorem r_ratio_any (n : Nat) {z : Str} (h : As z) : runTP T (n + 4) "read_ratio" [.str z] = match due z with | some q => .ok (dR q) | none => .exc "NoText" := by
  unfold due
  rcases part_cut tl_slash sk_slash h with ⟨_, e⟩ | ⟨a, c, ha, hc, _, _, e⟩
  · rw [e]
    exact read_due n h.2 e h As.nil sk_empty
  · rw [e]
    exact read_due n h.2 e ha hc sk_slash

end Q
namespace Q
open PySem MP FP
theorem tcut_dropLast {α : Type} (xs : List α) : cut xs none (some (-1)) = xs.dropLast := by
  unfold cut
  rw [HT.sIx_none, List.drop_zero, Nat.sub_zero, List.dropLast_eq_take]
  congr 1
  show (if (-1 : Int) < 0 then ((-1 : Int) + (xs.length : Int)).toNat else min (-1 : Int).toNat xs.length) = _
  rw [if_pos (by decide)]
  omega
/-- the corner of a word, where it writes one -/
def dueC (w : Str) : Option Cn := match due (Txt.partition w ":").1, due (Txt.partition w ":").2.2 with
  | some a, some b => some (a, b)
  | _, _ => none
theorem r_corner_any (n : Nat) {w : Str} (h : As w) : runTP T (n + 5) "read_corner" [.str w] = match dueC w with | some c => .ok (dC c) | none => .exc "NoText" := by
  rw [runTP_succ T_read_corner]
  have hl : w.length ≤ LIM := by have := h.2; unfold LIM; omega
  obtain ⟨a, b, c, e, ha, hc⟩ : ∃ a b c, Txt.partition w ":" = (a, b, c) ∧ As a ∧ As c := by
    rcases part_cut tl_colon sk_colon h with ⟨_, e⟩ | ⟨a, c, ha, hc, _, _, e⟩
    · exact ⟨_, _, _, e, h, As.nil⟩
    · exact ⟨_, _, _, e, ha, hc⟩
  have ep : tmP .partition (.str w) [.str ":"] = .ok (.tup [.str a, .str b, .str c]) := by
    rw [tm_part, if_pos ⟨lenb_colon, hl⟩, e]
  have r1 := r_ratio_any n ha
  have r2 := r_ratio_any n hc
  unfold dueC
  rw [e]
  unfold F_read_corner
  cases q1 : due a with
  | none =>
    rw [q1] at r1
    simp only [MC_, ep, r1, q1]
  | some x =>
    rw [q1] at r1
    cases q2 : due c with
    | none =>
      rw [q2] at r2
      simp only [MC_, ep, r1, r2, q1, q2]
    | some y =>
      rw [q2] at r2
      simp only [MC_, ep, r1, r2, q1, q2]
theorem lc_words (n : Nat) : ∀ (pre : List Str), (∀ x ∈ pre, As x) → ∀ σ : Ev, σ.length = 6 → ((∃ x ∈ pre, dueC x = none) → lcQX (runTP T (n + 5)) 2 C_read_curve_1 E_read_curve_1 σ (pre.map Dv.str) = .exc "NoText") ∧ ∀ cs : List Cn, pre.map dueC = cs.map some → lcQX (runTP T (n + 5)) 2 C_read_curve_1 E_read_curve_1 σ (pre.map Dv.str) = .ok (cs.map dC)
  | [], _, σ, h6 => ⟨fun ⟨x, hx, _⟩ => absurd hx List.not_mem_nil, fun cs e => by
    cases cs with
    | nil => rfl
    | cons c cs => cases e⟩
  | w :: pre, hA, σ, h6 => by
    obtain ⟨i1, i2⟩ := lc_words n pre (fun x hx => hA x (List.mem_cons_of_mem _ hx)) σ h6
    have hr := r_corner_any n (hA w List.mem_cons_self)
    have hc : evP (runTP T (n + 5)) C_read_curve_1 (σ.set 2 (some (.str w))) = .ok (.bl true) := by simp only [MC_, VC_read_curve_1]
    cases q : dueC w with
    | none =>
      rw [q] at hr
      have he : evP (runTP T (n + 5)) E_read_curve_1 (σ.set 2 (some (.str w))) = .exc "NoText" := by
        match σ, h6 with
        | [o0, o1, o2, o3, o4, o5], _ => simp only [MC_, VE_read_curve_1, hr]
      refine ⟨fun _ => lcx_exc hc he, fun cs e => ?_⟩
      cases cs with
      | nil => cases e
      | cons c cs =>
        rw [List.map_cons, List.map_cons, q] at e
        cases e
    | some x =>
      rw [q] at hr
      have he : evP (runTP T (n + 5)) E_read_curve_1 (σ.set 2 (some (.str w))) = .ok (dC x) := by
        match σ, h6 with
        | [o0, o1, o2, o3, o4, o5], _ => simp only [MC_, VE_read_curve_1, hr]
      refine ⟨fun ⟨y, hy, hn⟩ => ?_, fun cs e => ?_⟩
      · rcases List.mem_cons.mp hy with e | hy
        · rw [e, q] at hn
          cases hn
        · exact lcx_consX hc he (i1 ⟨y, hy, hn⟩)
      · cases cs with
        | nil => cases e
        | cons c cs =>
          rw [List.map_cons, List.map_cons, q] at e
          injection e with e1 e2
          injection e1 with e1
          subst e1
          exact lcx_cons hc he (i2 cs e2)
theorem all_some {α β : Type} {f : α → Option β} : ∀ l : List α, (∃ x ∈ l, f x = none) ∨ ∃ r : List β, l.map f = r.map some
  | [] => .inr ⟨[], rfl⟩
  | x :: l => by
    cases h : f x with
    | none => exact .inl ⟨x, List.mem_cons_self, h⟩
    | some y =>
      rcases all_some l with ⟨z, hz, hn⟩ | ⟨r, e⟩
      · exact .inl ⟨z, List.mem_cons_of_mem _ hz, hn⟩
      · exact .inr ⟨y :: r, by rw [List.map_cons, List.map_cons, h, e]⟩
theorem some_inj {α : Type} : ∀ {xs ys : List α}, xs.map some = ys.map some → xs = ys
  | [], [], _ => rfl
  | [], _ :: _, h => by cases h
  | _ :: _, [], h => by cases h
  | x :: xs, y :: ys, h => by
    injection h with h1 h2
    injection h1 with h1
    rw [h1, some_inj h2]
theorem sbNC : isSub "NoCurve" "NoCurve" = true := by decide
/-- a text that is no curve's -/
theorem rc_bad (n : Nat) {t w : Str} {pre : List Str} (ht : Txt.split t " " = pre ++ [w]) (hA : ∀ x ∈ pre, As x) (hw : As w) (hl : pre.length ≤ 5001) (htl : t.length ≤ 900000)
    (hb : Txt.startswith w "+" = false ∨ (∃ x ∈ pre, dueC x = none) ∨ due (L2.cutS w (some 1) none) = none ∨ ∃ (cs : List Cn) (s : Rat), pre.map dueC = cs.map some ∧ due (L2.cutS w (some 1) none) = some s ∧ runTP T (n + 8) "curve" [.lst (cs.map dC), dR s] = .exc "NoCurve") : runTP T (n + 9) "read_curve" [.str t] = .exc "NoText" := by
  rw [runTP_succ T_read_curve]
  have hz : t.length ≤ LIM := by unfold LIM; omega
  have hlen : (pre ++ [w]).length ≤ LIM := by rw [List.length_append]; unfold LIM; simp; omega
  have ew : (pre ++ [w]).map Dv.str = pre.map Dv.str ++ [.str w] := by rw [List.map_append]; rfl
  have es : tmP .split (.str t) [.str " "] = .ok (.own (pre.map Dv.str ++ [.str w])) := by
    rw [tm_split, if_pos ⟨lenb_blank, hz⟩, ht, allocP, if_pos (by rw [List.length_map]; exact hlen), ew]
  have hany : (pre.map Dv.str ++ [Dv.str w]).any (lsF 12) = false := by
    rw [← ew]
    exact any_f (fun _ => rfl) _
  have hany2 : (pre.map Dv.str).any (lsF 12) = false := any_f (fun _ => rfl) _
  have e1 : L2.atI (pre.map Dv.str ++ [Dv.str w]) (-1) = some (.str w) := at_m1
  have e2 : tmP .startswith (.str w) [.str "+"] = .ok (.bl (Txt.startswith w "+")) := tm_starts
  have e3 : cut (pre.map Dv.str ++ [Dv.str w]) none (some (-1)) = pre.map Dv.str := by
    rw [tcut_dropLast, List.dropLast_concat]
  have hll : pre.length ≤ LIM := by unfold LIM; omega
  have hWl : (pre.map Dv.str).length ≤ LIM := by rw [List.length_map]; exact hll
  have hwl : w.length ≤ LIM := by have := hw.2; unfold LIM; omega
  have hcut : As (L2.cutS w (some 1) none) := by
    have e : TL.tl (L2.cutS w (some 1) none) = ((TL.tl w).drop (HT.sIx w.length 0 (some 1))).take (HT.sIx w.length w.length none - HT.sIx w.length 0 (some 1)) := rfl
    refine ⟨fun c hc => ?_, ?_⟩
    · rw [e] at hc
      exact hw.1 c (List.mem_of_mem_drop (List.mem_of_mem_take hc))
    · rw [TL.len_tl, e, List.length_take, List.length_drop, ← TL.len_tl]
      have := hw.2
      omega
  have hr := r_ratio_any (n + 4) hcut
  have hlx := fun σ h6 => lc_words (n + 3) pre hA σ h6
  cases hs : Txt.startswith w "+" with
  | false =>
    rw [hs] at e2
    unfold F_read_curve
    simp only [MC_, t_str, es, hany, e1, e2]
  | true =>
    rw [hs] at e2
    rcases all_some (f := dueC) pre with hx | ⟨cs, hx⟩
    · have hl1 := fun σ h6 => (hlx σ h6).1 hx
      generalize pre.map Dv.str = WW at *
      unfold F_read_curve
      simp only [MC_, t_str, es, hany, hany2, e1, e2, e3, hWl, hl1, List.length_cons, List.length_nil]
    · have hl1 := fun σ h6 => (hlx σ h6).2 cs hx
      have hcl : cs.length ≤ LIM := by
        have := congrArg List.length hx
        rw [List.length_map, List.length_map] at this
        omega
      cases hd : due (L2.cutS w (some 1) none) with
      | none =>
        rw [hd] at hr
        generalize pre.map Dv.str = WW at *
        unfold F_read_curve
        simp only [MC_, t_str, es, hany, hany2, e1, e2, e3, hWl, hl1, hcl, List.length_map, hwl, hr, List.length_cons, List.length_nil]
      | some s =>
        rw [hd] at hr
        have hc : runTP T (n + 8) "curve" [.lst (cs.map dC), dR s] = .exc "NoCurve" := by
          rcases hb with hb | ⟨x, h1, h2⟩ | hb | ⟨cs', s', h1, h2, h3⟩
          · rw [hs] at hb
            cases hb
          · have : dueC x ∈ cs.map some := by
              rw [← hx]
              exact List.mem_map.mpr ⟨x, h1, rfl⟩
            rw [h2] at this
            obtain ⟨_, _, z⟩ := List.mem_map.mp this
            cases z
          · rw [hd] at hb
            cases hb
          · rw [hx] at h1
            rw [hd] at h2
            injection h2 with h2
            rw [some_inj h1, h2]
            exact h3
        generalize pre.map Dv.str = WW at *
        unfold F_read_curve
        simp only [MC_, t_str, es, hany, hany2, e1, e2, e3, hWl, hl1, hcl, List.length_map, hwl, hr, hc, sbNC, List.length_cons, List.length_nil]

end Q
namespace Q
open PySem MP FP
/-! ### which texts write no ratio -/
theorem due_nil : due "" = none := by
  unfold due
  have e : Txt.partition "" "/" = (("" : Str), ("" : Str), ("" : Str)) := by
    rcases part_cut tl_slash sk_slash As.nil with ⟨_, e⟩ | ⟨a, c, _, _, _, e, _⟩
    · exact e
    · rw [tl_empty] at e
      exact absurd e (by simp)
  rw [e]
  show dueZ "" "" "" = none
  unfold dueZ
  rw [tl_empty]
  rfl
theorem figs_bad {l : List Nat} {c : Nat} (h : c ∈ l) (hc : ¬ (48 ≤ c ∧ c ≤ 57)) : figs l = none := by
  unfold figs
  rw [if_neg (fun z => hc (mem_figs.mp (z.2.2.1 c h)))]
theorem due_bad {z : Str} (hA : As z) {c : Nat} (h : c ∈ TL.tl z) (hc : ¬ (47 ≤ c ∧ c ≤ 57)) : due z = none := by
  unfold due
  rcases part_cut tl_slash sk_slash hA with ⟨_, e⟩ | ⟨a, b, ha, hb, _, e2, e⟩
  · rw [e]
    show dueZ z "" "" = none
    unfold dueZ
    rw [figs_bad h (by omega)]
  · rw [e]
    show dueZ a "/" b = none
    rw [e2] at h
    unfold dueZ
    rcases List.mem_append.mp h with h | h
    · rw [figs_bad h (by omega)]
    · rcases List.mem_cons.mp h with h | h
      · omega
      · rw [figs_bad h (by omega)]
        cases figs (TL.tl a) with
        | none => rfl
        | some t =>
          show (if ("/" : Str) = "" then _ else _) = none
          rw [if_neg slash_ne]
theorem As.mk' {z : Str} (h : ∀ c ∈ TL.tl z, c < 128) (hl : z.length ≤ 5000) : As z := ⟨h, hl⟩
theorem shT_as {q : Rat} (h : Tf q) : As (shT q) := ⟨fun c hc => by have := shT_sg q c hc; omega, by have := shT_len h; omega⟩
theorem due_shT {q : Rat} (h : Tf q) : due (shT q) = some q := by
  have h1 := r_read_shown 0 q h
  rw [r_ratio_any 0 (shT_as h)] at h1
  cases hd : due (shT q) with
  | none =>
    rw [hd] at h1
    cases h1
  | some p =>
    rw [hd] at h1
    injection h1 with h1
    rw [dR_inj h1]
/-! ### words -/
theorem dueC_none {w : Str} (hA : As w) (h : 58 ∉ TL.tl w) : dueC w = none := by
  unfold dueC
  rcases part_cut tl_colon sk_colon hA with ⟨_, e⟩ | ⟨a, b, ha, hb, _, e2, e⟩
  · rw [e]
    show (match due w, due "" with | some a, some b => some (a, b) | _, _ => none) = (none : Option Cn)
    rw [due_nil]
    cases due w <;> rfl
  · rw [e2] at h
    exact absurd (List.mem_append_right _ List.mem_cons_self) h
theorem dueC_at {a b : Str} (h : 58 ∉ TL.tl a) : dueC (a ++ (":" : Str) ++ b) = match due a, due b with | some a, some b => some (a, b) | _, _ => none := by
  unfold dueC
  have e := TL.partition_app (y := (":" : Str)) (a := a) (b := b) tl_colon h
  rw [e]
  try rfl
theorem dueC_l {a b : Str} (h : 58 ∉ TL.tl a) (ha : due a = none) : dueC (a ++ (":" : Str) ++ b) = none := by
  rw [dueC_at h, ha]
theorem dueC_r {a b : Str} (h : 58 ∉ TL.tl a) (hb : due b = none) : dueC (a ++ (":" : Str) ++ b) = none := by
  rw [dueC_at h, hb]
  cases due a <;> rfl
theorem shT_no {q : Rat} : 58 ∉ TL.tl (shT q) := fun h => by have := shT_sg q _ h; omega
theorem dueC_wC {x : Cn} (h : TfC x) : dueC (wC x) = some x := by
  unfold wC
  rw [dueC_at shT_no, due_shT h.1, due_shT h.2]
theorem dueC_bad {w : Str} (hA : As w) {c : Nat} (h : c ∈ TL.tl w) (hc : ¬ (47 ≤ c ∧ c ≤ 58)) : dueC w = none := by
  rcases part_cut tl_colon sk_colon hA with ⟨k, e⟩ | ⟨a, b, ha, hb, k, e2, e⟩
  · exact dueC_none hA k
  · unfold dueC
    rw [e]
    rw [e2] at h
    show (match due a, due b with | some a, some b => some (a, b) | _, _ => none) = (none : Option Cn)
    rcases List.mem_append.mp h with h | h
    · rw [due_bad ha h (by omega)]
    · rcases List.mem_cons.mp h with h | h
      · omega
      · rw [due_bad hb h (by omega)]
        cases due a <;> rfl
/-! ### the last word -/
theorem sw_iff {w : Str} : Txt.startswith w "+" = true ↔ ∃ r, TL.tl w = 43 :: r := by
  unfold Txt.startswith
  have key := TL.at_iff (x := w) (y := "+") (by rw [tl_plus]; simp) 0
  rw [tl_plus, List.drop_zero] at key
  constructor
  · intro h
    rw [Bool.and_eq_true] at h
    have h1 := of_decide_eq_true h.1
    cases hw : TL.tl w with
    | nil =>
      rw [TL.len_tl w, hw, len1_plus] at h1
      simp at h1
    | cons c r =>
      have h2 := key.mp ⟨by simpa using h1, h.2⟩
      rw [hw] at h2
      have : c = 43 := by simpa [TL.pre] using h2
      exact ⟨r, by rw [this]⟩
  · rintro ⟨r, hw⟩
    have h2 := key.mpr (by rw [hw]; rfl)
    rw [decide_eq_true (show 0 + ("+" : Str).length ≤ w.length by rw [TL.len_tl w, hw, len1_plus]; simp), Bool.true_and]
    exact h2.2
theorem sw_not {w : Str} (h : ∀ r, TL.tl w ≠ 43 :: r) : Txt.startswith w "+" = false := by
  cases q : Txt.startswith w "+" with
  | false => rfl
  | true =>
    obtain ⟨r, e⟩ := sw_iff.mp q
    exact absurd e (h r)
theorem cut1 {w : Str} {c : Nat} {r : List Nat} (e : TL.tl w = c :: r) : TL.tl (L2.cutS w (some 1) none) = r := by
  show ((TL.tl w).drop (HT.sIx w.length 0 (some 1))).take (HT.sIx w.length w.length none - HT.sIx w.length 0 (some 1)) = r
  have hl : w.length = r.length + 1 := by rw [TL.len_tl w, e]; rfl
  have e1 : HT.sIx w.length 0 (some 1) = 1 := by
    rw [show (1 : Int) = ((1 : Nat) : Int) from rfl, HT.sIx_nat]
    omega
  rw [e1, HT.sIx_none, e, List.drop_one, List.tail_cons, List.take_of_length_le]
  omega
theorem cut_plus (z : Str) : L2.cutS (("+" : Str) ++ z) (some 1) none = z := TL.ext_tl (cut1 (c := 43) (by rw [TL.tl_append, tl_plus]; rfl))

end Q
namespace Q
open PySem MP FP
/-! ### texts that are refused -/
def Bad (t : Str) : Prop := ∀ n, runTP T (n + 9) "read_curve" [.str t] = .exc "NoText"
def Wd (x : Str) : Prop := As x ∧ 32 ∉ TL.tl x
theorem joinL_len2 (S : List Nat) (hS : S.length = 1) : ∀ ps : List (List Nat), ps.length ≤ (TL.joinL S ps).length + 1
  | [] => by simp
  | [p] => by simp
  | p :: q :: r => by
    have := joinL_len2 S hS (q :: r)
    show _ ≤ (p ++ (S ++ TL.joinL S (q :: r))).length + 1
    simp only [List.length_append, List.length_cons] at *
    omega
theorem joinL_part (S : List Nat) : ∀ (ps : List (List Nat)) (p : List Nat), p ∈ ps → p.length ≤ (TL.joinL S ps).length ∧ ∀ c ∈ p, c ∈ TL.joinL S ps
  | [], p, h => absurd h List.not_mem_nil
  | [q], p, h => by
    rw [List.mem_singleton.mp h]
    exact ⟨Nat.le_refl _, fun c hc => hc⟩
  | q :: q2 :: r, p, h => by
    show p.length ≤ (q ++ (S ++ TL.joinL S (q2 :: r))).length ∧ ∀ c ∈ p, c ∈ q ++ (S ++ TL.joinL S (q2 :: r))
    rcases List.mem_cons.mp h with h | h
    · rw [h]
      exact ⟨by simp, fun c hc => List.mem_append_left _ hc⟩
    · obtain ⟨i1, i2⟩ := joinL_part S (q2 :: r) p h
      refine ⟨?_, fun c hc => List.mem_append_right _ (List.mem_append_right _ (i2 c hc))⟩
      simp only [List.length_append]
      omega
theorem sum_le {l : List Nat} {k : Nat} (h : ∀ x ∈ l, x ≤ k) : l.sum ≤ k * l.length := by
  induction l with
  | nil => simp
  | cons x l ih =>
    have := ih (fun y hy => h y (List.mem_cons_of_mem _ hy))
    have := h x List.mem_cons_self
    rw [List.sum_cons, List.length_cons, Nat.mul_succ]
    omega
theorem join_len {ws : List Str} (h : ∀ x ∈ ws, Wd x) (hl : ws.length ≤ 100) : (Txt.join " " ws).length ≤ 900000 := by
  rw [TL.join_eq, TL.len_tl, TL.tl_join]
  have h1 := joinL_len (TL.tl (" " : Str)) 0 (by rw [tl_blank]; simp) (ws.map TL.tl)
  have h2 := sum_le (l := (ws.map TL.tl).map (·.length)) (k := 5000) (fun x hx => by
    rw [List.map_map] at hx
    obtain ⟨w, hw, rfl⟩ := List.mem_map.mp hx
    have := (h w hw).1.2
    rw [TL.len_tl] at this
    exact this)
  rw [List.length_map, List.length_map] at h2
  rw [List.length_map] at h1
  omega
theorem bad_last {pre : List Str} {w : Str} (hA : ∀ x ∈ pre ++ [w], Wd x) (hl : pre.length ≤ 90)
    (h : Txt.startswith w "+" = false ∨ (∃ x ∈ pre, dueC x = none) ∨ due (L2.cutS w (some 1) none) = none ∨ ∃ (cs : List Cn) (s : Rat), pre.map dueC = cs.map some ∧ due (L2.cutS w (some 1) none) = some s ∧ ∀ n, runTP T (n + 8) "curve" [.lst (cs.map dC), dR s] = .exc "NoCurve") : Bad (Txt.join " " (pre ++ [w])) := fun n => by
  have hs : Txt.split (Txt.join " " (pre ++ [w])) " " = pre ++ [w] := TL.split_join tl_blank (by decide +kernel) (by simp) (fun z hz => (hA z hz).2)
  refine rc_bad n hs (fun x hx => (hA x (List.mem_append_left _ hx)).1) (hA w (by simp)).1 (by omega) (join_len hA (by simp; omega)) ?_
  rcases h with h | h | h | ⟨cs, s, h1, h2, h3⟩
  · exact .inl h
  · exact .inr (.inl h)
  · exact .inr (.inr (.inl h))
  · exact .inr (.inr (.inr ⟨cs, s, h1, h2, h3 n⟩))
theorem bad_mid {A B : List Str} {x : Str} (hB : B ≠ []) (hA : ∀ y ∈ A ++ [x] ++ B, Wd y) (hl : (A ++ [x] ++ B).length ≤ 90) (hx : dueC x = none) : Bad (Txt.join " " (A ++ [x] ++ B)) := by
  obtain ⟨B', w, rfl⟩ : ∃ B' w, B = B' ++ [w] := ⟨B.dropLast, B.getLast hB, (List.dropLast_concat_getLast hB).symm⟩
  have e : A ++ [x] ++ (B' ++ [w]) = (A ++ [x] ++ B') ++ [w] := by simp
  rw [e] at hA hl ⊢
  exact bad_last hA (by simp at hl ⊢; omega) (.inr (.inl ⟨x, by simp, hx⟩))
/-- a sign that no curve has -/
theorem bad_sign {t : Str} (h1 : ∀ c ∈ TL.tl t, c < 128) (h2 : t.length ≤ 5000) {c : Nat} (hc : c ∈ TL.tl t) (hn : c ≠ 32 ∧ c ≠ 43 ∧ ¬ (47 ≤ c ∧ c ≤ 58)) : Bad t := fun n => by
  have hj := StrLaws.join_split t " "
  have ej : TL.tl t = TL.joinL [32] ((Txt.split t " ").map TL.tl) := by
    rw [← tl_blank, ← TL.tl_join]
    first
      | exact congrArg TL.tl hj.symm
      | (rw [← TL.join_eq]; exact congrArg TL.tl hj.symm)
  have part : ∀ w ∈ Txt.split t " ", As w := fun w hw => by
    obtain ⟨k1, k2⟩ := joinL_part [32] _ (TL.tl w) (List.mem_map.mpr ⟨w, hw, rfl⟩)
    rw [← ej] at k1 k2
    refine ⟨fun c hc => h1 c (k2 c hc), ?_⟩
    rw [TL.len_tl t] at h2
    rw [TL.len_tl]
    omega
  obtain ⟨w0, hw0, hcw⟩ : ∃ w ∈ Txt.split t " ", c ∈ TL.tl w := by
    rw [ej] at hc
    rcases joinL_mem _ _ c hc with h | ⟨p, hp, h⟩
    · exact absurd (List.mem_singleton.mp h) hn.1
    · obtain ⟨w, hw, rfl⟩ := List.mem_map.mp hp
      exact ⟨w, hw, h⟩
  have hne : Txt.split t " " ≠ [] := fun e => by
    rw [e] at hw0
    exact absurd hw0 List.not_mem_nil
  have hlen := joinL_len2 [32] rfl ((Txt.split t " ").map TL.tl)
  rw [← ej, List.length_map, ← TL.len_tl] at hlen
  obtain ⟨pre, w, e⟩ : ∃ pre w, Txt.split t " " = pre ++ [w] := ⟨_, _, (List.dropLast_concat_getLast hne).symm⟩
  rw [e] at part hw0 hlen
  have hpl : pre.length ≤ 5001 := by simp at hlen; omega
  refine rc_bad n e (fun x hx => part x (List.mem_append_left _ hx)) (part w (by simp)) hpl (by omega) ?_
  rcases List.mem_append.mp hw0 with h | h
  · exact .inr (.inl ⟨w0, h, dueC_bad (part w0 (List.mem_append_left _ h)) hcw (by omega)⟩)
  · rw [List.mem_singleton.mp h] at hcw
    cases hs : Txt.startswith w "+" with
    | false => exact .inl rfl
    | true =>
      obtain ⟨r, hr⟩ := sw_iff.mp hs
      have hcu := cut1 hr
      have hwA := part w (by simp)
      rw [hr] at hcw
      have hcr : c ∈ r := (List.mem_cons.mp hcw).resolve_left hn.2.1
      refine .inr (.inr (.inl (due_bad (c := c) ⟨fun d hd => ?_, ?_⟩ (by rw [hcu]; exact hcr) (by omega))))
      · rw [hcu] at hd
        exact hwA.1 d (by rw [hr]; exact List.mem_cons_of_mem _ hd)
      · have := hwA.2
        rw [TL.len_tl, hr] at this
        rw [TL.len_tl, hcu]
        simp at this
        omega
/-! ### the words of a curve -/
theorem wC_wd {x : Cn} (h : TfC x) : Wd (wC x) := ⟨⟨fun c hc => by have := wC_sg x c hc; omega, by have := wC_len h; omega⟩, fun hc => by have := wC_sg x _ hc; omega⟩
theorem wS_wd {s : Rat} (h : Tf s) : Wd (wS s) := ⟨⟨fun c hc => by have := wS_sg s c hc; omega, by have := wS_len h; omega⟩, fun hc => by have := wS_sg s _ hc; omega⟩
theorem shT_wd {q : Rat} (h : Tf q) : Wd (shT q) := ⟨shT_as h, fun hc => by have := shT_sg q _ hc; omega⟩
theorem nil_wd : Wd "" := ⟨As.nil, by rw [tl_empty]; exact List.not_mem_nil⟩
theorem Wd.app {a b : Str} (ha : Wd a) (hb : Wd b) (hl : a.length + b.length ≤ 5000) : Wd (a ++ b) := ⟨⟨fun c hc => by
  rw [TL.tl_append] at hc
  exact (List.mem_append.mp hc).elim (ha.1.1 c) (hb.1.1 c), by rw [str_len_append]; exact hl⟩, fun hc => by
  rw [TL.tl_append] at hc
  exact (List.mem_append.mp hc).elim ha.2 hb.2⟩
theorem colon_wd : Wd ":" := ⟨⟨fun c hc => by rw [tl_colon] at hc; rw [List.mem_singleton.mp hc]; decide, by decide +kernel⟩, by rw [tl_colon]; decide⟩
theorem plus_wd : Wd "+" := ⟨⟨fun c hc => by rw [tl_plus] at hc; rw [List.mem_singleton.mp hc]; decide, by decide +kernel⟩, by rw [tl_plus]; decide⟩
/-- a text that writes no ratio -/
structure Od (o : Str) : Prop where
  wd : Wd o
  no : due o = none
  nc : 58 ∉ TL.tl o
  ln : o.length ≤ 70
def wsD (cs : List Cn) (s : Rat) (P : Str → Prop) : Prop := (∀ x ∈ cs, P (wC x)) ∧ P (wS s)
theorem ws_wd {cs : List Cn} {s : Rat} (h : ∀ x ∈ cs, TfC x) (hs : Tf s) : ∀ w ∈ wsC cs s, Wd w := fun w hw => by
  unfold wsC at hw
  rcases List.mem_append.mp hw with hw | hw
  · obtain ⟨x, hx, rfl⟩ := List.mem_map.mp hw
    exact wC_wd (h x hx)
  · rw [List.mem_singleton.mp hw]
    exact wS_wd hs
theorem wS_sw (s : Rat) : ∃ r, TL.tl (wS s) = 43 :: r := ⟨TL.tl (shT s), by unfold wS; rw [TL.tl_append, tl_plus]; rfl⟩
/-- a blank more -/
theorem bad0 {A B : List Str} (hA : ∀ y ∈ A ++ B, Wd y) (hl : (A ++ B).length ≤ 80) : Bad (Txt.join " " (A ++ [("" : Str)] ++ B)) := by
  have hA' : ∀ y ∈ A ++ [("" : Str)] ++ B, Wd y := fun y hy => by
    simp only [List.mem_append, List.mem_singleton] at hy
    rcases hy with (hy | hy) | hy
    · exact hA y (List.mem_append_left _ hy)
    · rw [hy]; exact nil_wd
    · exact hA y (List.mem_append_right _ hy)
  by_cases hB : B = []
  · subst hB
    rw [List.append_nil] at hA' ⊢
    exact bad_last hA' (by simp at hl; omega) (.inl (sw_not (fun r e => by rw [tl_empty] at e; cases e)))
  · exact bad_mid hB hA' (by simp at hl ⊢; omega) (dueC_none As.nil (by rw [tl_empty]; exact List.not_mem_nil))
/-- the plus sign away -/
theorem bad1 {cs : List Cn} {s : Rat} (h : ∀ x ∈ cs, TfC x) (hs : Tf s) (hl : cs.length ≤ 80) : Bad (Txt.join " " (cs.map wC ++ [shT s])) := by
  refine bad_last (fun y hy => ?_) (by simp; omega) (.inl (sw_not (fun r e => ?_)))
  · rcases List.mem_append.mp hy with hy | hy
    · obtain ⟨x, hx, rfl⟩ := List.mem_map.mp hy
      exact wC_wd (h x hx)
    · rw [List.mem_singleton.mp hy]
      exact shT_wd hs
  · have := shT_sg s 43 (by rw [e]; exact List.mem_cons_self)
    omega
/-- another last word -/
theorem bad9 {cs : List Cn} {o : Str} (h : ∀ x ∈ cs, TfC x) (hl : cs.length ≤ 80) (ho : Od o) : Bad (Txt.join " " (cs.map wC ++ [("+" : Str) ++ o])) := by
  refine bad_last (fun y hy => ?_) (by simp; omega) (.inr (.inr (.inl (by rw [cut_plus]; exact ho.no))))
  rcases List.mem_append.mp hy with hy | hy
  · obtain ⟨x, hx, rfl⟩ := List.mem_map.mp hy
    exact wC_wd (h x hx)
  · rw [List.mem_singleton.mp hy]
    exact plus_wd.app ho.wd (by rw [len1_plus]; have := ho.ln; omega)

end Q
namespace Q
open PySem MP FP
theorem cutT {α : Type} (xs : List α) (k : Nat) : cut xs none (some (k : Int)) = xs.take k := by
  unfold cut
  rw [HT.sIx_none, HT.sIx_nat, List.drop_zero, Nat.sub_zero]
  rcases Nat.le_total k xs.length with h | h
  · rw [Nat.min_eq_left h]
  · rw [Nat.min_eq_right h, List.take_of_length_le (Nat.le_refl _), List.take_of_length_le h]
theorem cutD {α : Type} (xs : List α) (k : Nat) : cut xs (some (k : Int)) none = xs.drop k := by
  unfold cut
  rw [HT.sIx_none, HT.sIx_nat, List.take_of_length_le]
  · rcases Nat.le_total k xs.length with h | h
    · rw [Nat.min_eq_left h]
    · rw [Nat.min_eq_right h, List.drop_of_length_le (Nat.le_refl _), List.drop_of_length_le h]
  · rw [List.length_drop]
    exact Nat.le_refl _
theorem cutM {α β : Type} (f : α → β) (xs : List α) (lo hi : Option Int) : cut (xs.map f) lo hi = (cut xs lo hi).map f := by
  unfold cut
  rw [List.length_map, List.map_take, List.map_drop]
theorem bp_lst {a b : List Dv} (h : a.length + b.length ≤ 1000) : binP .add (.lst a) (.lst b) = .ok (.own (a ++ b)) := if_pos (by unfold LIM; omega)
theorem jn_ok {ws : List Str} (h : ∀ x ∈ ws, Wd x) (hl : ws.length ≤ 90) : tmP .join (.str " ") [.lst (ws.map Dv.str)] = .ok (.str (Txt.join " " ws)) := by
  rw [tm_joinL, if_pos]
  have h2 := sum_le (l := ws.map (·.length)) (k := 5000) (fun x hx => by
    obtain ⟨w, hw, rfl⟩ := List.mem_map.mp hx
    exact (h w hw).1.2)
  rw [List.length_map] at h2
  rw [len1_blank]
  unfold LIM
  omega
theorem sp3 {A B : List Str} {x : Str} (h : ∀ y ∈ A ++ [x] ++ B, Wd y) (hl : (A ++ [x] ++ B).length ≤ 90) : binP .add (.lst (A.map Dv.str)) (.lst [.str x]) = .ok (.own (A.map Dv.str ++ [.str x])) ∧ binP .add (.lst (A.map Dv.str ++ [.str x])) (.lst (B.map Dv.str)) = .ok (.own (A.map Dv.str ++ [.str x] ++ B.map Dv.str)) ∧ tmP .join (.str " ") [.lst (A.map Dv.str ++ [.str x] ++ B.map Dv.str)] = .ok (.str (Txt.join " " (A ++ [x] ++ B))) := by
  simp only [List.length_append, List.length_cons, List.length_nil] at hl
  refine ⟨bp_lst (by simp; omega), bp_lst (by simp; omega), ?_⟩
  have := jn_ok h (by simp; omega)
  rw [List.map_append, List.map_append] at this
  exact this
theorem sp2 {A : List Str} {x : Str} (h : ∀ y ∈ A ++ [x], Wd y) (hl : (A ++ [x]).length ≤ 90) : binP .add (.lst (A.map Dv.str)) (.lst [.str x]) = .ok (.own (A.map Dv.str ++ [.str x])) ∧ tmP .join (.str " ") [.lst (A.map Dv.str ++ [.str x])] = .ok (.str (Txt.join " " (A ++ [x]))) := by
  simp only [List.length_append, List.length_cons, List.length_nil] at hl
  refine ⟨bp_lst (by simp; omega), ?_⟩
  have := jn_ok h (by simp; omega)
  rw [List.map_append] at this
  exact this
/-! ### the odd texts -/
def odds : List Str := ["2/4", "6/3", "5/1", "0/2", "00", "07", "3/06", "3/0", "", "/2", "3/", nT (10 ^ 60), "+3", "+0"]
theorem odds_od : ∀ o ∈ odds, Od o := by
  have one : ∀ o : Str, (∀ c ∈ TL.tl o, c < 128) → o.length ≤ 70 → 32 ∉ TL.tl o → due o = none → 58 ∉ TL.tl o → Od o := fun o h1 h2 h3 h4 h5 => ⟨⟨⟨h1, by omega⟩, h3⟩, h4, h5, h2⟩
  intro o ho
  unfold odds at ho
  simp only [List.mem_cons, List.not_mem_nil, or_false] at ho
  rcases ho with rfl | rfl | rfl | rfl | rfl | rfl | rfl | rfl | rfl | rfl | rfl | rfl | rfl | rfl
  all_goals exact one _ (by decide +kernel) (by decide +kernel) (by decide +kernel) (by decide +kernel) (by decide +kernel)

end Q
namespace Q
open PySem MP FP
theorem s60 : biP .str [.int 1000000000000000000000000000000000000000000000000000000000000] = .ok (.str (nT (10 ^ 60))) := by
  show (if (1000000000000000000000000000000000000000000000000000000000000 : Int).natAbs.log2 < 1920 then Rv.ok (Dv.str (Str.ofString (toString (1000000000000000000000000000000000000000000000000000000000000 : Int)))) else .bad) = _
  rw [if_pos (by decide +kernel)]
  rfl
theorem od_at (sign : Int) : ∃ o, L2.atI (odds.map Dv.str) (sign % 14) = some (.str o) ∧ Od o := by
  obtain ⟨k, hk⟩ : ∃ k : Nat, sign % 14 = (k : Int) := ⟨(sign % 14).toNat, by omega⟩
  have hlt : k < odds.length := by
    show k < 14
    omega
  refine ⟨odds[k], ?_, odds_od _ (List.getElem_mem hlt)⟩
  rw [hk, at_nat (by rw [List.length_map]; exact hlt), List.getElem?_map, List.getElem?_eq_getElem hlt]
  rfl
/-- the first five statements -/
theorem ts_pre (n : Nat) {ws A B : List Str} {w : Str} (hw : ∀ x ∈ ws, Wd x) (hl : ws.length ≤ 80) (he : ws = A ++ w :: B) (way place sign : Int) (hp : place % (ws.length : Int) = (A.length : Int)) : ∃ o, Od o ∧
    runP (runTP T n) (takeS 5 F__law_text_spoiled.body) [some (.lst (ws.map Dv.str)), some (.int way), some (.int place), some (.int sign), none, none, none, none, none] = .nx [some (.lst (ws.map Dv.str)), some (.int way), some (.int place), some (.int sign), some (.str (Txt.join " " ws)), some (.int A.length), some (.str w), some (.str o), none] := by
  obtain ⟨o, ho, hod⟩ := od_at sign
  refine ⟨o, hod, ?_⟩
  have j := jn_ok hw (by omega)
  have hN : 0 < ws.length := by rw [he, List.length_append, List.length_cons]; omega
  have f1 : place.fmod (ws.length : Int) = (A.length : Int) := by rw [fmp _ (by omega), hp]
  have hne : ¬ ((ws.length : Int) = 0) := by omega
  have ia : L2.atI (ws.map Dv.str) (A.length : Int) = some (.str w) := by
    rw [at_nat (by rw [List.length_map, he]; simp), List.getElem?_map, he, List.getElem?_append_right (Nat.le_refl _), Nat.sub_self]
    rfl
  have ho' : L2.atI [Dv.str "2/4", .str "6/3", .str "5/1", .str "0/2", .str "00", .str "07", .str "3/06", .str "3/0", .str "", .str "/2", .str "3/", .str (nT (10 ^ 60)), .str "+3", .str "+0"] (sign % 14) = some (.str o) := ho
  have b3 : binP .add (.lst [Dv.str "2/4", .str "6/3", .str "5/1", .str "0/2", .str "00", .str "07", .str "3/06", .str "3/0", .str "", .str "/2", .str "3/"]) (.lst [.str (nT (10 ^ 60)), .str "+3", .str "+0"]) = .ok (.own ([Dv.str "2/4", .str "6/3", .str "5/1", .str "0/2", .str "00", .str "07", .str "3/06", .str "3/0", .str "", .str "/2", .str "3/"] ++ [.str (nT (10 ^ 60)), .str "+3", .str "+0"])) := bp_lst (by decide)
  have any1 : (ws.map Dv.str).any (lsF 12) = false := any_f (fun _ => rfl) _
  have hWl : (ws.map Dv.str).length = ws.length := List.length_map ..
  generalize ws.map Dv.str = W at *
  unfold F__law_text_spoiled
  simp only [MC_, takeS_s, takeS, j, hWl, f1, hne, ia, pp_60, s60, b3, ho', fmp]

def Bd (X : Dv) : Prop := (∃ z, X = .str z ∧ Bad z) ∨ X = .non ∨ X = .int 7 ∨ X = .bl true ∨ (∃ l, X = .lst l) ∨ ∃ l, l.any (lsF 11) = false ∧ X = .tup l
theorem nT_wd {k : Nat} (h : k < 10 ^ 60) : Wd (nT k) := ⟨⟨fun c hc => by rw [tl_nT] at hc; have := TL.numL_digits k c hc; omega, by have := nT_len h; omega⟩, fun hc => by rw [tl_nT] at hc; have := TL.numL_digits k _ hc; omega⟩
theorem mem_mid {α : Type} {A B : List α} {x w : α} {P : α → Prop} (h : ∀ y ∈ A ++ w :: B, P y) (hx : P x) : ∀ y ∈ A ++ [x] ++ B, P y := fun y hy => by
  simp only [List.mem_append, List.mem_singleton] at hy
  rcases hy with (hy | hy) | hy
  · exact h y (List.mem_append_left _ hy)
  · rw [hy]; exact hx
  · exact h y (List.mem_append_right _ (List.mem_cons_of_mem _ hy))
theorem mem_in {α : Type} {A B : List α} {x w : α} {P : α → Prop} (h : ∀ y ∈ A ++ w :: B, P y) (hx : P x) : ∀ y ∈ A ++ [x] ++ (w :: B), P y := fun y hy => by
  simp only [List.mem_append, List.mem_singleton] at hy
  rcases hy with (hy | hy) | hy
  · exact h y (List.mem_append_left _ hy)
  · rw [hy]; exact hx
  · exact h y (List.mem_append_right _ hy)
theorem some_sg : ∀ c ∈ TL.tl ("!\"#$&'()*,-.;<=>?@ABCDEFGHIJKLMNOPQRSTUVWXYZ[\\]^_`abcdefghijklmnopqrstuvwxyz{|}~\n\t" : Str), c < 128 ∧ c ≠ 32 ∧ c ≠ 43 ∧ ¬ (47 ≤ c ∧ c ≤ 58) := by decide +kernel
theorem some_len : ("!\"#$&'()*,-.;<=>?@ABCDEFGHIJKLMNOPQRSTUVWXYZ[\\]^_`abcdefghijklmnopqrstuvwxyz{|}~\n\t" : Str).length = 82 := by decide +kernel
theorem repl_no {z : Str} (h : 58 ∉ TL.tl z) : TL.tl (Txt.replace z ":" "") = TL.tl z := by
  have e : Txt.replace z ":" "" = Str.join "" (Txt.split z ":") := StrLaws.replace_one z "" 58
  have ne : TL.tl (":" : Str) ≠ [] := by rw [tl_colon]; simp
  have sp := TL.split_spl z ":" ne (TL.kind_ok (by decide +kernel))
  rw [e, TL.tl_join, sp, tl_colon, TL.spl_last1 h]
  rfl
theorem repl_at {a b : Str} (ha : 58 ∉ TL.tl a) (hb : 58 ∉ TL.tl b) : TL.tl (Txt.replace (a ++ (":" : Str) ++ b) ":" "") = TL.tl a ++ TL.tl b := by
  have e : Txt.replace (a ++ (":" : Str) ++ b) ":" "" = Str.join "" (Txt.split (a ++ (":" : Str) ++ b) ":") := StrLaws.replace_one _ "" 58
  have ne : TL.tl (":" : Str) ≠ [] := by rw [tl_colon]; simp
  have sp := TL.split_spl (a ++ (":" : Str) ++ b) ":" ne (TL.kind_ok (by decide +kernel))
  have e3 : TL.tl (a ++ (":" : Str) ++ b) = TL.tl a ++ ([58] ++ TL.tl b) := by
    rw [TL.tl_append, TL.tl_append, tl_colon, List.append_assoc]
  rw [e, TL.tl_join, sp, tl_colon, e3, TL.spl_part1 (S := []) ha, TL.spl_last1 hb, tl_empty]
  simp [TL.joinL]
theorem tl_3 : TL.tl ("3" : Str) = [51] := by decide +kernel
/-- a word without its parting sign -/
theorem repl_wd {w : Str} (h : (∃ x, TfC x ∧ w = wC x) ∨ ∃ s, Tf s ∧ w = wS s) : Wd ("3" ++ Txt.replace w ":" "") ∧ 58 ∉ TL.tl ("3" ++ Txt.replace w ":" "") ∧ (Txt.replace w ":" "").length ≤ 250 := by
  have all : ∀ l : List Nat, TL.tl (Txt.replace w ":" "") = l → (∀ c ∈ l, 43 ≤ c ∧ c ≤ 57) → l.length ≤ 250 → Wd ("3" ++ Txt.replace w ":" "") ∧ 58 ∉ TL.tl ("3" ++ Txt.replace w ":" "") ∧ (Txt.replace w ":" "").length ≤ 250 := fun l e hc hl => by
    have e2 : TL.tl ("3" ++ Txt.replace w ":" "") = 51 :: l := by rw [TL.tl_append, tl_3, e]; rfl
    have m : ∀ c ∈ TL.tl ("3" ++ Txt.replace w ":" ""), 43 ≤ c ∧ c ≤ 57 := fun c h => by
      rw [e2] at h
      rcases List.mem_cons.mp h with h | h
      · omega
      · exact hc c h
    refine ⟨⟨⟨fun c h => by have := m c h; omega, ?_⟩, fun h => by have := m _ h; omega⟩, fun h => by have := m _ h; omega, ?_⟩
    · rw [TL.len_tl, e2, List.length_cons]
      omega
    · rw [TL.len_tl, e]
      exact hl
  rcases h with ⟨x, hx, rfl⟩ | ⟨s, hs, rfl⟩
  · refine all _ (repl_at shT_no shT_no) (fun c h => ?_) ?_
    · rcases List.mem_append.mp h with h | h
      · have := shT_sg _ c h; omega
      · have := shT_sg _ c h; omega
    · have h1 := shT_len hx.1
      have h2 := shT_len hx.2
      rw [TL.len_tl] at h1 h2
      rw [List.length_append]
      omega
  · have no : 58 ∉ TL.tl (wS s) := fun h => by
      unfold wS at h
      rw [TL.tl_append, tl_plus] at h
      rcases List.mem_append.mp h with h | h
      · exact absurd (List.mem_singleton.mp h) (by decide)
      · exact shT_no h
    refine all _ (repl_no no) (fun c h => ?_) ?_
    · unfold wS at h
      rw [TL.tl_append, tl_plus] at h
      rcases List.mem_append.mp h with h | h
      · have := List.mem_singleton.mp h; omega
      · have := shT_sg _ c h; omega
    · have := wS_len hs
      rw [TL.len_tl] at this
      omega

end Q
namespace Q
open PySem MP FP
theorem cv_nil (n : Nat) (s : Rat) (hs : Tf s) : runTP T (n + 8) "curve" [.lst [], dR s] = .exc "NoCurve" := by
  rw [runTP_succ T_curve]
  have z0 : (((0 : Nat) : Int) = 0) = True := by simp
  unfold F_curve
  simp only [MC_, List.length_nil, z0]
/-- what stands ahead of a spoiling -/
structure SpW (ws A B : List Str) (w : Str) (c : Cn) (r : List Cn) (s : Rat) : Prop where
  e : ws = A ++ w :: B
  ew : ws = (c :: r).map wC ++ [wS s]
  tf : ∀ x ∈ c :: r, TfC x
  sf : Tf s
  hl : r.length ≤ 5
  wd : ∀ x ∈ ws, Wd x
  ln : ws.length ≤ 12
  la : B = [] → A = (c :: r).map wC ∧ w = wS s
  lb : B ≠ [] → ∃ x, TfC x ∧ w = wC x
theorem SpW.mk' {c : Cn} {r : List Cn} {s : Rat} (h : ∀ x ∈ c :: r, TfC x) (hs : Tf s) (hl : r.length ≤ 5) (k : Nat) (hk : k < (wsC (c :: r) s).length) : ∃ A B w, SpW (wsC (c :: r) s) A B w c r s ∧ A.length = k := by
  have hlen := wsC_len (c :: r) s
  rw [hlen] at hk
  refine ⟨(wsC (c :: r) s).take k, (wsC (c :: r) s).drop (k + 1), (wsC (c :: r) s)[k], ⟨?_, rfl, h, hs, hl, ws_wd h hs, by rw [hlen]; simp; omega, fun hB => ?_, fun hB => ?_⟩, by rw [List.length_take, hlen]; omega⟩
  · rw [List.getElem_cons_drop, List.take_append_drop]
  · have hk2 : k = (c :: r).length := by
      have := congrArg List.length hB
      rw [List.length_drop, hlen] at this
      simp at this
      simp at hk
      simp
      omega
    subst hk2
    unfold wsC
    exact ⟨by simp, by simp⟩
  · have hk2 : k < (c :: r).length := by
      refine Nat.lt_of_not_le fun hge => hB ?_
      rw [List.drop_eq_nil_iff, hlen]
      omega
    refine ⟨(c :: r)[k], h _ (List.getElem_mem hk2), ?_⟩
    unfold wsC
    rw [List.getElem_append_left (by rw [List.length_map]; exact hk2), List.getElem_map]

end Q
namespace Q
open PySem MP FP
section
variable {ws A B : List Str} {w : Str} {c : Cn} {r : List Cn} {s : Rat}
theorem SpW.facts (S : SpW ws A B w c r s) : cut (ws.map Dv.str) none (some (A.length : Int)) = A.map Dv.str ∧ cut (ws.map Dv.str) (some (A.length : Int)) none = (w :: B).map Dv.str ∧ cut (ws.map Dv.str) (some ((A.length : Int) + 1)) none = B.map Dv.str ∧ cut (ws.map Dv.str) none (some (-1)) = ((c :: r).map wC).map Dv.str ∧ L2.atI (ws.map Dv.str) (-1) = some (.str (wS s)) := by
  refine ⟨?_, ?_, ?_, ?_, ?_⟩
  · rw [cutM, cutT, S.e, List.take_left]
  · rw [cutM, cutD, S.e, List.drop_left]
  · rw [cutM, show ((A.length : Int) + 1) = ((A.length + 1 : Nat) : Int) by omega, cutD, S.e, show A.length + 1 = A.length + 1 from rfl, ← List.drop_drop, List.drop_left]
    rfl
  · rw [cutM, tcut_dropLast, S.ew, List.dropLast_concat]
  · rw [S.ew, List.map_append]
    exact at_m1
theorem SpW.la90 (S : SpW ws A B w c r s) : A.length + B.length + 1 ≤ 12 := by
  have := S.ln
  rw [S.e] at this
  simp at this
  omega
theorem SpW.wa (S : SpW ws A B w c r s) : ∀ y ∈ A ++ w :: B, Wd y := fun y hy => S.wd y (by rw [S.e]; exact hy)
theorem SpW.ww (S : SpW ws A B w c r s) : (∃ x, TfC x ∧ w = wC x) ∨ ∃ s, Tf s ∧ w = wS s := by
  by_cases hB : B = []
  · exact .inr ⟨s, S.sf, (S.la hB).2⟩
  · exact .inl (S.lb hB)
theorem SpW.wl (S : SpW ws A B w c r s) : w.length ≤ 243 := by
  rcases S.ww with ⟨x, hx, rfl⟩ | ⟨s, hs, rfl⟩
  · exact wC_len hx
  · have := wS_len hs; omega
/-- a word put in ahead of another -/
theorem SpW.ins (S : SpW ws A B w c r s) {x : Str} (hx : Wd x) (hn : dueC x = none) : Bad (Txt.join " " (A ++ [x] ++ (w :: B))) := by
  have := S.la90
  exact bad_mid (by simp) (mem_in S.wa hx) (by simp; omega) hn
/-- a word put in place of another -/
theorem SpW.rep (S : SpW ws A B w c r s) {x : Str} (hB : B ≠ []) (hx : Wd x) (hn : dueC x = none) : Bad (Txt.join " " (A ++ [x] ++ B)) := by
  have := S.la90
  exact bad_mid hB (mem_mid S.wa hx) (by simp; omega) hn
theorem SpW.lst (S : SpW ws A B w c r s) {o : Str} (ho : Wd o) (hl : o.length ≤ 400) (hn : due o = none) : Bad (Txt.join " " ((c :: r).map wC ++ [("+" : Str) ++ o])) := by
  refine bad_last (fun y hy => ?_) (by have := S.hl; simp; omega) (.inr (.inr (.inl (by rw [cut_plus]; exact hn))))
  rcases List.mem_append.mp hy with hy | hy
  · obtain ⟨x, hx, rfl⟩ := List.mem_map.mp hy
    exact wC_wd (S.tf x hx)
  · rw [List.mem_singleton.mp hy]
    exact plus_wd.app ho (by rw [len1_plus]; omega)
end
theorem tl_len_app {a b : Str} {x y : Nat} (ha : a.length ≤ x) (hb : b.length ≤ y) (h : x + y ≤ 1000000) : binP .add (.str a) (.str b) = .ok (.str (a ++ b)) := bp_adds' (by omega)
theorem len1_3 : ("3" : Str).length = 1 := by decide +kernel
theorem r_ts (n : Nat) {ws A B : List Str} {w : Str} {c : Cn} {r : List Cn} {s : Rat} (S : SpW ws A B w c r s) (way place sign : Int) (hw : 0 ≤ way ∧ way < 12 ∧ ¬ (3 ≤ way ∧ way < 6)) (hp : place % (ws.length : Int) = (A.length : Int)) : ∃ X, runTP T (n + 1) "_law_text_spoiled" [.lst (ws.map Dv.str), .int way, .int place, .int sign] = .ok X ∧ Bd X := by
  rw [runTP_succ T__law_text_spoiled, runFP_cut 5 rfl]
  obtain ⟨o, hod, hpre⟩ := ts_pre n S.wd (by have := S.ln; omega) S.e way place sign hp
  show ∃ X, ofP ((runP (runTP T n) (takeS 5 F__law_text_spoiled.body) [some (.lst (ws.map Dv.str)), some (.int way), some (.int place), some (.int sign), none, none, none, none, none]).then fun σ => runP (runTP T n) (dropS 5 F__law_text_spoiled.body) σ) = .ok X ∧ Bd X
  rw [hpre, Op.then_nx]
  obtain ⟨c1, c2, c3, c4, iL⟩ := S.facts
  have l90 := S.la90
  have wl := S.wl
  have rl := S.hl
  have hWl : (ws.map Dv.str).length = ws.length := List.length_map ..
  have hN : 0 < ws.length := by rw [S.e, List.length_append, List.length_cons]; omega
  have hlm := S.ln
  have sA : (A.map Dv.str).length ≤ LIM := by rw [List.length_map]; unfold LIM; omega
  have sB : (B.map Dv.str).length ≤ LIM := by rw [List.length_map]; unfold LIM; omega
  have sC : ((w :: B).map Dv.str).length ≤ LIM := by rw [List.length_map]; unfold LIM; simp; omega
  have sP : (((c :: r).map wC).map Dv.str).length ≤ LIM := by rw [List.length_map, List.length_map]; unfold LIM; simp; omega
  have eW : ((wsC (c :: r) s) : List Str) = ws := by rw [S.ew]; rfl
  have ways : way = 0 ∨ way = 1 ∨ way = 2 ∨ way = 6 ∨ way = 7 ∨ way = 8 ∨ way = 9 ∨ way = 10 ∨ way = 11 := by omega
  have oL : Dv.str o = .str o := rfl
  rcases ways with rfl | rfl | rfl | rfl | rfl | rfl | rfl | rfl | rfl
  · -- a blank more
    obtain ⟨k, hk⟩ : ∃ k : Nat, place % ((ws.length : Int) + 1) = (k : Int) := ⟨(place % ((ws.length : Int) + 1)).toNat, (Int.toNat_of_nonneg (Int.emod_nonneg _ (by omega))).symm⟩
    have f1 : place.fmod ((ws.length : Int) + 1) = (k : Int) := by rw [fmp _ (by omega), hk]
    have hne : ¬ ((ws.length : Int) + 1 = 0) := by omega
    have d1 : cut (ws.map Dv.str) none (some (k : Int)) = (ws.take k).map Dv.str := by rw [cutM, cutT]
    have d2 : cut (ws.map Dv.str) (some (k : Int)) none = (ws.drop k).map Dv.str := by rw [cutM, cutD]
    have g1 : ((ws.take k).map Dv.str).length ≤ LIM := by rw [List.length_map, List.length_take]; unfold LIM; omega
    have g2 : ((ws.drop k).map Dv.str).length ≤ LIM := by rw [List.length_map, List.length_drop]; unfold LIM; omega
    have hall : ∀ y ∈ ws.take k ++ [("" : Str)] ++ ws.drop k, Wd y := fun y hy => by
      simp only [List.mem_append, List.mem_singleton] at hy
      rcases hy with (hy | hy) | hy
      · exact S.wd y (List.mem_of_mem_take hy)
      · rw [hy]; exact nil_wd
      · exact S.wd y (List.mem_of_mem_drop hy)
    obtain ⟨q1, q2, q3⟩ := sp3 hall (by simp; omega)
    refine ⟨.str (Txt.join " " (ws.take k ++ [("" : Str)] ++ ws.drop k)), ?_, .inl ⟨_, rfl, bad0 (fun y hy => S.wd y ((List.mem_append.mp hy).elim List.mem_of_mem_take List.mem_of_mem_drop)) (by simp; omega)⟩⟩
    generalize (ws.take k).map Dv.str = P at *
    generalize (ws.drop k).map Dv.str = Q at *
    generalize ws.map Dv.str = W at *
    unfold F__law_text_spoiled
    simp only [MC_, dropS_s, dropS, hWl, f1, hne, d1, d2, g1, g2, q1, q2, q3]
  · -- the plus sign away
    have hc := cutS_wS s
    have wl2 := wS_len S.sf
    have wlL : (wS s).length ≤ LIM := by unfold LIM; omega
    have hall : ∀ y ∈ (c :: r).map wC ++ [shT s], Wd y := fun y hy => by
      rcases List.mem_append.mp hy with hy | hy
      · obtain ⟨x, hx, rfl⟩ := List.mem_map.mp hy
        exact wC_wd (S.tf x hx)
      · rw [List.mem_singleton.mp hy]; exact shT_wd S.sf
    obtain ⟨q1, q3⟩ := sp2 hall (by simp; omega)
    refine ⟨.str (Txt.join " " ((c :: r).map wC ++ [shT s])), ?_, .inl ⟨_, rfl, bad1 S.tf S.sf (by simp; omega)⟩⟩
    generalize ((c :: r).map wC).map Dv.str = P at *
    generalize ws.map Dv.str = W at *
    unfold F__law_text_spoiled
    simp only [MC_, dropS_s, dropS, c4, iL, sP, wlL, hc, q1, q3]
  · -- no corner
    have hb : Bad (wS s) := by
      have e1 : Txt.join " " ([] ++ [wS s]) = wS s := by
        rw [TL.join_eq]
        refine TL.ext_tl ?_
        rw [TL.tl_join]
        rfl
      rw [← e1]
      refine bad_last (fun y hy => ?_) (by simp) (.inr (.inr (.inr ⟨[], s, rfl, ?_, fun n => cv_nil n s S.sf⟩)))
      · rw [List.nil_append] at hy
        rw [List.mem_singleton.mp hy]
        exact wS_wd S.sf
      · rw [cutS_wS]
        exact due_shT S.sf
    refine ⟨.str (wS s), ?_, .inl ⟨_, rfl, hb⟩⟩
    generalize ws.map Dv.str = W at *
    unfold F__law_text_spoiled
    simp only [MC_, dropS_s, dropS, iL]
  · -- a sign that no curve has
    obtain ⟨t, ht⟩ : ∃ t, t = Txt.join " " ws := ⟨_, rfl⟩
    have tl1 : t.length ≤ 2000 := by
      have := shC_len (c :: r) s S.tf S.sf
      rw [show shC (c :: r) s = t by rw [ht, ← eW]; rfl] at this
      simp at this
      omega
    have tch : ∀ x ∈ TL.tl t, x < 128 := fun x hx => by
      rw [ht, TL.join_eq, TL.tl_join, tl_blank] at hx
      rcases joinL_mem _ _ x hx with h | ⟨p, hp, h⟩
      · rw [List.mem_singleton.mp h]; decide
      · obtain ⟨y, hy, rfl⟩ := List.mem_map.mp hp
        exact (S.wd y hy).1.1 x h
    have tL : t.length ≤ LIM := by unfold LIM; omega
    obtain ⟨k, hk⟩ : ∃ k : Nat, place % ((t.length : Int) + 1) = (k : Int) := ⟨(place % ((t.length : Int) + 1)).toNat, (Int.toNat_of_nonneg (Int.emod_nonneg _ (by omega))).symm⟩
    have f1 : place.fmod ((t.length : Int) + 1) = (k : Int) := by rw [fmp _ (by omega), hk]
    have hne : ¬ ((t.length : Int) + 1 = 0) := by omega
    obtain ⟨m, hm⟩ : ∃ m : Nat, sign % 82 = (m : Int) := ⟨(sign % 82).toNat, by omega⟩
    have hm82 : m < (TL.tl ("!\"#$&'()*,-.;<=>?@ABCDEFGHIJKLMNOPQRSTUVWXYZ[\\]^_`abcdefghijklmnopqrstuvwxyz{|}~\n\t" : Str)).length := by
      rw [← TL.len_tl, some_len]
      omega
    obtain ⟨ch, hch⟩ : ∃ ch, (TL.tl ("!\"#$&'()*,-.;<=>?@ABCDEFGHIJKLMNOPQRSTUVWXYZ[\\]^_`abcdefghijklmnopqrstuvwxyz{|}~\n\t" : Str))[m]? = some ch := ⟨_, List.getElem?_eq_getElem hm82⟩
    have hin := some_sg ch (List.mem_of_getElem? hch)
    have hix : ixP (.str "!\"#$&'()*,-.;<=>?@ABCDEFGHIJKLMNOPQRSTUVWXYZ[\\]^_`abcdefghijklmnopqrstuvwxyz{|}~\n\t") (.int (m : Int)) = .ok (.str ⟨#[ch]⟩) := by
      show (if ("!\"#$&'()*,-.;<=>?@ABCDEFGHIJKLMNOPQRSTUVWXYZ[\\]^_`abcdefghijklmnopqrstuvwxyz{|}~\n\t" : Str).length ≤ LIM then (match L2.atI (TL.tl ("!\"#$&'()*,-.;<=>?@ABCDEFGHIJKLMNOPQRSTUVWXYZ[\\]^_`abcdefghijklmnopqrstuvwxyz{|}~\n\t" : Str)) (m : Int) with
        | some c => Rv.ok (Dv.str ⟨#[c]⟩)
        | none => .bad) else .bad) = _
      rw [if_pos (by rw [some_len]; decide), at_nat hm82, hch]
    have h82 : (82 ≤ LIM) = True := by simp [LIM]
    have z82 : ((82 : Nat) : Int) = 82 := rfl
    have hsl : ("!\"#$&'()*,-.;<=>?@ABCDEFGHIJKLMNOPQRSTUVWXYZ[\\]^_`abcdefghijklmnopqrstuvwxyz{|}~\n\t" : Str).length ≤ LIM := by rw [some_len]; decide
    have sub : ∀ lo hi, (∀ x ∈ TL.tl (L2.cutS t lo hi), x ∈ TL.tl t) ∧ (L2.cutS t lo hi).length ≤ t.length := fun lo hi => by
      have e : TL.tl (L2.cutS t lo hi) = ((TL.tl t).drop (HT.sIx t.length 0 lo)).take (HT.sIx t.length t.length hi - HT.sIx t.length 0 lo) := rfl
      refine ⟨fun x hx => ?_, ?_⟩
      · rw [e] at hx
        exact List.mem_of_mem_drop (List.mem_of_mem_take hx)
      · rw [TL.len_tl, e, List.length_take, List.length_drop, ← TL.len_tl]
        omega
    obtain ⟨z, hz⟩ : ∃ z, z = L2.cutS t none (some (k : Int)) ++ (⟨#[ch]⟩ : Str) ++ L2.cutS t (some (k : Int)) none := ⟨_, rfl⟩
    have l1 : (⟨#[ch]⟩ : Str).length = 1 := rfl
    have a1 : binP .add (.str (L2.cutS t none (some (k : Int)))) (.str ⟨#[ch]⟩) = .ok (.str (L2.cutS t none (some (k : Int)) ++ (⟨#[ch]⟩ : Str))) := tl_len_app (x := 2000) (y := 1) (by have := (sub none (some (k : Int))).2; omega) (by rw [l1]; exact Nat.le_refl _) (by decide)
    have a2 : binP .add (.str (L2.cutS t none (some (k : Int)) ++ (⟨#[ch]⟩ : Str))) (.str (L2.cutS t (some (k : Int)) none)) = .ok (.str z) := by
      rw [hz]
      exact tl_len_app (x := 2001) (y := 2000) (by rw [str_len_append, l1]; have := (sub none (some (k : Int))).2; omega) (by have := (sub (some (k : Int)) none).2; omega) (by decide)
    have hb : Bad z := by
      have ez : TL.tl z = TL.tl (L2.cutS t none (some (k : Int))) ++ [ch] ++ TL.tl (L2.cutS t (some (k : Int)) none) := by
        rw [hz, TL.tl_append, TL.tl_append]
      refine bad_sign (c := ch) (fun x hx => ?_) ?_ (by rw [ez]; simp) ⟨hin.2.1, hin.2.2.1, hin.2.2.2⟩
      · rw [ez] at hx
        simp only [List.mem_append, List.mem_singleton] at hx
        rcases hx with (hx | hx) | hx
        · exact tch x ((sub _ _).1 x hx)
        · rw [hx]; exact hin.1
        · exact tch x ((sub _ _).1 x hx)
      · rw [hz, str_len_append, str_len_append, l1]
        have := (sub none (some (k : Int))).2
        have := (sub (some (k : Int)) none).2
        omega
    refine ⟨.str z, ?_, .inl ⟨z, rfl, hb⟩⟩
    rw [← ht]
    generalize ws.map Dv.str = W at *
    unfold F__law_text_spoiled
    simp only [MC_, dropS_s, dropS, tL, f1, hne, some_len, h82, z82, hm, fmp, hix, a1, a2]
  · -- a word without its parting sign
    obtain ⟨x1, x2, x3⟩ := repl_wd S.ww
    have rp : tmP .replace (.str w) [.str ":", .str ""] = .ok (.str (Txt.replace w ":" "")) := by
      show (if ((":" : Str) == ("" : Str)) = false ∧ w.length + (w.length + 1) * ("" : Str).length ≤ LIM then _ else _) = _
      have l0 : ("" : Str).length = 0 := by decide +kernel
      rw [if_pos ⟨by decide +kernel, by rw [l0]; unfold LIM; omega⟩]
    have ad : binP .add (.str "3") (.str (Txt.replace w ":" "")) = .ok (.str ("3" ++ Txt.replace w ":" "")) := tl_len_app (x := 1) (y := 250) (by rw [len1_3]; exact Nat.le_refl _) x3 (by decide)
    obtain ⟨q1, q2, q3⟩ := sp3 (mem_in S.wa x1) (by simp; omega)
    refine ⟨.str (Txt.join " " (A ++ [("3" : Str) ++ Txt.replace w ":" ""] ++ (w :: B))), ?_, .inl ⟨_, rfl, S.ins x1 (dueC_none x1.1 x2)⟩⟩
    generalize (w :: B).map Dv.str = Q at *
    generalize A.map Dv.str = P at *
    generalize ws.map Dv.str = W at *
    unfold F__law_text_spoiled
    simp only [MC_, dropS_s, dropS, c1, c2, sA, sC, rp, ad, q1, q2, q3]
  · -- a word with two parting signs
    obtain ⟨d, hd⟩ : ∃ d : Nat, place % 7 = (d : Int) := ⟨(place % 7).toNat, by omega⟩
    have f7 : place.fmod 7 = (d : Int) := by rw [fmp _ (by decide), hd]
    have hd7 : d < 10 ^ 60 := by omega
    have sd := i_strn hd7
    have ld := nT_len hd7
    have a1 : binP .add (.str w) (.str ":") = .ok (.str (w ++ (":" : Str))) := tl_len_app wl (y := 1) (by rw [len1_colon]; exact Nat.le_refl _) (by decide)
    have a2 : binP .add (.str (w ++ (":" : Str))) (.str (nT d)) = .ok (.str (w ++ (":" : Str) ++ nT d)) := tl_len_app (x := 300) (by rw [str_len_append, len1_colon]; omega) ld (by decide)
    have hx : Wd (w ++ (":" : Str) ++ nT d) := by
      have w1 : Wd w := S.wa w (by simp)
      exact (w1.app colon_wd (by rw [len1_colon]; omega)).app (nT_wd hd7) (by rw [str_len_append, len1_colon]; omega)
    have hall : ∀ y ∈ A ++ [w ++ (":" : Str) ++ nT d] ++ B, Wd y := mem_mid S.wa hx
    have hb : Bad (Txt.join " " (A ++ [w ++ (":" : Str) ++ nT d] ++ B)) := by
      by_cases hB : B = []
      · obtain ⟨eA, ew⟩ := S.la hB
        subst hB
        rw [eA, ew, List.append_nil]
        have e2 : wS s ++ (":" : Str) ++ nT d = ("+" : Str) ++ (shT s ++ (":" : Str) ++ nT d) := TL.ext_tl (by unfold wS; simp only [TL.tl_append, List.append_assoc])
        have wd2 : Wd (shT s ++ (":" : Str) ++ nT d) := ((shT_wd S.sf).app colon_wd (by rw [len1_colon]; have := shT_len S.sf; omega)).app (nT_wd hd7) (by rw [str_len_append, len1_colon]; have := shT_len S.sf; omega)
        rw [e2]
        exact S.lst wd2 (by rw [str_len_append, str_len_append, len1_colon]; have := shT_len S.sf; omega) (due_bad wd2.1 (c := 58) (by rw [TL.tl_append, TL.tl_append, tl_colon]; simp) (by decide))
      · obtain ⟨x, tx, ew⟩ := S.lb hB
        refine S.rep hB hx ?_
        have e2 : wC x ++ (":" : Str) ++ nT d = shT x.1 ++ (":" : Str) ++ (shT x.2 ++ (":" : Str) ++ nT d) := TL.ext_tl (by unfold wC; simp only [TL.tl_append, List.append_assoc])
        have wd2 : Wd (shT x.2 ++ (":" : Str) ++ nT d) := ((shT_wd tx.2).app colon_wd (by rw [len1_colon]; have := shT_len tx.2; omega)).app (nT_wd hd7) (by rw [str_len_append, len1_colon]; have := shT_len tx.2; omega)
        rw [ew, e2]
        exact dueC_r shT_no (due_bad wd2.1 (c := 58) (by rw [TL.tl_append, TL.tl_append, tl_colon]; simp) (by decide))
    obtain ⟨q1, q2, q3⟩ := sp3 hall (by simp; omega)
    refine ⟨.str (Txt.join " " (A ++ [w ++ (":" : Str) ++ nT d] ++ B)), ?_, .inl ⟨_, rfl, hb⟩⟩
    generalize B.map Dv.str = Q at *
    generalize A.map Dv.str = P at *
    generalize ws.map Dv.str = W at *
    unfold F__law_text_spoiled
    simp only [MC_, dropS_s, dropS, c1, c3, sA, sB, a1, f7, hd, sd, a2, q1, q2, q3]
  · -- another last slope
    have ad : binP .add (.str "+") (.str o) = .ok (.str (("+" : Str) ++ o)) := tl_len_app (x := 1) (by rw [len1_plus]; exact Nat.le_refl _) hod.ln (by decide)
    have hx : Wd (("+" : Str) ++ o) := plus_wd.app hod.wd (by rw [len1_plus]; have := hod.ln; omega)
    have hall : ∀ y ∈ (c :: r).map wC ++ [("+" : Str) ++ o], Wd y := fun y hy => by
      rcases List.mem_append.mp hy with hy | hy
      · obtain ⟨x, hx, rfl⟩ := List.mem_map.mp hy
        exact wC_wd (S.tf x hx)
      · rw [List.mem_singleton.mp hy]; exact hx
    obtain ⟨q1, q3⟩ := sp2 hall (by simp; omega)
    refine ⟨.str (Txt.join " " ((c :: r).map wC ++ [("+" : Str) ++ o])), ?_, .inl ⟨_, rfl, S.lst hod.wd (by have := hod.ln; omega) hod.no⟩⟩
    generalize ((c :: r).map wC).map Dv.str = P at *
    generalize ws.map Dv.str = W at *
    unfold F__law_text_spoiled
    simp only [MC_, dropS_s, dropS, c4, sP, ad, q1, q3]
  · -- another time or value
    by_cases hB : B = []
    · obtain ⟨eA, ew⟩ := S.la hB
      have heq : (((A.length : Nat) : Int) + 1 = (ws.length : Int)) = True := by
        rw [S.e, hB]
        simp
      have ad : binP .add (.str "+") (.str o) = .ok (.str (("+" : Str) ++ o)) := tl_len_app (x := 1) (by rw [len1_plus]; exact Nat.le_refl _) hod.ln (by decide)
      have hx : Wd (("+" : Str) ++ o) := plus_wd.app hod.wd (by rw [len1_plus]; have := hod.ln; omega)
      have hall : ∀ y ∈ (c :: r).map wC ++ [("+" : Str) ++ o], Wd y := fun y hy => by
        rcases List.mem_append.mp hy with hy | hy
        · obtain ⟨x, hx, rfl⟩ := List.mem_map.mp hy
          exact wC_wd (S.tf x hx)
        · rw [List.mem_singleton.mp hy]; exact hx
      obtain ⟨q1, q3⟩ := sp2 hall (by simp; omega)
      refine ⟨.str (Txt.join " " ((c :: r).map wC ++ [("+" : Str) ++ o])), ?_, .inl ⟨_, rfl, S.lst hod.wd (by have := hod.ln; omega) hod.no⟩⟩
      generalize ((c :: r).map wC).map Dv.str = P at *
      generalize ws.map Dv.str = W at *
      unfold F__law_text_spoiled
      simp only [MC_, dropS_s, dropS, hWl, heq, c4, sP, ad, q1, q3]
    · obtain ⟨x, tx, ew⟩ := S.lb hB
      have heq : (((A.length : Nat) : Int) + 1 = (ws.length : Int)) = False := by
        rw [S.e]
        have : 0 < B.length := List.length_pos_iff.mpr hB
        simp only [List.length_append, List.length_cons, eq_iff_iff, iff_false]
        omega
      have hp2 : Txt.partition w ":" = (shT x.1, (":" : Str), shT x.2) := by
        rw [ew]
        exact TL.partition_app tl_colon shT_no
      have ep : tmP .partition (.str w) [.str ":"] = .ok (.tup [.str (shT x.1), .str ":", .str (shT x.2)]) := by
        rw [tm_part, if_pos ⟨lenb_colon, by unfold LIM; omega⟩, hp2]
      have l1 := shT_len tx.1
      have l2 := shT_len tx.2
      have lo := hod.ln
      by_cases hsg : sign / 14 % 2 = 1
      · have a1 : binP .add (.str o) (.str ":") = .ok (.str (o ++ (":" : Str))) := tl_len_app (x := 70) (y := 1) lo (by rw [len1_colon]; exact Nat.le_refl _) (by decide)
        have a2 : binP .add (.str (o ++ (":" : Str))) (.str (shT x.2)) = .ok (.str (o ++ (":" : Str) ++ shT x.2)) := tl_len_app (x := 100) (y := 121) (by rw [str_len_append, len1_colon]; omega) l2 (by decide)
        have hx : Wd (o ++ (":" : Str) ++ shT x.2) := (hod.wd.app colon_wd (by rw [len1_colon]; omega)).app (shT_wd tx.2) (by rw [str_len_append, len1_colon]; omega)
        obtain ⟨q1, q2, q3⟩ := sp3 (mem_mid S.wa hx) (by simp; omega)
        refine ⟨.str (Txt.join " " (A ++ [o ++ (":" : Str) ++ shT x.2] ++ B)), ?_, .inl ⟨_, rfl, S.rep hB hx (dueC_l hod.nc hod.no)⟩⟩
        generalize B.map Dv.str = Q at *
        generalize A.map Dv.str = P at *
        generalize ws.map Dv.str = W at *
        have d14 : divOk sign 14 := divOk_s _ _ ⟨by decide, by decide⟩
        have f14 := fdp sign (k := 14) (by omega)
        unfold F__law_text_spoiled
        simp only [MC_, dropS_s, dropS, hWl, heq, c1, c3, sA, sB, d14, f14, fmp, hsg, ep, a1, a2, q1, q2, q3]
      · have a1 : binP .add (.str (shT x.1)) (.str ":") = .ok (.str (shT x.1 ++ (":" : Str))) := tl_len_app (x := 121) (y := 1) l1 (by rw [len1_colon]; exact Nat.le_refl _) (by decide)
        have a2 : binP .add (.str (shT x.1 ++ (":" : Str))) (.str o) = .ok (.str (shT x.1 ++ (":" : Str) ++ o)) := tl_len_app (x := 122) (y := 70) (by rw [str_len_append, len1_colon]; omega) lo (by decide)
        have hx : Wd (shT x.1 ++ (":" : Str) ++ o) := ((shT_wd tx.1).app colon_wd (by rw [len1_colon]; omega)).app hod.wd (by rw [str_len_append, len1_colon]; omega)
        obtain ⟨q1, q2, q3⟩ := sp3 (mem_mid S.wa hx) (by simp; omega)
        refine ⟨.str (Txt.join " " (A ++ [shT x.1 ++ (":" : Str) ++ o] ++ B)), ?_, .inl ⟨_, rfl, S.rep hB hx (dueC_r shT_no hod.no)⟩⟩
        generalize B.map Dv.str = Q at *
        generalize A.map Dv.str = P at *
        generalize ws.map Dv.str = W at *
        have d14 : divOk sign 14 := divOk_s _ _ ⟨by decide, by decide⟩
        have f14 := fdp sign (k := 14) (by omega)
        unfold F__law_text_spoiled
        simp only [MC_, dropS_s, dropS, hWl, heq, c1, c3, sA, sB, d14, f14, fmp, hsg, ep, a1, a2, q1, q2, q3]
  · -- no text
    have hWL : (ws.map Dv.str).length ≤ LIM := by rw [hWl]; unfold LIM; omega
    have any11 : (ws.map Dv.str).any (lsF 11) = false := any_f (fun _ => rfl) _
    generalize ws.map Dv.str = W at *
    have i5 : ∀ (j : Nat) (x : Dv), ([Dv.non, .int 7, .bl true, .lst W, .tup W] : List Dv)[j]? = some x → sign % 5 = (j : Int) → L2.atI ([Dv.non, .int 7, .bl true, .lst W, .tup W] : List Dv) (sign % 5) = some x := fun j x h e => by
      have hj : j < 5 := (List.getElem?_eq_some_iff.mp h).1
      rw [e, at_nat hj]
      exact h
    have five : sign % 5 = ((0 : Nat) : Int) ∨ sign % 5 = ((1 : Nat) : Int) ∨ sign % 5 = ((2 : Nat) : Int) ∨ sign % 5 = ((3 : Nat) : Int) ∨ sign % 5 = ((4 : Nat) : Int) := by omega
    rcases five with e | e | e | e | e
    · have := i5 0 _ rfl e
      exact ⟨.non, by unfold F__law_text_spoiled; simp only [MC_, dropS_s, dropS, fmp, this], .inr (.inl rfl)⟩
    · have := i5 1 _ rfl e
      exact ⟨.int 7, by unfold F__law_text_spoiled; simp only [MC_, dropS_s, dropS, fmp, this], .inr (.inr (.inl rfl))⟩
    · have := i5 2 _ rfl e
      exact ⟨.bl true, by unfold F__law_text_spoiled; simp only [MC_, dropS_s, dropS, fmp, this], .inr (.inr (.inr (.inl rfl)))⟩
    · have := i5 3 _ rfl e
      exact ⟨.lst W, by unfold F__law_text_spoiled; simp only [MC_, dropS_s, dropS, fmp, this], .inr (.inr (.inr (.inr (.inl ⟨_, rfl⟩))))⟩
    · have := i5 4 _ rfl e
      exact ⟨.tup W, by unfold F__law_text_spoiled; simp only [MC_, dropS_s, dropS, fmp, this], .inr (.inr (.inr (.inr (.inr ⟨_, any11, rfl⟩))))⟩

end Q
namespace Q
open PySem MP FP
theorem dlt0 {a b d : Int} (hd : 0 < d) : Rat.divInt a d < Rat.divInt b d ↔ a < b := by
  have h : (0 : Rat) < (d : Rat) := Rat.intCast_pos.mpr hd
  rw [Rat.divInt_eq_div, Rat.divInt_eq_div, Rat.div_lt_iff h, Rat.div_mul_cancel (by grind), Rat.intCast_lt_intCast]
theorem tf_nn {q : Rat} (h : Tf q) : ¬ q < 0 := by
  rw [Rat.lt_iff]
  have := h.n0
  show ¬ (q.num * ((1 : Nat) : Int) < 0 * _)
  rw [Int.zero_mul]
  omega
theorem tf_div {t b : Int} (t0 : 0 ≤ t) (tb : t < 10 ^ 60) (b0 : 0 < b) (bb : b < 10 ^ 60) : Tf (Rat.divInt t b) := by
  obtain ⟨h1, h2⟩ := div_pos_parts t b b0
  have hg : 0 < ((Int.gcd t b : Nat) : Int) := by
    have : Int.gcd t b ≠ 0 := fun h => by
      have := (Int.gcd_eq_zero_iff.mp h).2
      omega
    omega
  rw [Int.fdiv_eq_ediv_of_nonneg _ (by omega)] at h1 h2
  have n1 : 0 ≤ t / (Int.gcd t b : Nat) := Int.ediv_nonneg t0 (by omega)
  have n2 : t / (Int.gcd t b : Nat) ≤ t := Int.ediv_le_self _ t0
  have n3 : b / (Int.gcd t b : Nat) ≤ b := Int.ediv_le_self _ (by omega)
  rw [h1] at n1 n2
  rw [h2] at n3
  have e : ((10 ^ 60 : Nat) : Int) = 10 ^ 60 := by decide
  exact ⟨n1, by omega, by omega⟩

end Q
namespace Q
open PySem MP FP
theorem tf_rb {q : Rat} (h : Tf q) : Rb q 200 := ⟨Nat.lt_of_lt_of_le h.n (show 10 ^ 60 ≤ 2 ^ 200 by decide), Nat.lt_of_lt_of_le h.d (show 10 ^ 60 ≤ 2 ^ 200 by decide)⟩
/-! ### corners that are no curve -/
theorem tf_cz {x : Cn} (h : TfC x) : Cz x := ⟨(tf_rb h.1).mono (by decide), (tf_rb h.2).mono (by decide)⟩
theorem cu_bad (n : Nat) (X : Dv) (cs : List Cn) (e1 : Option Dv) (h : Sq X (cs.map dC)) (hz : ∀ x ∈ cs, Cz x) : ∀ (r pre : List Cn) (c : Cn) (k : Int) (r3 : Option Dv), cs = pre ++ c :: r → k = pre.length + 1 → ¬ (Ups c r ∧ Nds c r) → ∃ σ', foP (runTP T (n + 1)) 2 B_curve_1 (stepsP k 1 r.length) [some X, e1, r3] = .ex "NoCurve" σ'
  | [], pre, c, k, r3, _, _, hb => absurd ⟨trivial, trivial⟩ hb
  | d :: r, pre, c, k, r3, hcs, hk, hb => by
    have i1 := i_at (k := k - 1) hcs (by omega)
    have i2 := i_at (cs := cs) (pre := pre ++ [c]) (c := d) (r := r) (k := k) (by rw [hcs]; simp) (by simp; omega)
    have zc : Cz c := hz c (by rw [hcs]; simp)
    have zd : Cz d := hz d (by rw [hcs]; simp)
    by_cases h1 : c.1 < d.1
    · by_cases h2 : d.2 < c.2
      · refine ⟨[some X, e1, some (.int k)], ?_⟩
        simp only [MC_, List.length_cons, stepsP, fo_cons, VB_curve_1, h.gv, h.fz, h.ix, i1, i2, r_under, zc.s1, zc.s2, zd.s1, zd.s2, h1, h2]
      · obtain ⟨σ', ih⟩ := cu_bad n X cs e1 h hz r (pre ++ [c]) d (k + 1) (some (.int k)) (by rw [hcs]; simp) (by simp; omega) (fun z => hb ⟨⟨h1, z.1⟩, ⟨h2, z.2⟩⟩)
        refine ⟨σ', ?_⟩
        simp only [MC_, List.length_cons, stepsP, fo_cons, VB_curve_1, h.gv, h.fz, h.ix, i1, i2, r_under, zc.s1, zc.s2, zd.s1, zd.s2, h1, h2]
        exact ih
    · refine ⟨[some X, e1, some (.int k)], ?_⟩
      simp only [MC_, List.length_cons, stepsP, fo_cons, VB_curve_1, h.gv, h.fz, h.ix, i1, i2, r_under, zc.s1, zc.s2, zd.s1, zd.s2, h1]
theorem cv_bad (n : Nat) (c : Cn) (r : List Cn) (s : Rat) (h : ∀ x ∈ c :: r, TfC x) (hs : Tf s) (hn : r.length ≤ 1000) (hb : ¬ (c.1 = 0 ∧ Ups c r ∧ Nds c r)) : runTP T (n + 8) "curve" [.lst ((c :: r).map dC), dR s] = .exc "NoCurve" := by
  rw [runTP_succ T_curve]
  have hq : Sq (.lst ((c :: r).map dC)) ((c :: r).map dC) := Sq.lst
  have hz : ∀ x ∈ c :: r, Cz x := fun x hx => tf_cz (h x hx)
  have hln := hq.ln
  rw [List.length_map, List.length_cons] at hln
  have hr := rng1 r.length (by omega)
  have i0 : L2.atI ((c :: r).map dC) 0 = some (dC c) := i_at (pre := []) rfl rfl
  have s2 := (hz c List.mem_cons_self).s2
  have hpos : (((r.length + 1 : Nat) : Int) = 0) = False := by simp only [eq_iff_iff, iff_false]; omega
  have n1 : ¬ c.2 < 0 := tf_nn (h c List.mem_cons_self).2
  have n2 : ¬ s < 0 := tf_nn hs
  have hsz : Sz s := (tf_rb hs).sz (by decide)
  generalize Dv.lst ((c :: r).map dC) = X at *
  by_cases h0 : c.1 = 0
  · obtain ⟨σ', hl⟩ := cu_bad (n + 6) X (c :: r) (some (dR s)) hq hz r [] c 1 none rfl rfl (fun z => hb ⟨h0, z.1, z.2⟩)
    unfold F_curve
    simp only [MC_, hq.gv, hq.fz, hq.ix, i0, hln, hr, any_steps, hl, hpos, r_under, hsz, s2, Sz0, h0, n1, n2]
  · unfold F_curve
    simp only [MC_, hq.gv, hq.fz, hq.ix, i0, hln, hpos, r_under, hsz, s2, Sz0, h0, n1, n2]
theorem bad_cs {c : Cn} {r : List Cn} {s : Rat} (h : ∀ x ∈ c :: r, TfC x) (hs : Tf s) (hn : r.length ≤ 60) (hb : ¬ (c.1 = 0 ∧ Ups c r ∧ Nds c r)) : Bad (shC (c :: r) s) := by
  refine bad_last (fun y hy => ws_wd h hs y hy) (by simp; omega) (.inr (.inr (.inr ⟨c :: r, s, ?_, ?_, fun n => cv_bad n c r s h hs (by omega) hb⟩)))
  · rw [List.map_map]
    exact List.map_congr_left fun x hx => dueC_wC (h x hx)
  · rw [cutS_wS]
    exact due_shT hs
theorem pair_no : ∀ (P Q : List Cn) (x y c : Cn) (r : List Cn), P ++ x :: y :: Q = c :: r → ¬ (x.1 < y.1 ∧ ¬ y.2 < x.2) → ¬ (Ups c r ∧ Nds c r)
  | [], Q, x, y, c, r, e, h => by
    injection e with e1 e2
    subst e1 e2
    exact fun z => h ⟨z.1.1, z.2.1⟩
  | p :: P, Q, x, y, c, r, e, h => by
    injection e with e1 e2
    have e3 : P ++ x :: y :: Q = r := e2
    cases r with
    | nil => simp at e3
    | cons d t => exact fun z => pair_no P Q x y d t e3 h ⟨z.1.2, z.2.2⟩
/-! ### numbers spoiled -/
structure Sm (q : Rat) : Prop where
  n0 : 0 ≤ q.num
  n : q.num < 10 ^ 40
  d : q.den < 10 ^ 10
theorem Sm.tf {q : Rat} (h : Sm q) : Tf q := ⟨h.n0, by have := h.n; have := h.n0; omega, by have := h.d; omega⟩
theorem div_num {t d : Nat} (hd : 0 < d) (hg : Nat.gcd t d = 1) : (Rat.divInt (t : Int) (d : Int)).num = t ∧ (Rat.divInt (t : Int) (d : Int)).den = d := by
  obtain ⟨h1, h2⟩ := div_pos_parts (t : Int) (d : Int) (by omega)
  have hg' : ((Int.gcd (t : Int) (d : Int) : Nat) : Int) = 1 := by rw [Int.gcd_natCast_natCast]; omega
  rw [hg'] at h1 h2
  rw [Int.fdiv_one] at h1 h2
  exact ⟨h1.symm, by omega⟩
theorem more_ok {q : Rat} (h : Sm q) : ∃ p : Rat, p.num = q.num + (q.den : Int) ∧ p.den = q.den ∧ Tf p ∧ q < p := by
  obtain ⟨m, hm⟩ : ∃ m : Nat, q.num = (m : Int) := ⟨q.num.toNat, by have := h.n0; omega⟩
  have hg : Nat.gcd (m + q.den) q.den = 1 := by
    rw [Nat.gcd_add_self_left]
    have := q.reduced
    rw [hm] at this
    exact this
  have hd : 0 < q.den := q.den_pos
  obtain ⟨e1, e2⟩ := div_num (t := m + q.den) hd hg
  have en : (Rat.divInt ((m + q.den : Nat) : Int) (q.den : Int)).num = q.num + (q.den : Int) := by rw [e1, hm]; omega
  refine ⟨Rat.divInt ((m + q.den : Nat) : Int) (q.den : Int), en, e2, ⟨by rw [e1]; omega, ?_, by rw [e2]; have := h.d; omega⟩, ?_⟩
  · rw [e1, Int.natAbs_natCast]
    have := h.n
    have := h.d
    omega
  · rw [Rat.lt_iff, en, e2, Int.add_mul]
    have : 0 < (q.den : Int) * (q.den : Int) := Int.mul_pos (by omega) (by omega)
    omega
theorem half_ok {q : Rat} (h : Sm q) : Tf (Rat.divInt (2 * q.num + 1) (2 * (q.den : Int))) := tf_div (by have := h.n0; omega) (by have := h.n; omega) (by have := q.den_pos; omega) (by have := h.d; omega)
theorem inv_ok (k : Nat) (h : 0 < k ∧ k ≤ 1000) : ∃ p : Rat, dR p = .tup [.int 1, .int (k : Int)] ∧ Tf p ∧ p ≠ 0 := by
  obtain ⟨e1, e2⟩ := div_num (t := 1) h.1 (Nat.gcd_one_left k)
  refine ⟨Rat.divInt ((1 : Nat) : Int) (k : Int), ?_, ⟨by rw [e1]; omega, by rw [e1]; decide, by rw [e2]; omega⟩, fun z => ?_⟩
  · unfold dR
    rw [e1, e2]
    rfl
  · rw [z] at e1
    exact absurd e1 (by decide)
/-- a curve drawn here -/
structure D51 (c : Cn) (r : List Cn) (s : Rat) : Prop where
  sm : ∀ x ∈ c :: r, Sm x.1 ∧ Sm x.2
  sf : Tf s
  len : r.length ≤ 3
  up : Ups c r
  nd : Nds c r
  c0 : c.1 = 0
  nf : NF s c r
theorem D51.tf {c : Cn} {r : List Cn} {s : Rat} (D : D51 c r s) : ∀ x ∈ c :: r, TfC x := fun x hx => ⟨(D.sm x hx).1.tf, (D.sm x hx).2.tf⟩
theorem r_more (n : Nat) (q p : Rat) (h1 : p.num = q.num + (q.den : Int)) (h2 : p.den = q.den) : runTP T (n + 1) "_law_more" [dR q] = .ok (dR p) := by
  rw [runTP_succ T__law_more]
  have e : dR p = .tup [.int (q.num + (q.den : Int)), .int (q.den : Int)] := by
    unfold dR
    rw [h1, h2]
  rw [e]
  unfold F__law_more
  simp only [MC_]
theorem more_all : ∀ l : List Cn, (∀ x ∈ l, Sm x.1 ∧ Sm x.2) → ∃ g : Cn → Cn, ∀ x ∈ l, TfC (g x) ∧ ∀ n, runTP T (n + 1) "_law_more" [dR x.1] = .ok (dR (g x).1) ∧ (g x).2 = x.2 := fun l h => by
  have : ∀ x : Cn, ∃ y : Cn, x ∈ l → TfC y ∧ ∀ n, runTP T (n + 1) "_law_more" [dR x.1] = .ok (dR y.1) ∧ y.2 = x.2 := fun x => by
    by_cases hx : x ∈ l
    · obtain ⟨p, p1, p2, p3, _⟩ := more_ok (h x hx).1
      exact ⟨(p, x.2), fun _ => ⟨⟨p3, (h x hx).2.tf⟩, fun n => ⟨r_more n x.1 p p1 p2, rfl⟩⟩⟩
    · exact ⟨x, fun z => absurd z hx⟩
  obtain ⟨g, hg⟩ := Classical.axiomOfChoice this
  exact ⟨g, fun x hx => hg x hx⟩

end Q
namespace Q
open PySem MP FP
theorem bp_lst' {a b : List Dv} (h : a.length + b.length ≤ 1000) : binP .add (.lst a) (.lst b) = .ok (.own (a ++ b)) := bp_lst h
/-- what the spoiled corners are -/
theorem r_cs (n : Nat) {c : Cn} {r : List Cn} {s : Rat} (D : D51 c r s) (way place : Int) (hw : 3 ≤ way ∧ way < 6) : ∃ (c' : Cn) (r' : List Cn), runTP T (n + 2) "_law_corners_spoiled" [.lst ((c :: r).map dC), .int way, .int place] = .ok (.own ((c' :: r').map dC)) ∧ (∀ x ∈ c' :: r', TfC x) ∧ r'.length ≤ 10 ∧ ¬ (c'.1 = 0 ∧ Ups c' r' ∧ Nds c' r') := by
  rw [runTP_succ T__law_corners_spoiled]
  have len := D.len
  obtain ⟨L, hL⟩ : ∃ L, L = c :: r := ⟨_, rfl⟩
  have hLl : L.length = r.length + 1 := by rw [hL]; rfl
  obtain ⟨k, hk⟩ : ∃ k : Nat, place % (L.length : Int) = (k : Int) := ⟨(place % (L.length : Int)).toNat, (Int.toNat_of_nonneg (Int.emod_nonneg _ (by omega))).symm⟩
  have hkl : k < L.length := by
    have := Int.emod_lt_of_pos place (b := (L.length : Int)) (by omega)
    omega
  have f1 : place.fmod (L.length : Int) = (k : Int) := by rw [fmp _ (by omega), hk]
  have hne : ¬ ((L.length : Int) = 0) := by omega
  have hWl : (L.map dC).length = L.length := List.length_map ..
  obtain ⟨P, Q, x, he, hP⟩ : ∃ P Q x, L = P ++ x :: Q ∧ P.length = k := ⟨L.take k, L.drop (k + 1), L[k], by rw [List.getElem_cons_drop, List.take_append_drop], by rw [List.length_take]; omega⟩
  have ia : L2.atI (L.map dC) (k : Int) = some (dC x) := by
    rw [at_nat (by rw [hWl]; exact hkl), List.getElem?_map, he, List.getElem?_append_right (by omega), hP, Nat.sub_self]
    rfl
  have hPQ : P.length + Q.length + 1 = L.length := by rw [he]; simp; omega
  have c1 : cut (L.map dC) none (some (k : Int)) = P.map dC := by rw [cutM, cutT, he, ← hP, List.take_left]
  have c2 : cut (L.map dC) (some (k : Int)) none = (x :: Q).map dC := by rw [cutM, cutD, he, ← hP, List.drop_left]
  have c3 : cut (L.map dC) (some ((k : Int) + 1)) none = Q.map dC := by
    rw [cutM, show ((k : Int) + 1) = ((k + 1 : Nat) : Int) by omega, cutD, he, ← hP, ← List.drop_drop, List.drop_left]
    rfl
  have c4 : cut (L.map dC) none (some ((k : Int) + 1)) = (P ++ [x]).map dC := by
    rw [cutM, show ((k : Int) + 1) = ((k + 1 : Nat) : Int) by omega, cutT, he, ← hP]
    congr 1
    rw [show P ++ x :: Q = (P ++ [x]) ++ Q by simp, show P.length + 1 = (P ++ [x]).length by simp, List.take_left]
  have sm : ∀ y ∈ L, Sm y.1 ∧ Sm y.2 := fun y hy => D.sm y (by rw [← hL]; exact hy)
  have tf : ∀ y ∈ L, TfC y := fun y hy => D.tf y (by rw [← hL]; exact hy)
  have sP : (P.map dC).length ≤ LIM := by rw [List.length_map]; unfold LIM; omega
  have sQ : (Q.map dC).length ≤ LIM := by rw [List.length_map]; unfold LIM; omega
  have sX : ((x :: Q).map dC).length ≤ LIM := by rw [List.length_map]; unfold LIM; simp; omega
  have sPx : ((P ++ [x]).map dC).length ≤ LIM := by rw [List.length_map]; unfold LIM; simp; omega
  rw [← hL]
  have ways : way = 3 ∨ way = 4 ∨ way = 5 := by omega
  have front : ∀ {l : List Cn} {A B : List Cn} {a b : Cn}, l = A ++ a :: b :: B → ¬ (a.1 < b.1 ∧ ¬ b.2 < a.2) → ∃ c' r', l = c' :: r' ∧ ¬ (c'.1 = 0 ∧ Ups c' r' ∧ Nds c' r') := fun {l A B a b} e h => by
    cases l with
    | nil => simp at e
    | cons c' r' => exact ⟨c', r', rfl, fun z => pair_no A B a b c' r' e.symm h z.2⟩
  rcases ways with rfl | rfl | rfl
  · -- the first time above nought
    obtain ⟨m, hm⟩ : ∃ m : Nat, 1 + place % 1000 = (m : Int) := ⟨(1 + place % 1000).toNat, by omega⟩
    obtain ⟨p, p1, p2, p3⟩ := inv_ok m (by omega)
    obtain ⟨g, hg⟩ := more_all r (fun y hy => D.sm y (List.mem_cons_of_mem _ hy))
    have ct : cut (L.map dC) (some 1) none = r.map dC := by
      rw [cutM, show (1 : Int) = ((1 : Nat) : Int) from rfl, cutD, hL]
      rfl
    have i0 : L2.atI (L.map dC) 0 = some (dC c) := by rw [hL]; exact i_at (pre := []) rfl rfl
    have sr : (r.map dC).length ≤ LIM := by rw [List.length_map]; unfold LIM; omega
    have hlc : ∀ σ : Ev, σ.length = 9 → lcQ (runTP T (n + 1)) 5 C__law_corners_spoiled_1 E__law_corners_spoiled_1 σ (r.map dC) = .ok ((r.map g).map dC) := fun σ h9 => by
      rw [List.map_map]
      have := lc_map (Φ := runTP T (n + 1)) (σ := σ) (s := 5) (c := C__law_corners_spoiled_1) (e := E__law_corners_spoiled_1) dC (fun y => dC (g y)) r (fun y hy => by simp only [MC_, VC__law_corners_spoiled_1]) (fun y hy => by
        obtain ⟨_, g2⟩ := hg y hy
        have e1 := (g2 n).1
        have e2 := (g2 n).2
        have e3 : dC (g y) = .tup [dR (g y).1, dR y.2] := by rw [← e2]; rfl
        rw [e3]
        match σ, h9 with
        | [o0, o1, o2, o3, o4, o5, o6, o7, o8], _ => simp only [MC_, VE__law_corners_spoiled_1, e1])
      exact this
    have sg : ((r.map g).map dC).length ≤ LIM := by rw [List.length_map, List.length_map]; unfold LIM; omega
    have ba : binP .add (.lst [dC (p, c.2)]) (.lst ((r.map g).map dC)) = .ok (.own ([dC (p, c.2)] ++ (r.map g).map dC)) := bp_lst (by simp; omega)
    have any2 : ((r.map g).map dC).any (lsF 12) = false := any_C
    refine ⟨(p, c.2), r.map g, ?_, fun y hy => ?_, by rw [List.length_map]; omega, fun z => p3 z.1⟩
    · rw [show ((p, c.2) :: r.map g).map dC = [dC (p, c.2)] ++ (r.map g).map dC from rfl]
      generalize (r.map g).map dC = G at *
      generalize r.map dC = R at *
      generalize L.map dC = W at *
      rw [← hm] at p1
      unfold F__law_corners_spoiled
      simp only [MC_, hWl, f1, hne, fmp, ← p1, i0, ct, sr, hlc, sg, ba, any2, List.length_cons, List.length_nil]
    · rcases List.mem_cons.mp hy with hy | hy
      · rw [hy]; exact ⟨p2, (tf c (by rw [hL]; simp)).2⟩
      · obtain ⟨y0, hy0, rfl⟩ := List.mem_map.mp hy
        exact (hg y0 hy0).1
  · -- two alike, or changed for one another
    by_cases hsw : place / 11 % 2 = 1 ∧ (k : Int) + 1 < (L.length : Int)
    · obtain ⟨h11, hk1⟩ := hsw
      obtain ⟨y, Q', hQ⟩ : ∃ y Q', Q = y :: Q' := by
        cases Q with
        | nil => simp at hPQ; omega
        | cons y Q' => exact ⟨y, Q', rfl⟩
      have ib : L2.atI (L.map dC) ((k : Int) + 1) = some (dC y) := by
        rw [show ((k : Int) + 1) = ((k + 1 : Nat) : Int) by omega, at_nat (by rw [hWl]; omega), List.getElem?_map, he, List.getElem?_append_right (by omega), hP, hQ, show k + 1 - k = 1 by omega]
        rfl
      have c5 : cut (L.map dC) (some ((k : Int) + 2)) none = Q'.map dC := by
        rw [cutM, show ((k : Int) + 2) = ((k + 2 : Nat) : Int) by omega, cutD, he, ← hP, ← List.drop_drop, List.drop_left, hQ]
        rfl
      have hl : Q'.length + 1 = Q.length := by rw [hQ]; rfl
      have sq : (Q'.map dC).length ≤ LIM := by rw [List.length_map]; unfold LIM; omega
      have b1 : binP .add (.lst (P.map dC)) (.lst [dC y, dC x]) = .ok (.own (P.map dC ++ [dC y, dC x])) := bp_lst (by simp; omega)
      have b2 : binP .add (.lst (P.map dC ++ [dC y, dC x])) (.lst (Q'.map dC)) = .ok (.own (P.map dC ++ [dC y, dC x] ++ Q'.map dC)) := bp_lst (by simp; omega)
      have hxy : x.1 < y.1 := by
        have key : ∀ (A : List Cn) (c : Cn) (r : List Cn), A ++ x :: y :: Q' = c :: r → Ups c r → x.1 < y.1 := by
          intro A
          induction A with
          | nil =>
            intro c r e hu
            injection e with e1 e2
            subst e1 e2
            exact hu.1
          | cons a A ih =>
            intro c r e hu
            injection e with e1 e2
            have e3 : A ++ x :: y :: Q' = r := e2
            cases r with
            | nil => simp at e3
            | cons d t => exact ih d t e3 hu.2
        exact key P c r (by rw [← hQ, ← he, hL]) D.up
      obtain ⟨c', r', e', hb⟩ := front (l := P ++ y :: x :: Q') rfl (fun z => absurd z.1 (by grind))
      have hmem : ∀ z ∈ P ++ y :: x :: Q', z ∈ L := fun z hz => by
        rw [he, hQ]
        simp only [List.mem_append, List.mem_cons] at hz ⊢
        rcases hz with h | h | h | h
        · exact .inl h
        · exact .inr (.inr (.inl h))
        · exact .inr (.inl h)
        · exact .inr (.inr (.inr h))
      refine ⟨c', r', ?_, fun z hz => tf z (hmem z (by rw [e']; exact hz)), ?_, hb⟩
      · rw [← e', show (P ++ y :: x :: Q').map dC = P.map dC ++ [dC y, dC x] ++ Q'.map dC by simp]
        have d11 : divOk place 11 := divOk_s _ _ ⟨by decide, by decide⟩
        have f11 := fdp place (k := 11) (by omega)
        generalize Q'.map dC = G at *
        generalize P.map dC = R at *
        generalize L.map dC = W at *
        unfold F__law_corners_spoiled
        simp only [MC_, hWl, f1, hne, fmp, d11, f11, h11, hk1, c1, sP, ib, ia, c5, sq, b1, b2]
      · have := congrArg List.length e'
        simp at this
        omega
    · have b1 : binP .add (.lst ((P ++ [x]).map dC)) (.lst ((x :: Q).map dC)) = .ok (.own ((P ++ [x]).map dC ++ (x :: Q).map dC)) := bp_lst (by simp; omega)
      obtain ⟨c', r', e', hb⟩ := front (l := P ++ x :: x :: Q) rfl (fun z => absurd z.1 (by grind))
      have hmem : ∀ z ∈ P ++ x :: x :: Q, z ∈ L := fun z hz => by
        rw [he]
        simp only [List.mem_append, List.mem_cons] at hz ⊢
        rcases hz with h | h | h | h
        · exact .inl h
        · exact .inr (.inl h)
        · exact .inr (.inl h)
        · exact .inr (.inr h)
      refine ⟨c', r', ?_, fun z hz => tf z (hmem z (by rw [e']; exact hz)), ?_, hb⟩
      · rw [← e', show (P ++ x :: x :: Q).map dC = (P ++ [x]).map dC ++ (x :: Q).map dC by simp]
        have d11 : divOk place 11 := divOk_s _ _ ⟨by decide, by decide⟩
        have f11 := fdp place (k := 11) (by omega)
        generalize (x :: Q).map dC = G at *
        generalize (P ++ [x]).map dC = R at *
        generalize L.map dC = W at *
        by_cases h11 : place / 11 % 2 = 1
        · have hk1 : ¬ (k : Int) + 1 < (L.length : Int) := fun z => hsw ⟨h11, z⟩
          unfold F__law_corners_spoiled
          simp only [MC_, hWl, f1, hne, fmp, d11, f11, h11, hk1, c4, c2, sPx, sX, b1]
        · unfold F__law_corners_spoiled
          simp only [MC_, hWl, f1, hne, fmp, d11, f11, h11, c4, c2, sPx, sX, b1]
      · have := congrArg List.length e'
        simp at this
        omega
  · -- a corner lower than the one ahead
    obtain ⟨p, p1, p2, p3, p4⟩ := more_ok (sm x (by rw [he]; simp)).2
    have ht := half_ok (sm x (by rw [he]; simp)).1
    have mo := r_more n x.2 p p1 p2
    obtain ⟨g, hg⟩ := more_all Q (fun y hy => sm y (by rw [he]; simp [hy]))
    have hlc : ∀ σ : Ev, σ.length = 9 → lcQ (runTP T (n + 1)) 5 C__law_corners_spoiled_2 E__law_corners_spoiled_2 σ (Q.map dC) = .ok ((Q.map g).map dC) := fun σ h9 => by
      rw [List.map_map]
      have := lc_map (Φ := runTP T (n + 1)) (σ := σ) (s := 5) (c := C__law_corners_spoiled_2) (e := E__law_corners_spoiled_2) dC (fun y => dC (g y)) Q (fun y hy => by simp only [MC_, VC__law_corners_spoiled_2]) (fun y hy => by
        obtain ⟨_, g2⟩ := hg y hy
        have e1 := (g2 n).1
        have e2 := (g2 n).2
        have e3 : dC (g y) = .tup [dR (g y).1, dR y.2] := by rw [← e2]; rfl
        rw [e3]
        match σ, h9 with
        | [o0, o1, o2, o3, o4, o5, o6, o7, o8], _ => simp only [MC_, VE__law_corners_spoiled_2, e1])
      exact this
    have sg : ((Q.map g).map dC).length ≤ LIM := by rw [List.length_map, List.length_map]; unfold LIM; omega
    have any2 : ((Q.map g).map dC).any (lsF 12) = false := any_C
    obtain ⟨u, hu⟩ : ∃ u, u = Rat.divInt (2 * x.1.num + 1) (2 * (x.1.den : Int)) := ⟨_, rfl⟩
    rw [← hu] at ht
    have sx := (sm x (by rw [he]; simp)).1
    have lw : runTP T (n + 1) "_law_lowest" [.int (2 * x.1.num + 1), .int (2 * (x.1.den : Int))] = .ok (dR u) := by
      rw [hu]
      have h1 := sx.n0
      have h2 := sx.n
      have h3 := sx.d
      have h4 := x.1.den_pos
      refine r_lowest n _ _ (by omega) ?_ ?_
      · exact Nat.lt_of_lt_of_le (show (2 * x.1.num + 1).natAbs < 2 ^ 200 by have : (10 : Int) ^ 40 * 2 + 1 < 2 ^ 200 := by decide
                                                                             omega) (Nat.pow_le_pow_right (by decide) (le_big (by decide)))
      · exact Nat.lt_of_lt_of_le (show (2 * (x.1.den : Int)).natAbs < 2 ^ 200 by omega) (Nat.pow_le_pow_right (by decide) (le_big (by decide)))
    have b1 : binP .add (.lst (P.map dC)) (.lst [dC (x.1, p), dC (u, x.2)]) = .ok (.own (P.map dC ++ [dC (x.1, p), dC (u, x.2)])) := bp_lst (by simp; omega)
    have b2 : binP .add (.lst (P.map dC ++ [dC (x.1, p), dC (u, x.2)])) (.lst ((Q.map g).map dC)) = .ok (.own (P.map dC ++ [dC (x.1, p), dC (u, x.2)] ++ (Q.map g).map dC)) := bp_lst (by simp; omega)
    obtain ⟨c', r', e', hb⟩ := front (l := P ++ (x.1, p) :: (u, x.2) :: Q.map g) rfl (fun z => absurd p4 (by have := z.2; exact this))
    refine ⟨c', r', ?_, fun z hz => ?_, ?_, hb⟩
    · rw [← e', show (P ++ (x.1, p) :: (u, x.2) :: Q.map g).map dC = P.map dC ++ [dC (x.1, p), dC (u, x.2)] ++ (Q.map g).map dC by simp]
      have m1 : mulOk 2 x.1.num := mulOk_small' (by decide)
      have m2 : mulOk 2 (x.1.den : Int) := mulOk_small' (by decide)
      generalize (Q.map g).map dC = G at *
      generalize Q.map dC = QQ at *
      generalize P.map dC = R at *
      generalize L.map dC = W at *
      unfold F__law_corners_spoiled
      simp only [MC_, hWl, f1, hne, fmp, c3, sQ, hlc, sg, any2, ia, mo, m1, m2, lw, c1, sP, b1, b2, List.length_cons, List.length_nil]
    · have hz2 : z ∈ P ++ (x.1, p) :: (u, x.2) :: Q.map g := by rw [e']; exact hz
      simp only [List.mem_append, List.mem_cons] at hz2
      have tx := tf x (by rw [he]; simp)
      rcases hz2 with h | h | h | h
      · exact tf z (by rw [he]; simp [h])
      · rw [h]; exact ⟨tx.1, p3⟩
      · rw [h]; exact ⟨ht, tx.2⟩
      · obtain ⟨y0, hy0, rfl⟩ := List.mem_map.mp h
        exact (hg y0 hy0).1
    · have := congrArg List.length e'
      simp at this
      omega

end Q
namespace Q
open PySem MP FP
abbrev Pt := Int × Int
def cn (low high : Int) (p : Pt) : Cn := (Rat.divInt p.1 low, Rat.divInt p.2 high)
def Chn : Int → Pt → List Pt → Prop
  | _, _, [] => True
  | k, p, d :: t => (∃ g ri : Int, 1 ≤ g ∧ g ≤ 10 ^ 12 ∧ 13 * k + 1 ≤ ri ∧ ri ≤ 13 * k + 12 ∧ d.1 = p.1 + g ∧ d.2 = p.2 + ri * g) ∧ Chn (k + 1) d t
theorem sl_cn {low high : Int} (hl : 0 < low) (hh : 0 < high) {p d : Pt} {g ri : Int} (hg : 1 ≤ g) (h1 : d.1 = p.1 + g) (h2 : d.2 = p.2 + ri * g) : slope (cn low high p) (cn low high d) = (ri : Rat) * (low : Rat) / (high : Rat) := by
  have l0 : (0 : Rat) < (low : Rat) := Rat.intCast_pos.mpr hl
  have h0 : (0 : Rat) < (high : Rat) := Rat.intCast_pos.mpr hh
  have g0 : (0 : Rat) < (g : Rat) := Rat.intCast_pos.mpr (by omega)
  have e1 : (Rat.divInt d.1 low : Rat) - Rat.divInt p.1 low = (g : Rat) / (low : Rat) := by
    rw [Rat.divInt_eq_div, Rat.divInt_eq_div, h1, Rat.intCast_add]
    grind
  have e2 : (Rat.divInt d.2 high : Rat) - Rat.divInt p.2 high = (ri : Rat) * (g : Rat) / (high : Rat) := by
    rw [Rat.divInt_eq_div, Rat.divInt_eq_div, h2, Rat.intCast_add, Rat.intCast_mul]
    grind
  show (Rat.divInt d.2 high - Rat.divInt p.2 high) / (Rat.divInt d.1 low - Rat.divInt p.1 low) = _
  rw [e1, e2]
  have hgl : (0 : Rat) < (g : Rat) / (low : Rat) := (Rat.lt_div_iff l0).mpr (by grind)
  rw [quo_eq hgl h0]
  grind
theorem m_inj {low high a b : Int} (hl : 0 < low) (hh : 0 < high) (h : (a : Rat) * (low : Rat) / (high : Rat) = (b : Rat) * (low : Rat) / (high : Rat)) : a = b := by
  have l0 : (0 : Rat) < (low : Rat) := Rat.intCast_pos.mpr hl
  have h0 : (0 : Rat) < (high : Rat) := Rat.intCast_pos.mpr hh
  rw [quo_eq h0 h0] at h
  have h2 : ((a * low * high : Int) : Rat) = ((b * low * high : Int) : Rat) := by
    rw [Rat.intCast_mul, Rat.intCast_mul, Rat.intCast_mul, Rat.intCast_mul]
    exact h
  have h3 := Rat.intCast_inj.mp h2
  exact Int.eq_of_mul_eq_mul_right (by omega) (Int.eq_of_mul_eq_mul_right (by omega) h3)
theorem nf_chn {low high : Int} (hl : 0 < low) (hh : 0 < high) {s : Rat} : ∀ (t : List Pt) (k : Int) (p : Pt), 0 ≤ k → Chn k p t → (s = 0 ∨ ∃ m : Int, 13 * (k + t.length) < m ∧ s = (m : Rat) * (low : Rat) / (high : Rat)) → NF s (cn low high p) (t.map (cn low high))
  | [], k, p, _, _, _ => trivial
  | d :: t, k, p, hk, ⟨⟨g, ri, g1, g2, r1, r2, e1, e2⟩, hc⟩, hs => by
    have hlen : ((d :: t).length : Int) = t.length + 1 := by simp
    rw [hlen] at hs
    refine ⟨?_, nf_chn hl hh t (k + 1) d (by omega) hc (hs.elim .inl fun ⟨m, m1, m2⟩ => .inr ⟨m, by omega, m2⟩)⟩
    rw [sl_cn hl hh g1 e1 e2]
    intro h
    cases t with
    | nil =>
      have h : (ri : Rat) * (low : Rat) / (high : Rat) = s := h
      rcases hs with rfl | ⟨m, m1, rfl⟩
      · have : (ri : Rat) * (low : Rat) / (high : Rat) = ((0 : Int) : Rat) * (low : Rat) / (high : Rat) := by rw [h]; grind
        have := m_inj hl hh this
        omega
      · have := m_inj hl hh h
        simp at m1
        omega
    | cons e t =>
      obtain ⟨⟨g', ri', g1', g2', r1', r2', e1', e2'⟩, _⟩ := hc
      have h : (ri : Rat) * (low : Rat) / (high : Rat) = slope (cn low high d) (cn low high e) := h
      rw [sl_cn hl hh g1' e1' e2'] at h
      have := m_inj hl hh h
      omega
theorem up_chn {low high : Int} (hl : 0 < low) (hh : 0 < high) : ∀ (t : List Pt) (k : Int) (p : Pt), 0 ≤ k → Chn k p t → Ups (cn low high p) (t.map (cn low high)) ∧ Nds (cn low high p) (t.map (cn low high))
  | [], _, _, _, _ => ⟨trivial, trivial⟩
  | d :: t, k, p, hk, ⟨⟨g, ri, g1, g2, r1, r2, e1, e2⟩, hc⟩ => by
    obtain ⟨a, b⟩ := up_chn hl hh t (k + 1) d (by omega) hc
    have : 0 ≤ ri * g := Int.mul_nonneg (by omega) (by omega)
    refine ⟨⟨(dlt0 hl).mpr (by omega), a⟩, ⟨?_, b⟩⟩
    show ¬ Rat.divInt d.2 high < Rat.divInt p.2 high
    rw [dlt0 hh]
    omega
theorem sz_chn : ∀ (t : List Pt) (k : Int) (p : Pt), 0 ≤ k → k + t.length ≤ 3 → 0 ≤ p.1 ∧ p.1 ≤ k * 10 ^ 12 → 0 ≤ p.2 ∧ p.2 ≤ 10 + k * 10 ^ 14 → Chn k p t → ∀ x ∈ p :: t, 0 ≤ x.1 ∧ x.1 ≤ 10 ^ 13 ∧ 0 ≤ x.2 ∧ x.2 ≤ 10 ^ 15
  | [], k, p, h0, hk, h1, h2, _, x, hx => by
    rw [List.mem_singleton.mp hx]
    simp at hk
    omega
  | d :: t, k, p, h0, hk, h1, h2, ⟨⟨g, ri, g1, g2, r1, r2, e1, e2⟩, hc⟩, x, hx => by
    have hlen : ((d :: t).length : Int) = t.length + 1 := by simp
    rw [hlen] at hk
    rcases List.mem_cons.mp hx with e | hx
    · rw [e]; omega
    · have m0 : 0 ≤ ri * g := Int.mul_nonneg (by omega) (by omega)
      have m1 : ri * g ≤ 51 * 10 ^ 12 := Int.mul_le_mul (by omega) g2 (by omega) (by omega)
      exact sz_chn t (k + 1) d (by omega) (by omega) (by omega) (by omega) hc x hx
theorem sm_div {t b : Int} (t0 : 0 ≤ t) (tb : t < 10 ^ 40) (b0 : 0 < b) (bb : b < 10 ^ 10) : Sm (Rat.divInt t b) := by
  obtain ⟨h1, h2⟩ := div_pos_parts t b b0
  have hg : 0 < ((Int.gcd t b : Nat) : Int) := by
    have : Int.gcd t b ≠ 0 := fun h => by
      have := (Int.gcd_eq_zero_iff.mp h).2
      omega
    omega
  rw [Int.fdiv_eq_ediv_of_nonneg _ (by omega)] at h1 h2
  have n1 : 0 ≤ t / (Int.gcd t b : Nat) := Int.ediv_nonneg t0 (by omega)
  have n2 : t / (Int.gcd t b : Nat) ≤ t := Int.ediv_le_self _ t0
  have n3 : b / (Int.gcd t b : Nat) ≤ b := Int.ediv_le_self _ (by omega)
  rw [h1] at n1 n2
  rw [h2] at n3
  exact ⟨n1, by omega, by omega⟩
theorem cb_loop (n : Nat) (ns : List Int) (low high : Int) (hl : 0 < low ∧ low ≤ 12) (hh : 0 < high ∧ high ≤ 12) : ∀ (m : Nat) (i a v : Int) (acc : List Cn) (e6 e7 e8 e9 : Option Dv), 0 ≤ i → i + m ≤ 3 → 0 ≤ a ∧ a ≤ i * 10 ^ 12 → 0 ≤ v ∧ v ≤ 10 + i * 10 ^ 14 → acc.length + m ≤ 10 → ∃ (l : List Pt) (a' v' : Int) (f6 f7 f8 f9 : Option Dv),
    foP (runTP T (n + 1)) 6 B__law_curve_by_1 (stepsP i 1 m) [some (.scr (ns.map Dv.int)), some (.int low), some (.int high), some (.int a), some (.int v), some (.own (acc.map dC)), e6, e7, e8, e9] = .nx [some (.scr (ns.map Dv.int)), some (.int low), some (.int high), some (.int a'), some (.int v'), some (.own ((acc ++ l.map (cn low high)).map dC)), f6, f7, f8, f9] ∧ l.length = m ∧ Chn i (a, v) l
  | 0, i, a, v, acc, e6, e7, e8, e9, _, _, _, _, _ => ⟨[], a, v, e6, e7, e8, e9, by simp only [ME_, stepsP, List.map_nil, List.append_nil], rfl, trivial⟩
  | m + 1, i, a, v, acc, e6, e7, e8, e9, hi, him, ha, hv, hacc => by
    have c1 := r_bcell n ns (8 + i) (by omega)
    obtain ⟨c, hc⟩ : ∃ c, c = cellB ns (8 + i) := ⟨_, rfl⟩
    rw [← hc] at c1
    have d5 : divOk c 5 := divOk_s _ _ ⟨by decide, by decide⟩
    have f5 := fdp c (k := 5) (by omega)
    have d12 : divOk c 12 := divOk_s _ _ ⟨by decide, by decide⟩
    have f12 := fdp c (k := 12) (by omega)
    have m13 : mulOk 13 i := mulOk_small' (by decide)
    have hal : acc.length < LIM := by unfold LIM; omega
    obtain ⟨ri, hri⟩ : ∃ ri, ri = 1 + 13 * i + c / 12 % 12 := ⟨_, rfl⟩
    have step : ∀ g : Int, 1 ≤ g ∧ g ≤ 10 ^ 12 → ∃ (l : List Pt) (a' v' : Int) (f6 f7 f8 f9 : Option Dv), foP (runTP T (n + 1)) 6 B__law_curve_by_1 (stepsP (i + 1) 1 m) [some (.scr (ns.map Dv.int)), some (.int low), some (.int high), some (.int (a + g)), some (.int (v + ri * g)), some (.own ((acc ++ [cn low high (a + g, v + ri * g)]).map dC)), some (.int i), some (.int c), some (.int g), some (.int ri)] = .nx [some (.scr (ns.map Dv.int)), some (.int low), some (.int high), some (.int a'), some (.int v'), some (.own ((acc ++ l.map (cn low high)).map dC)), f6, f7, f8, f9] ∧ l.length = m + 1 ∧ Chn i (a, v) l ∧ runTP T (n + 1) "_law_lowest" [.int (a + g), .int low] = .ok (dR (Rat.divInt (a + g) low)) ∧ runTP T (n + 1) "_law_lowest" [.int (v + ri * g), .int high] = .ok (dR (Rat.divInt (v + ri * g) high)) ∧ mulOk ri g := fun g hg => by
      have m0 : 0 ≤ ri * g := Int.mul_nonneg (by omega) (by omega)
      have m1 : ri * g ≤ 51 * 10 ^ 12 := Int.mul_le_mul (by omega) hg.2 (by omega) (by omega)
      obtain ⟨l, a', v', f6, f7, f8, f9, q1, q2, q3⟩ := cb_loop n ns low high hl hh m (i + 1) (a + g) (v + ri * g) (acc ++ [cn low high (a + g, v + ri * g)]) (some (.int i)) (some (.int c)) (some (.int g)) (some (.int ri)) (by omega) (by omega) (by omega) (by omega) (by simp; omega)
      refine ⟨(a + g, v + ri * g) :: l, a', v', f6, f7, f8, f9, ?_, by simp [q2], ⟨⟨g, ri, hg.1, hg.2, by omega, by omega, rfl, rfl⟩, q3⟩, ?_, ?_, mulOk_small (by omega)⟩
      · rw [q1, List.append_assoc]
        rfl
      · exact r_lowest n _ _ hl.1 (up_lt (k := 100) (by omega) (le_big (by decide))) (up_lt (k := 100) (by omega) (le_big (by decide)))
      · exact r_lowest n _ _ hh.1 (up_lt (k := 100) (by omega) (le_big (by decide))) (up_lt (k := 100) (by omega) (le_big (by decide)))
    by_cases h3 : c % 5 = 3
    · obtain ⟨l, a', v', f6, f7, f8, f9, q1, q2, q3, q4, q5, q6⟩ := step (1 + c / 5 % 1000000000000) (by omega)
      refine ⟨l, a', v', f6, f7, f8, f9, ?_, q2, q3⟩
      rw [← q1]
      have ec : dC (Rat.divInt (a + (1 + c / 5 % 1000000000000)) low, Rat.divInt (v + ri * (1 + c / 5 % 1000000000000)) high) = dC (cn low high (a + (1 + c / 5 % 1000000000000), v + ri * (1 + c / 5 % 1000000000000))) := rfl
      simp only [MC_, stepsP, fo_cons, VB__law_curve_by_1, c1, fmp, h3, d5, f5, pp_12, d12, f12, m13, ← hri, q4, q5, q6, ec, List.length_map, hal, List.map_append, List.map_cons, List.map_nil]
    · obtain ⟨l, a', v', f6, f7, f8, f9, q1, q2, q3, q4, q5, q6⟩ := step (1 + c % 12) (by omega)
      refine ⟨l, a', v', f6, f7, f8, f9, ?_, q2, q3⟩
      rw [← q1]
      have ec : dC (Rat.divInt (a + (1 + c % 12)) low, Rat.divInt (v + ri * (1 + c % 12)) high) = dC (cn low high (a + (1 + c % 12), v + ri * (1 + c % 12))) := rfl
      simp only [MC_, stepsP, fo_cons, VB__law_curve_by_1, c1, fmp, h3, d5, f5, pp_12, d12, f12, m13, ← hri, q4, q5, q6, ec, List.length_map, hal, List.map_append, List.map_cons, List.map_nil]

end Q
namespace Q
open PySem MP FP
theorem r_curve_by (n : Nat) (ns : List Int) : ∃ c r s, runTP T (n + 3) "_law_curve_by" [.scr (ns.map Dv.int)] = .ok (.tup [.lst ((c :: r).map dC), dR s]) ∧ D51 c r s := by
  rw [runTP_succ T__law_curve_by]
  have c1 := r_bcell (n + 1) ns 1 (by decide)
  have c2 := r_bcell (n + 1) ns 2 (by decide)
  have c3 := r_bcell (n + 1) ns 3 (by decide)
  have c4 := r_bcell (n + 1) ns 4 (by decide)
  have c6 := r_bcell (n + 1) ns 6 (by decide)
  obtain ⟨low, hlow⟩ : ∃ x, x = 1 + cellB ns 1 % 12 := ⟨_, rfl⟩
  obtain ⟨high, hhigh⟩ : ∃ x, x = 1 + cellB ns 2 % 12 := ⟨_, rfl⟩
  obtain ⟨v, hv⟩ : ∃ x, x = cellB ns 3 % 5 := ⟨_, rfl⟩
  obtain ⟨m, hm⟩ : ∃ m : Nat, cellB ns 4 / 3 % 4 = (m : Int) := ⟨(cellB ns 4 / 3 % 4).toNat, by omega⟩
  have d3 : divOk (cellB ns 4) 3 := divOk_s _ _ ⟨by decide, by decide⟩
  have f3 := fdp (cellB ns 4) (k := 3) (by omega)
  have rl := r_lowest (n + 1) v high (by omega) (up_lt (k := 100) (by omega) (le_big (by decide))) (up_lt (k := 100) (by omega) (le_big (by decide)))
  have hr := rng0 m (by omega)
  obtain ⟨l, a', v', f6, f7, f8, f9, q1, q2, q3⟩ := cb_loop (n + 1) ns low high (by omega) (by omega) m 0 0 v [cn low high (0, v)] none none none none (by omega) (by omega) (by omega) (by omega) (by simp; omega)
  have e0 : dC (cn low high (0, v)) = dC (0, Rat.divInt v high) := by
    unfold cn
    rw [Rat.zero_divInt]
  have ups := up_chn (low := low) (high := high) (by omega) (by omega) l 0 (0, v) (by omega) q3
  have szs := sz_chn l 0 (0, v) (by omega) (by omega) ⟨by show (0 : Int) ≤ 0; omega, by show (0 : Int) ≤ _; omega⟩ ⟨by show 0 ≤ v; omega, by show v ≤ _; omega⟩ q3
  have sm : ∀ x ∈ cn low high (0, v) :: l.map (cn low high), Sm x.1 ∧ Sm x.2 := fun x hx => by
    rw [← List.map_cons] at hx
    obtain ⟨p, hp, rfl⟩ := List.mem_map.mp hx
    obtain ⟨a1, a2, a3, a4⟩ := szs p hp
    exact ⟨sm_div a1 (by omega) (by omega) (by omega), sm_div a3 (by omega) (by omega) (by omega)⟩
  have c0 : (cn low high (0, v)).1 = 0 := Rat.zero_divInt _
  have mk : ∀ s : Rat, Tf s → (s = 0 ∨ ∃ m : Int, 13 * (0 + l.length) < m ∧ s = (m : Rat) * (low : Rat) / (high : Rat)) → D51 (cn low high (0, v)) (l.map (cn low high)) s := fun s hs h => ⟨sm, hs, by rw [List.length_map]; omega, ups.1, ups.2, c0, nf_chn (by omega) (by omega) l 0 (0, v) (by omega) q3 h⟩
  rw [List.map_cons, List.map_nil, e0] at q1
  have any1 : ((cn low high (0, v) :: l.map (cn low high)).map dC).any (lsF 12) = false := any_C
  have eF : [cn low high (0, v)] ++ l.map (cn low high) = cn low high (0, v) :: l.map (cn low high) := rfl
  rw [eF] at q1
  by_cases h4 : cellB ns 4 % 3 = 0
  · refine ⟨cn low high (0, v), l.map (cn low high), 0, ?_, mk 0 ⟨by decide, by decide, by decide⟩ (.inl rfl)⟩
    generalize (cn low high (0, v) :: l.map (cn low high)).map dC = G at *
    unfold F__law_curve_by
    simp only [MC_, c1, c2, c3, c4, fmp, ← hlow, ← hhigh, ← hv, rl, d3, f3, hm, hr, any_steps, q1, h4]
  · obtain ⟨k, hk⟩ : ∃ k, k = 100 + cellB ns 6 % 1000000000000 := ⟨_, rfl⟩
    have m1 : mulOk k low := mulOk_small (by omega)
    have k0 : 0 ≤ k * low := Int.mul_nonneg (by omega) (by omega)
    have k1 : k * low ≤ (10 ^ 13) * 12 := Int.mul_le_mul (by omega) (by omega) (by omega) (by omega)
    have rs := r_lowest (n + 1) (k * low) high (by omega) (up_lt (k := 100) (by omega) (le_big (by decide))) (up_lt (k := 100) (by omega) (le_big (by decide)))
    refine ⟨cn low high (0, v), l.map (cn low high), Rat.divInt (k * low) high, ?_, mk _ (tf_div k0 (by omega) (by omega) (by omega)) (.inr ⟨k, by omega, by rw [Rat.divInt_eq_div, Rat.intCast_mul]⟩)⟩
    generalize (cn low high (0, v) :: l.map (cn low high)).map dC = G at *
    unfold F__law_curve_by
    simp only [MC_, c1, c2, c3, c4, c6, fmp, ← hlow, ← hhigh, ← hv, rl, d3, f3, hm, hr, any_steps, q1, h4, pp_12, ← hk, m1, rs]

end Q
namespace Q
open PySem MP FP
theorem sbt0 : isSub "NoText" "CurveError" = true := by decide
theorem sbt1 : isSub "NoText" "NoText" = true := by decide
theorem sbt2 : isSub "NoText" "ValueError" = true := by decide
theorem sbt3 : isSub "NoText" "NoCurve" = false := by decide
theorem sbt4 : isSub "NoText" "NoEnd" = false := by decide
theorem sbt5 : isSub "NoText" "NoHouse" = false := by decide
theorem sbt6 : isSub "NoText" "NoName" = false := by decide
theorem sbt7 : isSub "NoText" "NoRatio" = false := by decide
theorem sbt8 : isSub "NoText" "NoRow" = false := by decide
theorem sbt9 : isSub "NoText" "NoTime" = false := by decide
theorem sbt10 : isSub "NoText" "NoWay" = false := by decide
theorem kl_nf (s : Rat) : ∀ (c : Cn) (r : List Cn), NF s c r → kl s c r = r
  | c, [], _ => rfl
  | c, d :: r, h => by
    show (if slope c d = behind d r s then kl s d r else d :: kl s d r) = d :: r
    rw [if_neg h.1, kl_nf s d r h.2]
theorem r_lshown (n : Nat) (q : Rat) (h : Tf q) : runTP T (n + 1) "_law_shown" [dR q] = .ok (.str (shT q)) := by
  rw [runTP_succ T__law_shown]
  unfold shT
  have e1 : q.num = ((q.num.natAbs : Nat) : Int) := by have := h.n0; omega
  have s1 := i_strn h.n
  rw [← e1] at s1
  have s2 := i_strn h.d
  have l1 := nT_len h.n
  have l2 := nT_len h.d
  have a1 : (nT q.num.natAbs).length + ("/" : Str).length ≤ LIM := by rw [len1_slash]; unfold LIM; omega
  have a2 : (nT q.num.natAbs ++ ("/" : Str)).length + (nT q.den).length ≤ LIM := by rw [str_len_append, len1_slash]; unfold LIM; omega
  unfold F__law_shown
  by_cases hd : q.den = 1
  · have hd' : (q.den : Int) = 1 := by omega
    rw [if_pos hd]
    simp only [MR_, hd', s1]
  · have hd' : ¬ (q.den : Int) = 1 := by omega
    rw [if_neg hd]
    simp only [MR_, hd', s1, s2, a1, a2]
theorem r_lshown_c (n : Nat) (cs : List Cn) (s : Rat) (h : ∀ x ∈ cs, TfC x) (hs : Tf s) (hl : cs.length ≤ 1000) : runTP T (n + 2) "_law_shown_corners" [.lst (cs.map dC), dR s] = .ok (.str (shC cs s)) := by
  rw [runTP_succ T__law_shown_corners]
  have hlc : ∀ σ : Ev, σ.length = 4 → lcQ (runTP T (n + 1)) 2 C__law_shown_corners_1 E__law_shown_corners_1 σ (cs.map dC) = .ok ((cs.map wC).map Dv.str) := fun σ h1 => by
    rw [List.map_map]
    refine lc_map dC (fun x => Dv.str (wC x)) cs (fun x hx => ?_) (fun x hx => ?_)
    · simp only [MC_, VC__law_shown_corners_1]
    · have s1 := r_lshown n x.1 (h x hx).1
      have s2 := r_lshown n x.2 (h x hx).2
      have l1 := shT_len (h x hx).1
      have l2 := shT_len (h x hx).2
      have a1 : (shT x.1).length + (":" : Str).length ≤ LIM := by rw [len1_colon]; unfold LIM; omega
      have a2 : (shT x.1 ++ (":" : Str)).length + (shT x.2).length ≤ LIM := by rw [str_len_append, len1_colon]; unfold LIM; omega
      have ew : shT x.1 ++ (":" : Str) ++ shT x.2 = wC x := rfl
      match σ, h1 with
      | [o0, o1, o2, o3], _ => simp only [MC_, VE__law_shown_corners_1, s1, s2, a1, a2, ew]
  have s1 := r_lshown n s hs
  have l2 := shT_len hs
  have a1 : ("+" : Str).length + (shT s).length ≤ LIM := by rw [len1_plus]; unfold LIM; omega
  have ew : ("+" : Str) ++ shT s = wS s := rfl
  have hj : tmP .join (.str " ") [.lst ((wsC cs s).map Dv.str)] = .ok (.str (shC cs s)) := by
    rw [tm_joinL, if_pos]
    · rfl
    · have := wsC_sum cs s h hs
      rw [wsC_len, len1_blank]
      unfold LIM
      omega
  have em : (wsC cs s).map Dv.str = (cs.map wC).map Dv.str ++ [.str (wS s)] := by unfold wsC; rw [List.map_append]; rfl
  rw [em] at hj
  have hany : ((cs.map wC).map Dv.str).any (lsF 12) = false := any_f (fun _ => rfl) _
  have hll : cs.length ≤ LIM := by unfold LIM; omega
  have hl1 : cs.length + 1 ≤ LIM := by unfold LIM; omega
  unfold F__law_shown_corners
  simp only [MC_, hlc, List.length_map, hll, hl1, hany, s1, a1, ew, hj]
/-- the text of a curve is read -/
theorem rc_good (n : Nat) (c : Cn) (r : List Cn) (s : Rat) (h : ∀ x ∈ c :: r, TfC x) (hs : Tf s) (hl : r.length ≤ 60) (hu : Ups c r) (hd : Nds c r) (h0 : c.1 = 0) : runTP T (n + 9) "read_curve" [.str (shC (c :: r) s)] = .ok (dF (c :: kl s c r) s) := by
  rw [runTP_succ T_read_curve]
  have hc := r_curve n (.lst ((c :: r).map dC)) c r s Sq.lst (fun x hx => tf_cz (h x hx)) (by omega) hu hd h0 (tf_nn (h c List.mem_cons_self).2) ((tf_rb hs).sz (by decide)) (tf_nn hs)
  have hlen := shC_len (c :: r) s h hs
  have hz : (shC (c :: r) s).length ≤ LIM := by unfold LIM; simp at hlen; omega
  have hw : (wsC (c :: r) s).length ≤ LIM := by rw [wsC_len]; unfold LIM; simp; omega
  have ew : (wsC (c :: r) s).map Dv.str = ((c :: r).map wC).map Dv.str ++ [.str (wS s)] := by unfold wsC; rw [List.map_append]; rfl
  have es : tmP .split (.str (shC (c :: r) s)) [.str " "] = .ok (.own (((c :: r).map wC).map Dv.str ++ [.str (wS s)])) := by
    rw [tm_split, if_pos ⟨lenb_blank, hz⟩, shC_split, allocP, if_pos (by rw [List.length_map]; exact hw), ew]
  have hany : (((c :: r).map wC).map Dv.str ++ [Dv.str (wS s)]).any (lsF 12) = false := by
    rw [← ew]
    exact any_f (fun _ => rfl) _
  have hany2 : (((c :: r).map wC).map Dv.str).any (lsF 12) = false := any_f (fun _ => rfl) _
  have e1 : L2.atI (((c :: r).map wC).map Dv.str ++ [Dv.str (wS s)]) (-1) = some (.str (wS s)) := at_m1
  have e2 : tmP .startswith (.str (wS s)) [.str "+"] = .ok (.bl true) := by rw [tm_starts, sw_wS]
  have e3 : cut (((c :: r).map wC).map Dv.str ++ [Dv.str (wS s)]) none (some (-1)) = ((c :: r).map wC).map Dv.str := by
    rw [tcut_dropLast, List.dropLast_concat]
  have hlx := fun σ h6 => (lc_words (n + 3) ((c :: r).map wC) (fun x hx => by
    obtain ⟨y, hy, rfl⟩ := List.mem_map.mp hx
    exact (wC_wd (h y hy)).1) σ h6).2 (c :: r) (by
    rw [List.map_map]
    exact List.map_congr_left fun x hx => dueC_wC (h x hx))
  have hr := r_read_shown (n + 4) s hs
  have hwl : (wS s).length ≤ LIM := by have := wS_len hs; unfold LIM; omega
  have hcs := cutS_wS s
  have hcl : (c :: r).length ≤ LIM := by unfold LIM; simp; omega
  have hWl : (((c :: r).map wC).map Dv.str).length ≤ LIM := by rw [List.length_map, List.length_map]; exact hcl
  generalize ((c :: r).map wC).map Dv.str = WW at *
  generalize c :: kl s c r = KK at *
  generalize c :: r = C at *
  unfold F_read_curve
  simp only [MC_, t_str, es, hany, hany2, e1, e2, e3, hWl, hlx, hcl, List.length_map, hwl, hcs, hr, hc, List.length_cons, List.length_nil]
theorem r_ref (n : Nat) {X : Dv} (h : Bd X) : runTP T (n + 10) "_law_refused" [X] = .ok (.bl true) := by
  have rd : runTP T (n + 9) "read_curve" [X] = .exc "NoText" := by
    rcases h with ⟨z, rfl, hz⟩ | h
    · exact hz n
    · rw [runTP_succ T_read_curve]
      have s1 : (Ty.str == Ty.int) = false := by decide
      have s2 : (Ty.str == Ty.bool) = false := by decide
      have s3 : (Ty.str == Ty.list) = false := by decide
      have s4 : (Ty.str == Ty.tuple) = false := by decide
      rcases h with rfl | rfl | rfl | ⟨l, rfl⟩ | ⟨l, hll, rfl⟩ <;> (unfold F_read_curve; simp only [MC_, s1, s2, s3, s4, Bool.or_false, Bool.false_eq_true, if_false, ite_false])
  rw [runTP_succ T__law_refused]
  rcases h with ⟨z, rfl, _⟩ | rfl | rfl | rfl | ⟨l, rfl⟩ | ⟨l, hll, rfl⟩ <;> (unfold F__law_refused; simp only [ME_, rd, sbt0, sbt1, sbt2, sbt3, sbt4, sbt5, sbt6, sbt7, sbt8, sbt9, sbt10])
theorem Bd.frz {X : Dv} (h : Bd X) : frz X = X ∧ inL X = inL X ∧ getP (some (some X)) = .ok X := by
  rcases h with ⟨z, rfl, _⟩ | rfl | rfl | rfl | ⟨l, rfl⟩ | ⟨l, hll, rfl⟩ <;> exact ⟨rfl, rfl, rfl⟩
theorem main (ns : List Int) (h : ns.length ≤ 63) : runTP T (20 + 1) "law" [.scr (ns.map Dv.int)] = .ok (.bl true) := by
  rw [runTP_succ T_law]
  have c0 := r_bcell 19 ns 0 (by decide)
  have c5 := r_bcell 19 ns 5 (by decide)
  have c7 := r_bcell 19 ns 7 (by decide)
  obtain ⟨c, r, s, q1, D⟩ := r_curve_by 17 ns
  have len := D.len
  have q2 := r_lshown_c 18 (c :: r) s D.tf D.sf (by simp; omega)
  have q3 := rc_good 11 c r s D.tf D.sf (by omega) D.up D.nd D.c0
  rw [kl_nf s c r D.nf] at q3
  obtain ⟨way, hway⟩ : ∃ way, way = cellB ns 0 % 12 := ⟨_, rfl⟩
  obtain ⟨place, hplace⟩ : ∃ place, place = cellB ns 5 := ⟨_, rfl⟩
  obtain ⟨sign, hsign⟩ : ∃ sign, sign = cellB ns 7 := ⟨_, rfl⟩
  have hpre : runP (runTP T 20) (takeS 6 F_law.body) [some (.scr (ns.map Dv.int)), none, none, none, none, none, none, none] = .nx [some (.scr (ns.map Dv.int)), some (.int way), some (.int place), some (.tup [.lst ((c :: r).map dC), dR s]), some (.lst ((c :: r).map dC)), some (dR s), some (.str (shC (c :: r) s)), none] := by
    generalize (c :: r).map dC = C at *
    generalize shC (c :: r) s = Z at *
    unfold F_law
    simp only [MC_, takeS_s, takeS, c0, fmp, ← hway, c5, ← hplace, q1, q2]
  rw [runFP_cut 6 rfl]
  show ofP ((runP (runTP T 20) (takeS 6 F_law.body) [some (.scr (ns.map Dv.int)), none, none, none, none, none, none, none]).then fun σ => runP (runTP T 20) (dropS 6 F_law.body) σ) = _
  rw [hpre, Op.then_nx]
  have ef : eqP (dF (c :: r) s) (dF (c :: r) s) id = .ok (.bl true) := by rw [ep_F, decide_eq_true rfl]
  by_cases hw : 3 ≤ way ∧ way < 6
  · obtain ⟨c', r', p1, p2, p3, p4⟩ := r_cs 18 D way place hw
    have q4 := r_lshown_c 18 (c' :: r') s p2 D.sf (by simp; omega)
    have q5 := r_ref 10 (.inl ⟨shC (c' :: r') s, rfl, bad_cs p2 D.sf (by omega) p4⟩)
    have any2 : ((c' :: r').map dC).any (lsF 12) = false := any_C
    obtain ⟨w1, w2⟩ := hw
    generalize (c' :: r').map dC = C' at *
    generalize shC (c' :: r') s = Z' at *
    generalize c :: r = C at *
    unfold F_law
    simp only [MC_, dropS_s, dropS, w1, w2, p1, q4, q5, q3, F_eta, ef]
  · have hlen := shC_len (c :: r) s D.tf D.sf
    have hz : (shC (c :: r) s).length ≤ LIM := by unfold LIM; simp at hlen; omega
    have wl := wsC_len (c :: r) s
    have hwl : ((wsC (c :: r) s).map Dv.str).length ≤ LIM := by rw [List.length_map, wl]; unfold LIM; simp; omega
    have es : tmP .split (.str (shC (c :: r) s)) [.str " "] = .ok (.own ((wsC (c :: r) s).map Dv.str)) := by
      rw [tm_split, if_pos ⟨lenb_blank, hz⟩, shC_split, allocP, if_pos hwl]
    obtain ⟨k, hk⟩ : ∃ k : Nat, place % ((wsC (c :: r) s).length : Int) = (k : Int) := ⟨(place % ((wsC (c :: r) s).length : Int)).toNat, (Int.toNat_of_nonneg (Int.emod_nonneg _ (by rw [wl]; omega))).symm⟩
    have hkl : k < (wsC (c :: r) s).length := by
      have := Int.emod_lt_of_pos place (b := ((wsC (c :: r) s).length : Int)) (by rw [wl]; omega)
      omega
    obtain ⟨A, B, w, S, hA⟩ := SpW.mk' D.tf D.sf (by omega) k hkl
    obtain ⟨X, x1, x2⟩ := r_ts 19 S way place sign ⟨by omega, by omega, hw⟩ (by rw [hk, hA])
    have q5 := r_ref 10 x2
    have any2 : ((wsC (c :: r) s).map Dv.str).any (lsF 12) = false := any_f (fun _ => rfl) _
    have ef2 : eqP (dF (c :: r) s) (Dv.tup [.tup ((c :: r).map dC), dR s]) id = .ok (.bl true) := ef
    generalize (wsC (c :: r) s).map Dv.str = W at *
    generalize shC (c :: r) s = Z at *
    generalize (c :: r).map dC = CC at *
    by_cases w1 : 3 ≤ way
    · have w2 : ¬ way < 6 := fun z => hw ⟨w1, z⟩
      rcases x2 with ⟨z, rfl, _⟩ | rfl | rfl | rfl | ⟨l, rfl⟩ | ⟨l, hll, rfl⟩ <;> (unfold F_law; first | simp only [MC_, dropS_s, dropS, w1, w2, es, any2, c7, ← hsign, x1, q5, q3, ef2, hll] | simp only [MC_, dropS_s, dropS, w1, w2, es, any2, c7, ← hsign, x1, q5, q3, ef2])
    · rcases x2 with ⟨z, rfl, _⟩ | rfl | rfl | rfl | ⟨l, rfl⟩ | ⟨l, hll, rfl⟩ <;> (unfold F_law; first | simp only [MC_, dropS_s, dropS, w1, es, any2, c7, ← hsign, x1, q5, q3, ef2, hll] | simp only [MC_, dropS_s, dropS, w1, es, any2, c7, ← hsign, x1, q5, q3, ef2])

end Q
namespace Q
open PySem PySem.Spec PyProof.Rows L2 MP
def topS (i : Nat) : Stmt := PySem.Challenge.pw_curvehouse_k51_no_curves_texts.main.body.getD i (.Pass ⟨0, 0, 0, 0⟩)
def ct : CT := { fns := ["is_whole", "divisor", "ratio", "minus", "over", "under", "slope_between", "slopes_of", "folded", "made", "curve", "read_figures", "read_ratio", "read_corner", "_law_cell_at", "_law_lowest", "_law_shown", "_law_shown_corners", "_law_curve_by", "_law_more", "_law_corners_spoiled", "_law_text_spoiled"], dirty := ["read_curve", "_law_refused", "law"], cst := [("NOUGHT", (.tup (.cons (.int 0) (.cons (.int 1) .nil)))), ("FIGURES", (.str "0123456789")), ("MOST_FIGURES", (.int 60))], cls := ["CurveError", "NoRatio", "NoCurve", "NoTime", "NoHouse", "NoWay", "NoText", "NoName", "NoEnd", "NoRow"], bt := ["abs", "len", "int", "str", "tuple", "isinstance", "bool", "range", "ValueError"], rs := ["NoRatio", "NoCurve", "NoText"] }
theorem sc_is_whole : FnScope ["thing"] ["thing"] (defScope (topS 12)) := ⟨rfl, rfl, rfl, by decide +kernel, rfl, by decide +kernel, by decide +kernel⟩
theorem bd_is_whole : F_is_whole.body = compD ct ["thing"] (defScope (topS 12)) (defBody (topS 12)) := by decide +kernel
theorem sc_divisor : FnScope ["one", "other", "rest"] ["one", "other"] (defScope (topS 13)) := ⟨rfl, rfl, rfl, by decide +kernel, rfl, by decide +kernel, by decide +kernel⟩
theorem bd_divisor : F_divisor.body = compD ct ["one", "other", "rest"] (defScope (topS 13)) (defBody (topS 13)) := by decide +kernel
theorem sc_ratio : FnScope ["top", "bottom", "many"] ["top", "bottom"] (defScope (topS 16)) := ⟨rfl, rfl, rfl, by decide +kernel, rfl, by decide +kernel, by decide +kernel⟩
theorem bd_ratio : F_ratio.body = compD ct ["top", "bottom", "many"] (defScope (topS 16)) (defBody (topS 16)) := by decide +kernel
theorem sc_minus : FnScope ["one", "other"] ["one", "other"] (defScope (topS 17)) := ⟨rfl, rfl, rfl, by decide +kernel, rfl, by decide +kernel, by decide +kernel⟩
theorem bd_minus : F_minus.body = compD ct ["one", "other"] (defScope (topS 17)) (defBody (topS 17)) := by decide +kernel
theorem sc_over : FnScope ["one", "other"] ["one", "other"] (defScope (topS 18)) := ⟨rfl, rfl, rfl, by decide +kernel, rfl, by decide +kernel, by decide +kernel⟩
theorem bd_over : F_over.body = compD ct ["one", "other"] (defScope (topS 18)) (defBody (topS 18)) := by decide +kernel
theorem sc_under : FnScope ["one", "other"] ["one", "other"] (defScope (topS 19)) := ⟨rfl, rfl, rfl, by decide +kernel, rfl, by decide +kernel, by decide +kernel⟩
theorem bd_under : F_under.body = compD ct ["one", "other"] (defScope (topS 19)) (defBody (topS 19)) := by decide +kernel
theorem sc_slope_between : FnScope ["one", "other"] ["one", "other"] (defScope (topS 21)) := ⟨rfl, rfl, rfl, by decide +kernel, rfl, by decide +kernel, by decide +kernel⟩
theorem bd_slope_between : F_slope_between.body = compD ct ["one", "other"] (defScope (topS 21)) (defBody (topS 21)) := by decide +kernel
theorem sc_slopes_of : FnScope ["corners", "last", "slopes", "k"] ["corners", "last"] (defScope (topS 22)) := ⟨rfl, rfl, rfl, by decide +kernel, rfl, by decide +kernel, by decide +kernel⟩
theorem bd_slopes_of : F_slopes_of.body = compD ct ["corners", "last", "slopes", "k"] (defScope (topS 22)) (defBody (topS 22)) := by decide +kernel
theorem sc_folded : FnScope ["corners", "last", "slopes", "kept", "k"] ["corners", "last"] (defScope (topS 23)) := ⟨rfl, rfl, rfl, by decide +kernel, rfl, by decide +kernel, by decide +kernel⟩
theorem bd_folded : F_folded.body = compD ct ["corners", "last", "slopes", "kept", "k"] (defScope (topS 23)) (defBody (topS 23)) := by decide +kernel
theorem sc_made : FnScope ["corners", "last"] ["corners", "last"] (defScope (topS 24)) := ⟨rfl, rfl, rfl, by decide +kernel, rfl, by decide +kernel, by decide +kernel⟩
theorem bd_made : F_made.body = compD ct ["corners", "last"] (defScope (topS 24)) (defBody (topS 24)) := by decide +kernel
theorem sc_curve : FnScope ["corners", "last", "k"] ["corners", "last"] (defScope (topS 25)) := ⟨rfl, rfl, rfl, by decide +kernel, rfl, by decide +kernel, by decide +kernel⟩
theorem bd_curve : F_curve.body = compD ct ["corners", "last", "k"] (defScope (topS 25)) (defBody (topS 25)) := by decide +kernel
theorem sc_read_figures : FnScope ["text", "sign"] ["text"] (defScope (topS 29)) := ⟨rfl, rfl, rfl, by decide +kernel, rfl, by decide +kernel, by decide +kernel⟩
theorem bd_read_figures : F_read_figures.body = compD ct ["text", "sign"] (defScope (topS 29)) (defBody (topS 29)) := by decide +kernel
theorem sc_read_ratio : FnScope ["text", "parts", "top", "bottom"] ["text"] (defScope (topS 30)) := ⟨rfl, rfl, rfl, by decide +kernel, rfl, by decide +kernel, by decide +kernel⟩
theorem bd_read_ratio : F_read_ratio.body = compD ct ["text", "parts", "top", "bottom"] (defScope (topS 30)) (defBody (topS 30)) := by decide +kernel
theorem sc_read_corner : FnScope ["word", "parts"] ["word"] (defScope (topS 31)) := ⟨rfl, rfl, rfl, by decide +kernel, rfl, by decide +kernel, by decide +kernel⟩
theorem bd_read_corner : F_read_corner.body = compD ct ["word", "parts"] (defScope (topS 31)) (defBody (topS 31)) := by decide +kernel
theorem sc_read_curve : FnScope ["text", "words", "word", "corners", "last", "found"] ["text"] (defScope (topS 32)) := ⟨rfl, rfl, rfl, by decide +kernel, rfl, by decide +kernel, by decide +kernel⟩
theorem bd_read_curve : F_read_curve.body = compB (compX ct ["text", "words", "word", "corners", "last", "found"] (defScope (topS 32))) (defBody (topS 32)) := by decide +kernel
theorem sc__law_cell_at : FnScope ["_law_script", "_law_k"] ["_law_script", "_law_k"] (defScope (topS 34)) := ⟨rfl, rfl, rfl, by decide +kernel, rfl, by decide +kernel, by decide +kernel⟩
theorem bd__law_cell_at : F__law_cell_at.body = compD ct ["_law_script", "_law_k"] (defScope (topS 34)) (defBody (topS 34)) := by decide +kernel
theorem sc__law_lowest : FnScope ["_law_top", "_law_bottom", "_law_one", "_law_other", "_law_rest"] ["_law_top", "_law_bottom"] (defScope (topS 35)) := ⟨rfl, rfl, rfl, by decide +kernel, rfl, by decide +kernel, by decide +kernel⟩
theorem bd__law_lowest : F__law_lowest.body = compD ct ["_law_top", "_law_bottom", "_law_one", "_law_other", "_law_rest"] (defScope (topS 35)) (defBody (topS 35)) := by decide +kernel
theorem sc__law_shown : FnScope ["_law_one"] ["_law_one"] (defScope (topS 36)) := ⟨rfl, rfl, rfl, by decide +kernel, rfl, by decide +kernel, by decide +kernel⟩
theorem bd__law_shown : F__law_shown.body = compD ct ["_law_one"] (defScope (topS 36)) (defBody (topS 36)) := by decide +kernel
theorem sc__law_shown_corners : FnScope ["_law_corners", "_law_last", "_law_corner", "_law_words"] ["_law_corners", "_law_last"] (defScope (topS 38)) := ⟨rfl, rfl, rfl, by decide +kernel, rfl, by decide +kernel, by decide +kernel⟩
theorem bd__law_shown_corners : F__law_shown_corners.body = compD ct ["_law_corners", "_law_last", "_law_corner", "_law_words"] (defScope (topS 38)) (defBody (topS 38)) := by decide +kernel
theorem sc__law_curve_by : FnScope ["_law_script", "_law_low", "_law_high", "_law_at", "_law_value", "_law_corners", "_law_k", "_law_cell", "_law_gap", "_law_rise"] ["_law_script"] (defScope (topS 39)) := ⟨rfl, rfl, rfl, by decide +kernel, rfl, by decide +kernel, by decide +kernel⟩
theorem bd__law_curve_by : F__law_curve_by.body = compD ct ["_law_script", "_law_low", "_law_high", "_law_at", "_law_value", "_law_corners", "_law_k", "_law_cell", "_law_gap", "_law_rise"] (defScope (topS 39)) (defBody (topS 39)) := by decide +kernel
theorem sc__law_more : FnScope ["_law_one"] ["_law_one"] (defScope (topS 40)) := ⟨rfl, rfl, rfl, by decide +kernel, rfl, by decide +kernel, by decide +kernel⟩
theorem bd__law_more : F__law_more.body = compD ct ["_law_one"] (defScope (topS 40)) (defBody (topS 40)) := by decide +kernel
theorem sc__law_corners_spoiled : FnScope ["_law_corners", "_law_way", "_law_place", "_law_at", "_law_begin", "_law_row", "_law_later", "_law_here", "_law_there"] ["_law_corners", "_law_way", "_law_place"] (defScope (topS 41)) := ⟨rfl, rfl, rfl, by decide +kernel, rfl, by decide +kernel, by decide +kernel⟩
theorem bd__law_corners_spoiled : F__law_corners_spoiled.body = compD ct ["_law_corners", "_law_way", "_law_place", "_law_at", "_law_begin", "_law_row", "_law_later", "_law_here", "_law_there"] (defScope (topS 41)) (defBody (topS 41)) := by decide +kernel
theorem sc__law_text_spoiled : FnScope ["_law_words", "_law_way", "_law_place", "_law_sign", "_law_text", "_law_at", "_law_word", "_law_odd", "_law_some"] ["_law_words", "_law_way", "_law_place", "_law_sign"] (defScope (topS 42)) := ⟨rfl, rfl, rfl, by decide +kernel, rfl, by decide +kernel, by decide +kernel⟩
theorem bd__law_text_spoiled : F__law_text_spoiled.body = compD ct ["_law_words", "_law_way", "_law_place", "_law_sign", "_law_text", "_law_at", "_law_word", "_law_odd", "_law_some"] (defScope (topS 42)) (defBody (topS 42)) := by decide +kernel
theorem sc__law_refused : FnScope ["_law_text", "e"] ["_law_text"] (defScope (topS 43)) := ⟨rfl, rfl, rfl, by decide +kernel, rfl, by decide +kernel, by decide +kernel⟩
theorem bd__law_refused : F__law_refused.body = compB (compX ct ["_law_text", "e"] (defScope (topS 43))) (defBody (topS 43)) := by decide +kernel
theorem sc_law : FnScope ["_law_script", "_law_way", "_law_place", "_law_drawn", "_law_corners", "_law_last", "_law_text", "_law_spoiled"] ["_law_script"] (defScope (topS 44)) := ⟨rfl, rfl, rfl, by decide +kernel, rfl, by decide +kernel, by decide +kernel⟩
theorem bd_law : F_law.body = compB (compX ct ["_law_script", "_law_way", "_law_place", "_law_drawn", "_law_corners", "_law_last", "_law_text", "_law_spoiled"] (defScope (topS 44))) (defBody (topS 44)) := by decide +kernel
theorem prog {K : PySem.W.Frag}
    (d_is_whole : DefK ct K T "is_whole")
    (d_divisor : DefK ct K T "divisor")
    (d_ratio : DefK ct K T "ratio")
    (d_minus : DefK ct K T "minus")
    (d_over : DefK ct K T "over")
    (d_under : DefK ct K T "under")
    (d_slope_between : DefK ct K T "slope_between")
    (d_slopes_of : DefK ct K T "slopes_of")
    (d_folded : DefK ct K T "folded")
    (d_made : DefK ct K T "made")
    (d_curve : DefK ct K T "curve")
    (d_read_figures : DefK ct K T "read_figures")
    (d_read_ratio : DefK ct K T "read_ratio")
    (d_read_corner : DefK ct K T "read_corner")
    (d_read_curve : DefX ct K T "read_curve")
    (d__law_cell_at : DefK ct K T "_law_cell_at")
    (d__law_lowest : DefK ct K T "_law_lowest")
    (d__law_shown : DefK ct K T "_law_shown")
    (d__law_shown_corners : DefK ct K T "_law_shown_corners")
    (d__law_curve_by : DefK ct K T "_law_curve_by")
    (d__law_more : DefK ct K T "_law_more")
    (d__law_corners_spoiled : DefK ct K T "_law_corners_spoiled")
    (d__law_text_spoiled : DefK ct K T "_law_text_spoiled")
    (d__law_refused : DefX ct K T "_law_refused")
    (d_law : DefX ct K T "law")
    (c_NOUGHT : CoK ct K (faOf ct K) "NOUGHT" (.tup (.cons (.int 0) (.cons (.int 1) .nil))))
    (c_FIGURES : CoK ct K (faOf ct K) "FIGURES" (.str "0123456789"))
    (c_MOST_FIGURES : CoK ct K (faOf ct K) "MOST_FIGURES" (.int 60))
    (b_abs : PySem.W.nsIn K mainGlobals "abs" = some none)
    (b_len : PySem.W.nsIn K mainGlobals "len" = some none)
    (b_int : PySem.W.nsIn K mainGlobals "int" = some none)
    (b_str : PySem.W.nsIn K mainGlobals "str" = some none)
    (b_tuple : PySem.W.nsIn K mainGlobals "tuple" = some none)
    (b_isinstance : PySem.W.nsIn K mainGlobals "isinstance" = some none)
    (b_bool : PySem.W.nsIn K mainGlobals "bool" = some none)
    (b_range : PySem.W.nsIn K mainGlobals "range" = some none)
    (b_ValueError : PySem.W.nsIn K mainGlobals "ValueError" = some none)
    (l_CurveError : ∃ C, PySem.W.nsIn K mainGlobals "CurveError" = some (some (.ref C)))
    (l_NoRatio : ∃ C, PySem.W.nsIn K mainGlobals "NoRatio" = some (some (.ref C)))
    (l_NoCurve : ∃ C, PySem.W.nsIn K mainGlobals "NoCurve" = some (some (.ref C)))
    (l_NoTime : ∃ C, PySem.W.nsIn K mainGlobals "NoTime" = some (some (.ref C)))
    (l_NoHouse : ∃ C, PySem.W.nsIn K mainGlobals "NoHouse" = some (some (.ref C)))
    (l_NoWay : ∃ C, PySem.W.nsIn K mainGlobals "NoWay" = some (some (.ref C)))
    (l_NoText : ∃ C, PySem.W.nsIn K mainGlobals "NoText" = some (some (.ref C)))
    (l_NoName : ∃ C, PySem.W.nsIn K mainGlobals "NoName" = some (some (.ref C)))
    (l_NoEnd : ∃ C, PySem.W.nsIn K mainGlobals "NoEnd" = some (some (.ref C)))
    (l_NoRow : ∃ C, PySem.W.nsIn K mainGlobals "NoRow" = some (some (.ref C)))
    (r_NoRatio : ∃ C, RsK K "NoRatio" C)
    (r_NoCurve : ∃ C, RsK K "NoCurve" C)
    (r_NoText : ∃ C, RsK K "NoText" C)
    (k_NoRatio_CurveError : ∃ C u, PySem.W.nsIn K mainGlobals "NoRatio" = some (some (.ref C)) ∧ clsK K "CurveError" = some u ∧ PySem.W.kitOne K (.ref C) u = some (isSub "NoRatio" "CurveError") ∧ PySem.W.exmOne K (.ref C) u = some (isSub "NoRatio" "CurveError"))
    (k_NoRatio_NoRatio : ∃ C u, PySem.W.nsIn K mainGlobals "NoRatio" = some (some (.ref C)) ∧ clsK K "NoRatio" = some u ∧ PySem.W.kitOne K (.ref C) u = some (isSub "NoRatio" "NoRatio") ∧ PySem.W.exmOne K (.ref C) u = some (isSub "NoRatio" "NoRatio"))
    (k_NoRatio_NoCurve : ∃ C u, PySem.W.nsIn K mainGlobals "NoRatio" = some (some (.ref C)) ∧ clsK K "NoCurve" = some u ∧ PySem.W.kitOne K (.ref C) u = some (isSub "NoRatio" "NoCurve") ∧ PySem.W.exmOne K (.ref C) u = some (isSub "NoRatio" "NoCurve"))
    (k_NoRatio_NoTime : ∃ C u, PySem.W.nsIn K mainGlobals "NoRatio" = some (some (.ref C)) ∧ clsK K "NoTime" = some u ∧ PySem.W.kitOne K (.ref C) u = some (isSub "NoRatio" "NoTime") ∧ PySem.W.exmOne K (.ref C) u = some (isSub "NoRatio" "NoTime"))
    (k_NoRatio_NoHouse : ∃ C u, PySem.W.nsIn K mainGlobals "NoRatio" = some (some (.ref C)) ∧ clsK K "NoHouse" = some u ∧ PySem.W.kitOne K (.ref C) u = some (isSub "NoRatio" "NoHouse") ∧ PySem.W.exmOne K (.ref C) u = some (isSub "NoRatio" "NoHouse"))
    (k_NoRatio_NoWay : ∃ C u, PySem.W.nsIn K mainGlobals "NoRatio" = some (some (.ref C)) ∧ clsK K "NoWay" = some u ∧ PySem.W.kitOne K (.ref C) u = some (isSub "NoRatio" "NoWay") ∧ PySem.W.exmOne K (.ref C) u = some (isSub "NoRatio" "NoWay"))
    (k_NoRatio_NoText : ∃ C u, PySem.W.nsIn K mainGlobals "NoRatio" = some (some (.ref C)) ∧ clsK K "NoText" = some u ∧ PySem.W.kitOne K (.ref C) u = some (isSub "NoRatio" "NoText") ∧ PySem.W.exmOne K (.ref C) u = some (isSub "NoRatio" "NoText"))
    (k_NoRatio_NoName : ∃ C u, PySem.W.nsIn K mainGlobals "NoRatio" = some (some (.ref C)) ∧ clsK K "NoName" = some u ∧ PySem.W.kitOne K (.ref C) u = some (isSub "NoRatio" "NoName") ∧ PySem.W.exmOne K (.ref C) u = some (isSub "NoRatio" "NoName"))
    (k_NoRatio_NoEnd : ∃ C u, PySem.W.nsIn K mainGlobals "NoRatio" = some (some (.ref C)) ∧ clsK K "NoEnd" = some u ∧ PySem.W.kitOne K (.ref C) u = some (isSub "NoRatio" "NoEnd") ∧ PySem.W.exmOne K (.ref C) u = some (isSub "NoRatio" "NoEnd"))
    (k_NoRatio_NoRow : ∃ C u, PySem.W.nsIn K mainGlobals "NoRatio" = some (some (.ref C)) ∧ clsK K "NoRow" = some u ∧ PySem.W.kitOne K (.ref C) u = some (isSub "NoRatio" "NoRow") ∧ PySem.W.exmOne K (.ref C) u = some (isSub "NoRatio" "NoRow"))
    (k_NoRatio_ValueError : ∃ C u, PySem.W.nsIn K mainGlobals "NoRatio" = some (some (.ref C)) ∧ clsK K "ValueError" = some u ∧ PySem.W.kitOne K (.ref C) u = some (isSub "NoRatio" "ValueError") ∧ PySem.W.exmOne K (.ref C) u = some (isSub "NoRatio" "ValueError"))
    (k_NoCurve_CurveError : ∃ C u, PySem.W.nsIn K mainGlobals "NoCurve" = some (some (.ref C)) ∧ clsK K "CurveError" = some u ∧ PySem.W.kitOne K (.ref C) u = some (isSub "NoCurve" "CurveError") ∧ PySem.W.exmOne K (.ref C) u = some (isSub "NoCurve" "CurveError"))
    (k_NoCurve_NoRatio : ∃ C u, PySem.W.nsIn K mainGlobals "NoCurve" = some (some (.ref C)) ∧ clsK K "NoRatio" = some u ∧ PySem.W.kitOne K (.ref C) u = some (isSub "NoCurve" "NoRatio") ∧ PySem.W.exmOne K (.ref C) u = some (isSub "NoCurve" "NoRatio"))
    (k_NoCurve_NoCurve : ∃ C u, PySem.W.nsIn K mainGlobals "NoCurve" = some (some (.ref C)) ∧ clsK K "NoCurve" = some u ∧ PySem.W.kitOne K (.ref C) u = some (isSub "NoCurve" "NoCurve") ∧ PySem.W.exmOne K (.ref C) u = some (isSub "NoCurve" "NoCurve"))
    (k_NoCurve_NoTime : ∃ C u, PySem.W.nsIn K mainGlobals "NoCurve" = some (some (.ref C)) ∧ clsK K "NoTime" = some u ∧ PySem.W.kitOne K (.ref C) u = some (isSub "NoCurve" "NoTime") ∧ PySem.W.exmOne K (.ref C) u = some (isSub "NoCurve" "NoTime"))
    (k_NoCurve_NoHouse : ∃ C u, PySem.W.nsIn K mainGlobals "NoCurve" = some (some (.ref C)) ∧ clsK K "NoHouse" = some u ∧ PySem.W.kitOne K (.ref C) u = some (isSub "NoCurve" "NoHouse") ∧ PySem.W.exmOne K (.ref C) u = some (isSub "NoCurve" "NoHouse"))
    (k_NoCurve_NoWay : ∃ C u, PySem.W.nsIn K mainGlobals "NoCurve" = some (some (.ref C)) ∧ clsK K "NoWay" = some u ∧ PySem.W.kitOne K (.ref C) u = some (isSub "NoCurve" "NoWay") ∧ PySem.W.exmOne K (.ref C) u = some (isSub "NoCurve" "NoWay"))
    (k_NoCurve_NoText : ∃ C u, PySem.W.nsIn K mainGlobals "NoCurve" = some (some (.ref C)) ∧ clsK K "NoText" = some u ∧ PySem.W.kitOne K (.ref C) u = some (isSub "NoCurve" "NoText") ∧ PySem.W.exmOne K (.ref C) u = some (isSub "NoCurve" "NoText"))
    (k_NoCurve_NoName : ∃ C u, PySem.W.nsIn K mainGlobals "NoCurve" = some (some (.ref C)) ∧ clsK K "NoName" = some u ∧ PySem.W.kitOne K (.ref C) u = some (isSub "NoCurve" "NoName") ∧ PySem.W.exmOne K (.ref C) u = some (isSub "NoCurve" "NoName"))
    (k_NoCurve_NoEnd : ∃ C u, PySem.W.nsIn K mainGlobals "NoCurve" = some (some (.ref C)) ∧ clsK K "NoEnd" = some u ∧ PySem.W.kitOne K (.ref C) u = some (isSub "NoCurve" "NoEnd") ∧ PySem.W.exmOne K (.ref C) u = some (isSub "NoCurve" "NoEnd"))
    (k_NoCurve_NoRow : ∃ C u, PySem.W.nsIn K mainGlobals "NoCurve" = some (some (.ref C)) ∧ clsK K "NoRow" = some u ∧ PySem.W.kitOne K (.ref C) u = some (isSub "NoCurve" "NoRow") ∧ PySem.W.exmOne K (.ref C) u = some (isSub "NoCurve" "NoRow"))
    (k_NoCurve_ValueError : ∃ C u, PySem.W.nsIn K mainGlobals "NoCurve" = some (some (.ref C)) ∧ clsK K "ValueError" = some u ∧ PySem.W.kitOne K (.ref C) u = some (isSub "NoCurve" "ValueError") ∧ PySem.W.exmOne K (.ref C) u = some (isSub "NoCurve" "ValueError"))
    (k_NoText_CurveError : ∃ C u, PySem.W.nsIn K mainGlobals "NoText" = some (some (.ref C)) ∧ clsK K "CurveError" = some u ∧ PySem.W.kitOne K (.ref C) u = some (isSub "NoText" "CurveError") ∧ PySem.W.exmOne K (.ref C) u = some (isSub "NoText" "CurveError"))
    (k_NoText_NoRatio : ∃ C u, PySem.W.nsIn K mainGlobals "NoText" = some (some (.ref C)) ∧ clsK K "NoRatio" = some u ∧ PySem.W.kitOne K (.ref C) u = some (isSub "NoText" "NoRatio") ∧ PySem.W.exmOne K (.ref C) u = some (isSub "NoText" "NoRatio"))
    (k_NoText_NoCurve : ∃ C u, PySem.W.nsIn K mainGlobals "NoText" = some (some (.ref C)) ∧ clsK K "NoCurve" = some u ∧ PySem.W.kitOne K (.ref C) u = some (isSub "NoText" "NoCurve") ∧ PySem.W.exmOne K (.ref C) u = some (isSub "NoText" "NoCurve"))
    (k_NoText_NoTime : ∃ C u, PySem.W.nsIn K mainGlobals "NoText" = some (some (.ref C)) ∧ clsK K "NoTime" = some u ∧ PySem.W.kitOne K (.ref C) u = some (isSub "NoText" "NoTime") ∧ PySem.W.exmOne K (.ref C) u = some (isSub "NoText" "NoTime"))
    (k_NoText_NoHouse : ∃ C u, PySem.W.nsIn K mainGlobals "NoText" = some (some (.ref C)) ∧ clsK K "NoHouse" = some u ∧ PySem.W.kitOne K (.ref C) u = some (isSub "NoText" "NoHouse") ∧ PySem.W.exmOne K (.ref C) u = some (isSub "NoText" "NoHouse"))
    (k_NoText_NoWay : ∃ C u, PySem.W.nsIn K mainGlobals "NoText" = some (some (.ref C)) ∧ clsK K "NoWay" = some u ∧ PySem.W.kitOne K (.ref C) u = some (isSub "NoText" "NoWay") ∧ PySem.W.exmOne K (.ref C) u = some (isSub "NoText" "NoWay"))
    (k_NoText_NoText : ∃ C u, PySem.W.nsIn K mainGlobals "NoText" = some (some (.ref C)) ∧ clsK K "NoText" = some u ∧ PySem.W.kitOne K (.ref C) u = some (isSub "NoText" "NoText") ∧ PySem.W.exmOne K (.ref C) u = some (isSub "NoText" "NoText"))
    (k_NoText_NoName : ∃ C u, PySem.W.nsIn K mainGlobals "NoText" = some (some (.ref C)) ∧ clsK K "NoName" = some u ∧ PySem.W.kitOne K (.ref C) u = some (isSub "NoText" "NoName") ∧ PySem.W.exmOne K (.ref C) u = some (isSub "NoText" "NoName"))
    (k_NoText_NoEnd : ∃ C u, PySem.W.nsIn K mainGlobals "NoText" = some (some (.ref C)) ∧ clsK K "NoEnd" = some u ∧ PySem.W.kitOne K (.ref C) u = some (isSub "NoText" "NoEnd") ∧ PySem.W.exmOne K (.ref C) u = some (isSub "NoText" "NoEnd"))
    (k_NoText_NoRow : ∃ C u, PySem.W.nsIn K mainGlobals "NoText" = some (some (.ref C)) ∧ clsK K "NoRow" = some u ∧ PySem.W.kitOne K (.ref C) u = some (isSub "NoText" "NoRow") ∧ PySem.W.exmOne K (.ref C) u = some (isSub "NoText" "NoRow"))
    (k_NoText_ValueError : ∃ C u, PySem.W.nsIn K mainGlobals "NoText" = some (some (.ref C)) ∧ clsK K "ValueError" = some u ∧ PySem.W.kitOne K (.ref C) u = some (isSub "NoText" "ValueError") ∧ PySem.W.exmOne K (.ref C) u = some (isSub "NoText" "ValueError"))
    : ProgK ct K T := by
  refine ⟨?_, ?_, ?_, ?_, ?_, ?_, ?_, ?_, rfl⟩
  · exact (List.forall_mem_cons.mpr ⟨d_is_whole, (List.forall_mem_cons.mpr ⟨d_divisor, (List.forall_mem_cons.mpr ⟨d_ratio, (List.forall_mem_cons.mpr ⟨d_minus, (List.forall_mem_cons.mpr ⟨d_over, (List.forall_mem_cons.mpr ⟨d_under, (List.forall_mem_cons.mpr ⟨d_slope_between, (List.forall_mem_cons.mpr ⟨d_slopes_of, (List.forall_mem_cons.mpr ⟨d_folded, (List.forall_mem_cons.mpr ⟨d_made, (List.forall_mem_cons.mpr ⟨d_curve, (List.forall_mem_cons.mpr ⟨d_read_figures, (List.forall_mem_cons.mpr ⟨d_read_ratio, (List.forall_mem_cons.mpr ⟨d_read_corner, (List.forall_mem_cons.mpr ⟨d__law_cell_at, (List.forall_mem_cons.mpr ⟨d__law_lowest, (List.forall_mem_cons.mpr ⟨d__law_shown, (List.forall_mem_cons.mpr ⟨d__law_shown_corners, (List.forall_mem_cons.mpr ⟨d__law_curve_by, (List.forall_mem_cons.mpr ⟨d__law_more, (List.forall_mem_cons.mpr ⟨d__law_corners_spoiled, (List.forall_mem_cons.mpr ⟨d__law_text_spoiled, (fun x hx => absurd hx List.not_mem_nil)⟩)⟩)⟩)⟩)⟩)⟩)⟩)⟩)⟩)⟩)⟩)⟩)⟩)⟩)⟩)⟩)⟩)⟩)⟩)⟩)⟩)⟩)
  · exact (List.forall_mem_cons.mpr ⟨c_NOUGHT, (List.forall_mem_cons.mpr ⟨c_FIGURES, (List.forall_mem_cons.mpr ⟨c_MOST_FIGURES, (fun x hx => absurd hx List.not_mem_nil)⟩)⟩)⟩)
  · exact (List.forall_mem_cons.mpr ⟨b_abs, (List.forall_mem_cons.mpr ⟨b_len, (List.forall_mem_cons.mpr ⟨b_int, (List.forall_mem_cons.mpr ⟨b_str, (List.forall_mem_cons.mpr ⟨b_tuple, (List.forall_mem_cons.mpr ⟨b_isinstance, (List.forall_mem_cons.mpr ⟨b_bool, (List.forall_mem_cons.mpr ⟨b_range, (List.forall_mem_cons.mpr ⟨b_ValueError, (fun x hx => absurd hx List.not_mem_nil)⟩)⟩)⟩)⟩)⟩)⟩)⟩)⟩)⟩)
  · exact (List.forall_mem_cons.mpr ⟨l_CurveError, (List.forall_mem_cons.mpr ⟨l_NoRatio, (List.forall_mem_cons.mpr ⟨l_NoCurve, (List.forall_mem_cons.mpr ⟨l_NoTime, (List.forall_mem_cons.mpr ⟨l_NoHouse, (List.forall_mem_cons.mpr ⟨l_NoWay, (List.forall_mem_cons.mpr ⟨l_NoText, (List.forall_mem_cons.mpr ⟨l_NoName, (List.forall_mem_cons.mpr ⟨l_NoEnd, (List.forall_mem_cons.mpr ⟨l_NoRow, (fun x hx => absurd hx List.not_mem_nil)⟩)⟩)⟩)⟩)⟩)⟩)⟩)⟩)⟩)⟩)
  · exact (List.forall_mem_cons.mpr ⟨r_NoRatio, (List.forall_mem_cons.mpr ⟨r_NoCurve, (List.forall_mem_cons.mpr ⟨r_NoText, (fun x hx => absurd hx List.not_mem_nil)⟩)⟩)⟩)
  · exact (List.forall_mem_cons.mpr ⟨(fun c2 h2 => h2.elim (((List.forall_mem_cons (p := fun c2 => KitP K "NoRatio" c2)).mpr ⟨k_NoRatio_CurveError, ((List.forall_mem_cons (p := fun c2 => KitP K "NoRatio" c2)).mpr ⟨k_NoRatio_NoRatio, ((List.forall_mem_cons (p := fun c2 => KitP K "NoRatio" c2)).mpr ⟨k_NoRatio_NoCurve, ((List.forall_mem_cons (p := fun c2 => KitP K "NoRatio" c2)).mpr ⟨k_NoRatio_NoTime, ((List.forall_mem_cons (p := fun c2 => KitP K "NoRatio" c2)).mpr ⟨k_NoRatio_NoHouse, ((List.forall_mem_cons (p := fun c2 => KitP K "NoRatio" c2)).mpr ⟨k_NoRatio_NoWay, ((List.forall_mem_cons (p := fun c2 => KitP K "NoRatio" c2)).mpr ⟨k_NoRatio_NoText, ((List.forall_mem_cons (p := fun c2 => KitP K "NoRatio" c2)).mpr ⟨k_NoRatio_NoName, ((List.forall_mem_cons (p := fun c2 => KitP K "NoRatio" c2)).mpr ⟨k_NoRatio_NoEnd, ((List.forall_mem_cons (p := fun c2 => KitP K "NoRatio" c2)).mpr ⟨k_NoRatio_NoRow, (fun x hx => absurd hx List.not_mem_nil)⟩)⟩)⟩)⟩)⟩)⟩)⟩)⟩)⟩)⟩) c2) (fun e => e ▸ k_NoRatio_ValueError)), (List.forall_mem_cons.mpr ⟨(fun c2 h2 => h2.elim (((List.forall_mem_cons (p := fun c2 => KitP K "NoCurve" c2)).mpr ⟨k_NoCurve_CurveError, ((List.forall_mem_cons (p := fun c2 => KitP K "NoCurve" c2)).mpr ⟨k_NoCurve_NoRatio, ((List.forall_mem_cons (p := fun c2 => KitP K "NoCurve" c2)).mpr ⟨k_NoCurve_NoCurve, ((List.forall_mem_cons (p := fun c2 => KitP K "NoCurve" c2)).mpr ⟨k_NoCurve_NoTime, ((List.forall_mem_cons (p := fun c2 => KitP K "NoCurve" c2)).mpr ⟨k_NoCurve_NoHouse, ((List.forall_mem_cons (p := fun c2 => KitP K "NoCurve" c2)).mpr ⟨k_NoCurve_NoWay, ((List.forall_mem_cons (p := fun c2 => KitP K "NoCurve" c2)).mpr ⟨k_NoCurve_NoText, ((List.forall_mem_cons (p := fun c2 => KitP K "NoCurve" c2)).mpr ⟨k_NoCurve_NoName, ((List.forall_mem_cons (p := fun c2 => KitP K "NoCurve" c2)).mpr ⟨k_NoCurve_NoEnd, ((List.forall_mem_cons (p := fun c2 => KitP K "NoCurve" c2)).mpr ⟨k_NoCurve_NoRow, (fun x hx => absurd hx List.not_mem_nil)⟩)⟩)⟩)⟩)⟩)⟩)⟩)⟩)⟩)⟩) c2) (fun e => e ▸ k_NoCurve_ValueError)), (List.forall_mem_cons.mpr ⟨(fun c2 h2 => h2.elim (((List.forall_mem_cons (p := fun c2 => KitP K "NoText" c2)).mpr ⟨k_NoText_CurveError, ((List.forall_mem_cons (p := fun c2 => KitP K "NoText" c2)).mpr ⟨k_NoText_NoRatio, ((List.forall_mem_cons (p := fun c2 => KitP K "NoText" c2)).mpr ⟨k_NoText_NoCurve, ((List.forall_mem_cons (p := fun c2 => KitP K "NoText" c2)).mpr ⟨k_NoText_NoTime, ((List.forall_mem_cons (p := fun c2 => KitP K "NoText" c2)).mpr ⟨k_NoText_NoHouse, ((List.forall_mem_cons (p := fun c2 => KitP K "NoText" c2)).mpr ⟨k_NoText_NoWay, ((List.forall_mem_cons (p := fun c2 => KitP K "NoText" c2)).mpr ⟨k_NoText_NoText, ((List.forall_mem_cons (p := fun c2 => KitP K "NoText" c2)).mpr ⟨k_NoText_NoName, ((List.forall_mem_cons (p := fun c2 => KitP K "NoText" c2)).mpr ⟨k_NoText_NoEnd, ((List.forall_mem_cons (p := fun c2 => KitP K "NoText" c2)).mpr ⟨k_NoText_NoRow, (fun x hx => absurd hx List.not_mem_nil)⟩)⟩)⟩)⟩)⟩)⟩)⟩)⟩)⟩)⟩) c2) (fun e => e ▸ k_NoText_ValueError)), (fun x hx => absurd hx List.not_mem_nil)⟩)⟩)⟩)
  · exact fun x hx => absurd hx List.not_mem_nil
  · exact (List.forall_mem_cons.mpr ⟨d_read_curve, (List.forall_mem_cons.mpr ⟨d__law_refused, (List.forall_mem_cons.mpr ⟨d_law, (fun x hx => absurd hx List.not_mem_nil)⟩)⟩)⟩)
/-- what the law promises, by the written part -/
def spLaw (n : Nat) (K : PySem.W.Frag) : Sp := spF K (faOf ct K) (caOf ct K) 1 (runT T (n + 1) "law")
theorem fin {P : Program} {w : World} {K : PySem.W.Frag} {h : Heap} {mg : Str → Option Value} {fa ad : Addr} {oc : Value} {od an : Option Addr} {osl : Array (Option Value)} {kV doc pm cdv ct1 : Value} {n : Nat} (X : K.In h) (G : h.Ns mainGlobals mg) (hmg : mg "law" = some (.ref fa))
    (d_is_whole : DefK ct K T "is_whole")
    (d_divisor : DefK ct K T "divisor")
    (d_ratio : DefK ct K T "ratio")
    (d_minus : DefK ct K T "minus")
    (d_over : DefK ct K T "over")
    (d_under : DefK ct K T "under")
    (d_slope_between : DefK ct K T "slope_between")
    (d_slopes_of : DefK ct K T "slopes_of")
    (d_folded : DefK ct K T "folded")
    (d_made : DefK ct K T "made")
    (d_curve : DefK ct K T "curve")
    (d_read_figures : DefK ct K T "read_figures")
    (d_read_ratio : DefK ct K T "read_ratio")
    (d_read_corner : DefK ct K T "read_corner")
    (d_read_curve : DefX ct K T "read_curve")
    (d__law_cell_at : DefK ct K T "_law_cell_at")
    (d__law_lowest : DefK ct K T "_law_lowest")
    (d__law_shown : DefK ct K T "_law_shown")
    (d__law_shown_corners : DefK ct K T "_law_shown_corners")
    (d__law_curve_by : DefK ct K T "_law_curve_by")
    (d__law_more : DefK ct K T "_law_more")
    (d__law_corners_spoiled : DefK ct K T "_law_corners_spoiled")
    (d__law_text_spoiled : DefK ct K T "_law_text_spoiled")
    (d__law_refused : DefX ct K T "_law_refused")
    (d_law : DefX ct K T "law")
    (c_NOUGHT : CoK ct K (faOf ct K) "NOUGHT" (.tup (.cons (.int 0) (.cons (.int 1) .nil))))
    (c_FIGURES : CoK ct K (faOf ct K) "FIGURES" (.str "0123456789"))
    (c_MOST_FIGURES : CoK ct K (faOf ct K) "MOST_FIGURES" (.int 60))
    (b_abs : PySem.W.nsIn K mainGlobals "abs" = some none)
    (b_len : PySem.W.nsIn K mainGlobals "len" = some none)
    (b_int : PySem.W.nsIn K mainGlobals "int" = some none)
    (b_str : PySem.W.nsIn K mainGlobals "str" = some none)
    (b_tuple : PySem.W.nsIn K mainGlobals "tuple" = some none)
    (b_isinstance : PySem.W.nsIn K mainGlobals "isinstance" = some none)
    (b_bool : PySem.W.nsIn K mainGlobals "bool" = some none)
    (b_range : PySem.W.nsIn K mainGlobals "range" = some none)
    (b_ValueError : PySem.W.nsIn K mainGlobals "ValueError" = some none)
    (l_CurveError : ∃ C, PySem.W.nsIn K mainGlobals "CurveError" = some (some (.ref C)))
    (l_NoRatio : ∃ C, PySem.W.nsIn K mainGlobals "NoRatio" = some (some (.ref C)))
    (l_NoCurve : ∃ C, PySem.W.nsIn K mainGlobals "NoCurve" = some (some (.ref C)))
    (l_NoTime : ∃ C, PySem.W.nsIn K mainGlobals "NoTime" = some (some (.ref C)))
    (l_NoHouse : ∃ C, PySem.W.nsIn K mainGlobals "NoHouse" = some (some (.ref C)))
    (l_NoWay : ∃ C, PySem.W.nsIn K mainGlobals "NoWay" = some (some (.ref C)))
    (l_NoText : ∃ C, PySem.W.nsIn K mainGlobals "NoText" = some (some (.ref C)))
    (l_NoName : ∃ C, PySem.W.nsIn K mainGlobals "NoName" = some (some (.ref C)))
    (l_NoEnd : ∃ C, PySem.W.nsIn K mainGlobals "NoEnd" = some (some (.ref C)))
    (l_NoRow : ∃ C, PySem.W.nsIn K mainGlobals "NoRow" = some (some (.ref C)))
    (r_NoRatio : ∃ C, RsK K "NoRatio" C)
    (r_NoCurve : ∃ C, RsK K "NoCurve" C)
    (r_NoText : ∃ C, RsK K "NoText" C)
    (k_NoRatio_CurveError : ∃ C u, PySem.W.nsIn K mainGlobals "NoRatio" = some (some (.ref C)) ∧ clsK K "CurveError" = some u ∧ PySem.W.kitOne K (.ref C) u = some (isSub "NoRatio" "CurveError") ∧ PySem.W.exmOne K (.ref C) u = some (isSub "NoRatio" "CurveError"))
    (k_NoRatio_NoRatio : ∃ C u, PySem.W.nsIn K mainGlobals "NoRatio" = some (some (.ref C)) ∧ clsK K "NoRatio" = some u ∧ PySem.W.kitOne K (.ref C) u = some (isSub "NoRatio" "NoRatio") ∧ PySem.W.exmOne K (.ref C) u = some (isSub "NoRatio" "NoRatio"))
    (k_NoRatio_NoCurve : ∃ C u, PySem.W.nsIn K mainGlobals "NoRatio" = some (some (.ref C)) ∧ clsK K "NoCurve" = some u ∧ PySem.W.kitOne K (.ref C) u = some (isSub "NoRatio" "NoCurve") ∧ PySem.W.exmOne K (.ref C) u = some (isSub "NoRatio" "NoCurve"))
    (k_NoRatio_NoTime : ∃ C u, PySem.W.nsIn K mainGlobals "NoRatio" = some (some (.ref C)) ∧ clsK K "NoTime" = some u ∧ PySem.W.kitOne K (.ref C) u = some (isSub "NoRatio" "NoTime") ∧ PySem.W.exmOne K (.ref C) u = some (isSub "NoRatio" "NoTime"))
    (k_NoRatio_NoHouse : ∃ C u, PySem.W.nsIn K mainGlobals "NoRatio" = some (some (.ref C)) ∧ clsK K "NoHouse" = some u ∧ PySem.W.kitOne K (.ref C) u = some (isSub "NoRatio" "NoHouse") ∧ PySem.W.exmOne K (.ref C) u = some (isSub "NoRatio" "NoHouse"))
    (k_NoRatio_NoWay : ∃ C u, PySem.W.nsIn K mainGlobals "NoRatio" = some (some (.ref C)) ∧ clsK K "NoWay" = some u ∧ PySem.W.kitOne K (.ref C) u = some (isSub "NoRatio" "NoWay") ∧ PySem.W.exmOne K (.ref C) u = some (isSub "NoRatio" "NoWay"))
    (k_NoRatio_NoText : ∃ C u, PySem.W.nsIn K mainGlobals "NoRatio" = some (some (.ref C)) ∧ clsK K "NoText" = some u ∧ PySem.W.kitOne K (.ref C) u = some (isSub "NoRatio" "NoText") ∧ PySem.W.exmOne K (.ref C) u = some (isSub "NoRatio" "NoText"))
    (k_NoRatio_NoName : ∃ C u, PySem.W.nsIn K mainGlobals "NoRatio" = some (some (.ref C)) ∧ clsK K "NoName" = some u ∧ PySem.W.kitOne K (.ref C) u = some (isSub "NoRatio" "NoName") ∧ PySem.W.exmOne K (.ref C) u = some (isSub "NoRatio" "NoName"))
    (k_NoRatio_NoEnd : ∃ C u, PySem.W.nsIn K mainGlobals "NoRatio" = some (some (.ref C)) ∧ clsK K "NoEnd" = some u ∧ PySem.W.kitOne K (.ref C) u = some (isSub "NoRatio" "NoEnd") ∧ PySem.W.exmOne K (.ref C) u = some (isSub "NoRatio" "NoEnd"))
    (k_NoRatio_NoRow : ∃ C u, PySem.W.nsIn K mainGlobals "NoRatio" = some (some (.ref C)) ∧ clsK K "NoRow" = some u ∧ PySem.W.kitOne K (.ref C) u = some (isSub "NoRatio" "NoRow") ∧ PySem.W.exmOne K (.ref C) u = some (isSub "NoRatio" "NoRow"))
    (k_NoRatio_ValueError : ∃ C u, PySem.W.nsIn K mainGlobals "NoRatio" = some (some (.ref C)) ∧ clsK K "ValueError" = some u ∧ PySem.W.kitOne K (.ref C) u = some (isSub "NoRatio" "ValueError") ∧ PySem.W.exmOne K (.ref C) u = some (isSub "NoRatio" "ValueError"))
    (k_NoCurve_CurveError : ∃ C u, PySem.W.nsIn K mainGlobals "NoCurve" = some (some (.ref C)) ∧ clsK K "CurveError" = some u ∧ PySem.W.kitOne K (.ref C) u = some (isSub "NoCurve" "CurveError") ∧ PySem.W.exmOne K (.ref C) u = some (isSub "NoCurve" "CurveError"))
    (k_NoCurve_NoRatio : ∃ C u, PySem.W.nsIn K mainGlobals "NoCurve" = some (some (.ref C)) ∧ clsK K "NoRatio" = some u ∧ PySem.W.kitOne K (.ref C) u = some (isSub "NoCurve" "NoRatio") ∧ PySem.W.exmOne K (.ref C) u = some (isSub "NoCurve" "NoRatio"))
    (k_NoCurve_NoCurve : ∃ C u, PySem.W.nsIn K mainGlobals "NoCurve" = some (some (.ref C)) ∧ clsK K "NoCurve" = some u ∧ PySem.W.kitOne K (.ref C) u = some (isSub "NoCurve" "NoCurve") ∧ PySem.W.exmOne K (.ref C) u = some (isSub "NoCurve" "NoCurve"))
    (k_NoCurve_NoTime : ∃ C u, PySem.W.nsIn K mainGlobals "NoCurve" = some (some (.ref C)) ∧ clsK K "NoTime" = some u ∧ PySem.W.kitOne K (.ref C) u = some (isSub "NoCurve" "NoTime") ∧ PySem.W.exmOne K (.ref C) u = some (isSub "NoCurve" "NoTime"))
    (k_NoCurve_NoHouse : ∃ C u, PySem.W.nsIn K mainGlobals "NoCurve" = some (some (.ref C)) ∧ clsK K "NoHouse" = some u ∧ PySem.W.kitOne K (.ref C) u = some (isSub "NoCurve" "NoHouse") ∧ PySem.W.exmOne K (.ref C) u = some (isSub "NoCurve" "NoHouse"))
    (k_NoCurve_NoWay : ∃ C u, PySem.W.nsIn K mainGlobals "NoCurve" = some (some (.ref C)) ∧ clsK K "NoWay" = some u ∧ PySem.W.kitOne K (.ref C) u = some (isSub "NoCurve" "NoWay") ∧ PySem.W.exmOne K (.ref C) u = some (isSub "NoCurve" "NoWay"))
    (k_NoCurve_NoText : ∃ C u, PySem.W.nsIn K mainGlobals "NoCurve" = some (some (.ref C)) ∧ clsK K "NoText" = some u ∧ PySem.W.kitOne K (.ref C) u = some (isSub "NoCurve" "NoText") ∧ PySem.W.exmOne K (.ref C) u = some (isSub "NoCurve" "NoText"))
    (k_NoCurve_NoName : ∃ C u, PySem.W.nsIn K mainGlobals "NoCurve" = some (some (.ref C)) ∧ clsK K "NoName" = some u ∧ PySem.W.kitOne K (.ref C) u = some (isSub "NoCurve" "NoName") ∧ PySem.W.exmOne K (.ref C) u = some (isSub "NoCurve" "NoName"))
    (k_NoCurve_NoEnd : ∃ C u, PySem.W.nsIn K mainGlobals "NoCurve" = some (some (.ref C)) ∧ clsK K "NoEnd" = some u ∧ PySem.W.kitOne K (.ref C) u = some (isSub "NoCurve" "NoEnd") ∧ PySem.W.exmOne K (.ref C) u = some (isSub "NoCurve" "NoEnd"))
    (k_NoCurve_NoRow : ∃ C u, PySem.W.nsIn K mainGlobals "NoCurve" = some (some (.ref C)) ∧ clsK K "NoRow" = some u ∧ PySem.W.kitOne K (.ref C) u = some (isSub "NoCurve" "NoRow") ∧ PySem.W.exmOne K (.ref C) u = some (isSub "NoCurve" "NoRow"))
    (k_NoCurve_ValueError : ∃ C u, PySem.W.nsIn K mainGlobals "NoCurve" = some (some (.ref C)) ∧ clsK K "ValueError" = some u ∧ PySem.W.kitOne K (.ref C) u = some (isSub "NoCurve" "ValueError") ∧ PySem.W.exmOne K (.ref C) u = some (isSub "NoCurve" "ValueError"))
    (k_NoText_CurveError : ∃ C u, PySem.W.nsIn K mainGlobals "NoText" = some (some (.ref C)) ∧ clsK K "CurveError" = some u ∧ PySem.W.kitOne K (.ref C) u = some (isSub "NoText" "CurveError") ∧ PySem.W.exmOne K (.ref C) u = some (isSub "NoText" "CurveError"))
    (k_NoText_NoRatio : ∃ C u, PySem.W.nsIn K mainGlobals "NoText" = some (some (.ref C)) ∧ clsK K "NoRatio" = some u ∧ PySem.W.kitOne K (.ref C) u = some (isSub "NoText" "NoRatio") ∧ PySem.W.exmOne K (.ref C) u = some (isSub "NoText" "NoRatio"))
    (k_NoText_NoCurve : ∃ C u, PySem.W.nsIn K mainGlobals "NoText" = some (some (.ref C)) ∧ clsK K "NoCurve" = some u ∧ PySem.W.kitOne K (.ref C) u = some (isSub "NoText" "NoCurve") ∧ PySem.W.exmOne K (.ref C) u = some (isSub "NoText" "NoCurve"))
    (k_NoText_NoTime : ∃ C u, PySem.W.nsIn K mainGlobals "NoText" = some (some (.ref C)) ∧ clsK K "NoTime" = some u ∧ PySem.W.kitOne K (.ref C) u = some (isSub "NoText" "NoTime") ∧ PySem.W.exmOne K (.ref C) u = some (isSub "NoText" "NoTime"))
    (k_NoText_NoHouse : ∃ C u, PySem.W.nsIn K mainGlobals "NoText" = some (some (.ref C)) ∧ clsK K "NoHouse" = some u ∧ PySem.W.kitOne K (.ref C) u = some (isSub "NoText" "NoHouse") ∧ PySem.W.exmOne K (.ref C) u = some (isSub "NoText" "NoHouse"))
    (k_NoText_NoWay : ∃ C u, PySem.W.nsIn K mainGlobals "NoText" = some (some (.ref C)) ∧ clsK K "NoWay" = some u ∧ PySem.W.kitOne K (.ref C) u = some (isSub "NoText" "NoWay") ∧ PySem.W.exmOne K (.ref C) u = some (isSub "NoText" "NoWay"))
    (k_NoText_NoText : ∃ C u, PySem.W.nsIn K mainGlobals "NoText" = some (some (.ref C)) ∧ clsK K "NoText" = some u ∧ PySem.W.kitOne K (.ref C) u = some (isSub "NoText" "NoText") ∧ PySem.W.exmOne K (.ref C) u = some (isSub "NoText" "NoText"))
    (k_NoText_NoName : ∃ C u, PySem.W.nsIn K mainGlobals "NoText" = some (some (.ref C)) ∧ clsK K "NoName" = some u ∧ PySem.W.kitOne K (.ref C) u = some (isSub "NoText" "NoName") ∧ PySem.W.exmOne K (.ref C) u = some (isSub "NoText" "NoName"))
    (k_NoText_NoEnd : ∃ C u, PySem.W.nsIn K mainGlobals "NoText" = some (some (.ref C)) ∧ clsK K "NoEnd" = some u ∧ PySem.W.kitOne K (.ref C) u = some (isSub "NoText" "NoEnd") ∧ PySem.W.exmOne K (.ref C) u = some (isSub "NoText" "NoEnd"))
    (k_NoText_NoRow : ∃ C u, PySem.W.nsIn K mainGlobals "NoText" = some (some (.ref C)) ∧ clsK K "NoRow" = some u ∧ PySem.W.kitOne K (.ref C) u = some (isSub "NoText" "NoRow") ∧ PySem.W.exmOne K (.ref C) u = some (isSub "NoText" "NoRow"))
    (k_NoText_ValueError : ∃ C u, PySem.W.nsIn K mainGlobals "NoText" = some (some (.ref C)) ∧ clsK K "ValueError" = some u ∧ PySem.W.kitOne K (.ref C) u = some (isSub "NoText" "ValueError") ∧ PySem.W.exmOne K (.ref C) u = some (isSub "NoText" "ValueError"))
    (a : PySem.W.nsIn K mainGlobals "law" = some (some (.ref ad))) (l : K.lookup ad = some ⟨oc, od, .func (PySem.W.fnOf "law" "law" (defArgs (topS 44)) (defBody (topS 44)) (defScope (topS 44)) .none kV doc pm an cdv ct1), osl⟩) (c : PySem.W.codeIn K cdv "law" = true) (kp : PySem.W.keepIn K (.ref ad) = true) :
    ∃ fdt : FuncData, (∀ (s : Shared) (u : Value), BindsTo s fdt ⟨[u], []⟩ [("_law_script", u)]) ∧ ∀ base : Heap, K.In base → base.Ns mainGlobals mg → FnOk P w K mg base (L2.CX P w) (n + 1) fa fdt ["_law_script"] (spLaw n K) := by
  have PK := prog d_is_whole d_divisor d_ratio d_minus d_over d_under d_slope_between d_slopes_of d_folded d_made d_curve d_read_figures d_read_ratio d_read_corner d_read_curve d__law_cell_at d__law_lowest d__law_shown d__law_shown_corners d__law_curve_by d__law_more d__law_corners_spoiled d__law_text_spoiled d__law_refused d_law c_NOUGHT c_FIGURES c_MOST_FIGURES b_abs b_len b_int b_str b_tuple b_isinstance b_bool b_range b_ValueError l_CurveError l_NoRatio l_NoCurve l_NoTime l_NoHouse l_NoWay l_NoText l_NoName l_NoEnd l_NoRow r_NoRatio r_NoCurve r_NoText k_NoRatio_CurveError k_NoRatio_NoRatio k_NoRatio_NoCurve k_NoRatio_NoTime k_NoRatio_NoHouse k_NoRatio_NoWay k_NoRatio_NoText k_NoRatio_NoName k_NoRatio_NoEnd k_NoRatio_NoRow k_NoRatio_ValueError k_NoCurve_CurveError k_NoCurve_NoRatio k_NoCurve_NoCurve k_NoCurve_NoTime k_NoCurve_NoHouse k_NoCurve_NoWay k_NoCurve_NoText k_NoCurve_NoName k_NoCurve_NoEnd k_NoCurve_NoRow k_NoCurve_ValueError k_NoText_CurveError k_NoText_NoRatio k_NoText_NoCurve k_NoText_NoTime k_NoText_NoHouse k_NoText_NoWay k_NoText_NoText k_NoText_NoName k_NoText_NoEnd k_NoText_NoRow k_NoText_ValueError
  exact MP.law_FD (n := n) (st := topS 44) PK X G hmg sc_law (by rfl) rfl rfl bd_law (fun _ _ _ _ _ _ s v => .of_eq rfl) a l c kp
end Q

namespace MP
open PySem PySem.Spec PyProof.Rows L2
theorem co_int {ct : CT} {K : PySem.W.Frag} {fa : Str → Option Addr} {x : Str} {i : Int} {t : Tok} (hn : PySem.W.nsIn K mainGlobals x = some (some (.int i t))) : CoK ct K fa x (.int i) := ⟨.int i, .int i t, .int i, rfl, hn, ⟨_, rfl⟩, fun H α => .int i⟩
theorem co_str {ct : CT} {K : PySem.W.Frag} {fa : Str → Option Addr} {x z : Str} {t : Tok} (hn : PySem.W.nsIn K mainGlobals x = some (some (.str z t))) : CoK ct K fa x (.str z) := ⟨.str z, .str z t, .str z, rfl, hn, ⟨_, rfl⟩, fun H α => .str z⟩
end MP
open PySem PySem.W PyProof.Rows
set_option maxHeartbeats 0 in
theorem PySem.Challenge.cw_curvehouse_k51_no_curves_texts_holds : PySem.Challenge.rw_curvehouse_k51_no_curves_texts.Holds := by
  w_on; o_law; k_head; (case hw => w_witness2)
  k_fill
  refine L2.walk_of (l := PySem.Challenge.rw_curvehouse_k51_no_curves_texts) (n := 63) (k := 20 + 1) (x := "_law_script") (CX := fun w => L2.CX PySem.Challenge.rw_curvehouse_k51_no_curves_texts.prog w) (sp := fun w => Q.spLaw 20 _) rfl (by decide) rfl ⟨rfl, by decide, by decide⟩ (fun w h Y => PySem.W.kIn_of Y) ?F (fun _ _ a ns hl hO hS => MP.law_sp hO hS (FP.law_of (Q.main ns hl))) (fun _ _ _ _ _ h => MP.law_noXD h)
  case F =>
    intro w mg fa h KX G hmg
    refine' Q.fin (n := 20) KX G hmg ?d_is_whole ?d_divisor ?d_ratio ?d_minus ?d_over ?d_under ?d_slope_between ?d_slopes_of ?d_folded ?d_made ?d_curve ?d_read_figures ?d_read_ratio ?d_read_corner ?d_read_curve ?d__law_cell_at ?d__law_lowest ?d__law_shown ?d__law_shown_corners ?d__law_curve_by ?d__law_more ?d__law_corners_spoiled ?d__law_text_spoiled ?d__law_refused ?d_law ?c_NOUGHT ?c_FIGURES ?c_MOST_FIGURES ?b_abs ?b_len ?b_int ?b_str ?b_tuple ?b_isinstance ?b_bool ?b_range ?b_ValueError ?l_CurveError ?l_NoRatio ?l_NoCurve ?l_NoTime ?l_NoHouse ?l_NoWay ?l_NoText ?l_NoName ?l_NoEnd ?l_NoRow ?r_NoRatio ?r_NoCurve ?r_NoText ?k_NoRatio_CurveError ?k_NoRatio_NoRatio ?k_NoRatio_NoCurve ?k_NoRatio_NoTime ?k_NoRatio_NoHouse ?k_NoRatio_NoWay ?k_NoRatio_NoText ?k_NoRatio_NoName ?k_NoRatio_NoEnd ?k_NoRatio_NoRow ?k_NoRatio_ValueError ?k_NoCurve_CurveError ?k_NoCurve_NoRatio ?k_NoCurve_NoCurve ?k_NoCurve_NoTime ?k_NoCurve_NoHouse ?k_NoCurve_NoWay ?k_NoCurve_NoText ?k_NoCurve_NoName ?k_NoCurve_NoEnd ?k_NoCurve_NoRow ?k_NoCurve_ValueError ?k_NoText_CurveError ?k_NoText_NoRatio ?k_NoText_NoCurve ?k_NoText_NoTime ?k_NoText_NoHouse ?k_NoText_NoWay ?k_NoText_NoText ?k_NoText_NoName ?k_NoText_NoEnd ?k_NoText_NoRow ?k_NoText_ValueError ?lA ?lL ?lC ?lK
    case d_is_whole =>
      refine' MP.defK_mk (st := Q.topS 12) Q.sc_is_whole (by rfl) rfl rfl Q.bd_is_whole (fun _ _ _ _ _ _ us hl => match us, hl with | [_], _ => rfl) ?a ?l ?c ?k
      (case a => k_is); (case l => k_is); (case c => k_is); (case k => k_is)
    case d_divisor =>
      refine' MP.defK_mk (st := Q.topS 13) Q.sc_divisor (by rfl) rfl rfl Q.bd_divisor (fun _ _ _ _ _ _ us hl => match us, hl with | [_, _], _ => rfl) ?a ?l ?c ?k
      (case a => k_is); (case l => k_is); (case c => k_is); (case k => k_is)
    case d_ratio =>
      refine' MP.defK_mk (st := Q.topS 16) Q.sc_ratio (by rfl) rfl rfl Q.bd_ratio (fun _ _ _ _ _ _ us hl => match us, hl with | [_, _], _ => rfl) ?a ?l ?c ?k
      (case a => k_is); (case l => k_is); (case c => k_is); (case k => k_is)
    case d_minus =>
      refine' MP.defK_mk (st := Q.topS 17) Q.sc_minus (by rfl) rfl rfl Q.bd_minus (fun _ _ _ _ _ _ us hl => match us, hl with | [_, _], _ => rfl) ?a ?l ?c ?k
      (case a => k_is); (case l => k_is); (case c => k_is); (case k => k_is)
    case d_over =>
      refine' MP.defK_mk (st := Q.topS 18) Q.sc_over (by rfl) rfl rfl Q.bd_over (fun _ _ _ _ _ _ us hl => match us, hl with | [_, _], _ => rfl) ?a ?l ?c ?k
      (case a => k_is); (case l => k_is); (case c => k_is); (case k => k_is)
    case d_under =>
      refine' MP.defK_mk (st := Q.topS 19) Q.sc_under (by rfl) rfl rfl Q.bd_under (fun _ _ _ _ _ _ us hl => match us, hl with | [_, _], _ => rfl) ?a ?l ?c ?k
      (case a => k_is); (case l => k_is); (case c => k_is); (case k => k_is)
    case d_slope_between =>
      refine' MP.defK_mk (st := Q.topS 21) Q.sc_slope_between (by rfl) rfl rfl Q.bd_slope_between (fun _ _ _ _ _ _ us hl => match us, hl with | [_, _], _ => rfl) ?a ?l ?c ?k
      (case a => k_is); (case l => k_is); (case c => k_is); (case k => k_is)
    case d_slopes_of =>
      refine' MP.defK_mk (st := Q.topS 22) Q.sc_slopes_of (by rfl) rfl rfl Q.bd_slopes_of (fun _ _ _ _ _ _ us hl => match us, hl with | [_, _], _ => rfl) ?a ?l ?c ?k
      (case a => k_is); (case l => k_is); (case c => k_is); (case k => k_is)
    case d_folded =>
      refine' MP.defK_mk (st := Q.topS 23) Q.sc_folded (by rfl) rfl rfl Q.bd_folded (fun _ _ _ _ _ _ us hl => match us, hl with | [_, _], _ => rfl) ?a ?l ?c ?k
      (case a => k_is); (case l => k_is); (case c => k_is); (case k => k_is)
    case d_made =>
      refine' MP.defK_mk (st := Q.topS 24) Q.sc_made (by rfl) rfl rfl Q.bd_made (fun _ _ _ _ _ _ us hl => match us, hl with | [_, _], _ => rfl) ?a ?l ?c ?k
      (case a => k_is); (case l => k_is); (case c => k_is); (case k => k_is)
    case d_curve =>
      refine' MP.defK_mk (st := Q.topS 25) Q.sc_curve (by rfl) rfl rfl Q.bd_curve (fun _ _ _ _ _ _ us hl => match us, hl with | [_, _], _ => rfl) ?a ?l ?c ?k
      (case a => k_is); (case l => k_is); (case c => k_is); (case k => k_is)
    case d_read_figures =>
      refine' MP.defK_mk (st := Q.topS 29) Q.sc_read_figures (by rfl) rfl rfl Q.bd_read_figures (fun _ _ _ _ _ _ us hl => match us, hl with | [_], _ => rfl) ?a ?l ?c ?k
      (case a => k_is); (case l => k_is); (case c => k_is); (case k => k_is)
    case d_read_ratio =>
      refine' MP.defK_mk (st := Q.topS 30) Q.sc_read_ratio (by rfl) rfl rfl Q.bd_read_ratio (fun _ _ _ _ _ _ us hl => match us, hl with | [_], _ => rfl) ?a ?l ?c ?k
      (case a => k_is); (case l => k_is); (case c => k_is); (case k => k_is)
    case d_read_corner =>
      refine' MP.defK_mk (st := Q.topS 31) Q.sc_read_corner (by rfl) rfl rfl Q.bd_read_corner (fun _ _ _ _ _ _ us hl => match us, hl with | [_], _ => rfl) ?a ?l ?c ?k
      (case a => k_is); (case l => k_is); (case c => k_is); (case k => k_is)
    case d_read_curve =>
      refine' MP.defX_mk (st := Q.topS 32) Q.sc_read_curve (by rfl) rfl rfl Q.bd_read_curve (fun _ _ _ _ _ _ us hl => match us, hl with | [_], _ => rfl) ?a ?l ?c ?k
      (case a => k_is); (case l => k_is); (case c => k_is); (case k => k_is)
    case d__law_cell_at =>
      refine' MP.defK_mk (st := Q.topS 34) Q.sc__law_cell_at (by rfl) rfl rfl Q.bd__law_cell_at (fun _ _ _ _ _ _ us hl => match us, hl with | [_, _], _ => rfl) ?a ?l ?c ?k
      (case a => k_is); (case l => k_is); (case c => k_is); (case k => k_is)
    case d__law_lowest =>
      refine' MP.defK_mk (st := Q.topS 35) Q.sc__law_lowest (by rfl) rfl rfl Q.bd__law_lowest (fun _ _ _ _ _ _ us hl => match us, hl with | [_, _], _ => rfl) ?a ?l ?c ?k
      (case a => k_is); (case l => k_is); (case c => k_is); (case k => k_is)
    case d__law_shown =>
      refine' MP.defK_mk (st := Q.topS 36) Q.sc__law_shown (by rfl) rfl rfl Q.bd__law_shown (fun _ _ _ _ _ _ us hl => match us, hl with | [_], _ => rfl) ?a ?l ?c ?k
      (case a => k_is); (case l => k_is); (case c => k_is); (case k => k_is)
    case d__law_shown_corners =>
      refine' MP.defK_mk (st := Q.topS 38) Q.sc__law_shown_corners (by rfl) rfl rfl Q.bd__law_shown_corners (fun _ _ _ _ _ _ us hl => match us, hl with | [_, _], _ => rfl) ?a ?l ?c ?k
      (case a => k_is); (case l => k_is); (case c => k_is); (case k => k_is)
    case d__law_curve_by =>
      refine' MP.defK_mk (st := Q.topS 39) Q.sc__law_curve_by (by rfl) rfl rfl Q.bd__law_curve_by (fun _ _ _ _ _ _ us hl => match us, hl with | [_], _ => rfl) ?a ?l ?c ?k
      (case a => k_is); (case l => k_is); (case c => k_is); (case k => k_is)
    case d__law_more =>
      refine' MP.defK_mk (st := Q.topS 40) Q.sc__law_more (by rfl) rfl rfl Q.bd__law_more (fun _ _ _ _ _ _ us hl => match us, hl with | [_], _ => rfl) ?a ?l ?c ?k
      (case a => k_is); (case l => k_is); (case c => k_is); (case k => k_is)
    case d__law_corners_spoiled =>
      refine' MP.defK_mk (st := Q.topS 41) Q.sc__law_corners_spoiled (by rfl) rfl rfl Q.bd__law_corners_spoiled (fun _ _ _ _ _ _ us hl => match us, hl with | [_, _, _], _ => rfl) ?a ?l ?c ?k
      (case a => k_is); (case l => k_is); (case c => k_is); (case k => k_is)
    case d__law_text_spoiled =>
      refine' MP.defK_mk (st := Q.topS 42) Q.sc__law_text_spoiled (by rfl) rfl rfl Q.bd__law_text_spoiled (fun _ _ _ _ _ _ us hl => match us, hl with | [_, _, _, _], _ => rfl) ?a ?l ?c ?k
      (case a => k_is); (case l => k_is); (case c => k_is); (case k => k_is)
    case d__law_refused =>
      refine' MP.defX_mk (st := Q.topS 43) Q.sc__law_refused (by rfl) rfl rfl Q.bd__law_refused (fun _ _ _ _ _ _ us hl => match us, hl with | [_], _ => rfl) ?a ?l ?c ?k
      (case a => k_is); (case l => k_is); (case c => k_is); (case k => k_is)
    case d_law =>
      refine' MP.defX_mk (st := Q.topS 44) Q.sc_law (by rfl) rfl rfl Q.bd_law (fun _ _ _ _ _ _ us hl => match us, hl with | [_], _ => rfl) ?a ?l ?c ?k
      (case a => k_is); (case l => k_is); (case c => k_is); (case k => k_is)
    case c_NOUGHT =>
      refine' MP.co_pair ?a ?l
      (case a => k_is); (case l => k_is)
    case c_FIGURES =>
      refine' MP.co_str ?a
      (case a => k_is)
    case c_MOST_FIGURES =>
      refine' MP.co_int ?a
      (case a => k_is)
    case b_abs => k_is
    case b_len => k_is
    case b_int => k_is
    case b_str => k_is
    case b_tuple => k_is
    case b_isinstance => k_is
    case b_bool => k_is
    case b_range => k_is
    case b_ValueError => k_is
    case l_CurveError =>
      refine' MP.cl_mk ?a
      (case a => k_is)
    case l_NoRatio =>
      refine' MP.cl_mk ?a
      (case a => k_is)
    case l_NoCurve =>
      refine' MP.cl_mk ?a
      (case a => k_is)
    case l_NoTime =>
      refine' MP.cl_mk ?a
      (case a => k_is)
    case l_NoHouse =>
      refine' MP.cl_mk ?a
      (case a => k_is)
    case l_NoWay =>
      refine' MP.cl_mk ?a
      (case a => k_is)
    case l_NoText =>
      refine' MP.cl_mk ?a
      (case a => k_is)
    case l_NoName =>
      refine' MP.cl_mk ?a
      (case a => k_is)
    case l_NoEnd =>
      refine' MP.cl_mk ?a
      (case a => k_is)
    case l_NoRow =>
      refine' MP.cl_mk ?a
      (case a => k_is)
    case r_NoRatio =>
      refine' ⟨_, ⟨?a, ?b, ?c, ?d, ?e, ⟨?f1, ?f2, ?f3, ?f4, ?f5, ?f6, ?f7, ?f8⟩⟩⟩
      (case a => k_is); (case b => k_exc); (case c => k_is); (case d => k_is); (case e => k_is); (case f1 => k_is); (case f2 => k_is); (case f3 => k_is); (case f4 => k_is); (case f5 => k_is); (case f6 => k_is); (case f7 => k_is); (case f8 => k_is)
    case r_NoCurve =>
      refine' ⟨_, ⟨?a, ?b, ?c, ?d, ?e, ⟨?f1, ?f2, ?f3, ?f4, ?f5, ?f6, ?f7, ?f8⟩⟩⟩
      (case a => k_is); (case b => k_exc); (case c => k_is); (case d => k_is); (case e => k_is); (case f1 => k_is); (case f2 => k_is); (case f3 => k_is); (case f4 => k_is); (case f5 => k_is); (case f6 => k_is); (case f7 => k_is); (case f8 => k_is)
    case r_NoText =>
      refine' ⟨_, ⟨?a, ?b, ?c, ?d, ?e, ⟨?f1, ?f2, ?f3, ?f4, ?f5, ?f6, ?f7, ?f8⟩⟩⟩
      (case a => k_is); (case b => k_exc); (case c => k_is); (case d => k_is); (case e => k_is); (case f1 => k_is); (case f2 => k_is); (case f3 => k_is); (case f4 => k_is); (case f5 => k_is); (case f6 => k_is); (case f7 => k_is); (case f8 => k_is)
    case k_NoRatio_CurveError =>
      refine' MP.kit_own (b := true) ?a ?a2 (by decide) (by decide) ?h1 ?h2 ?h3 ?h4 ?hn
      (case a => k_is); (case a2 => k_is); (case h1 => k_is); (case h2 => k_is); (case h3 => k_is); (case h4 => k_is); (case hn => exact .inl rfl)
    case k_NoRatio_NoRatio =>
      refine' MP.kit_own (b := true) ?a ?a2 (by decide) (by decide) ?h1 ?h2 ?h3 ?h4 ?hn
      (case a => k_is); (case a2 => k_is); (case h1 => k_is); (case h2 => k_is); (case h3 => k_is); (case h4 => k_is); (case hn => exact .inl rfl)
    case k_NoRatio_NoCurve =>
      refine' MP.kit_own (b := false) ?a ?a2 (by decide) (by decide) ?h1 ?h2 ?h3 ?h4 ?hn
      (case a => k_is); (case a2 => k_is); (case h1 => k_is); (case h2 => k_is); (case h3 => k_is); (case h4 => k_is); (case hn => exact .inr (by decide))
    case k_NoRatio_NoTime =>
      refine' MP.kit_own (b := false) ?a ?a2 (by decide) (by decide) ?h1 ?h2 ?h3 ?h4 ?hn
      (case a => k_is); (case a2 => k_is); (case h1 => k_is); (case h2 => k_is); (case h3 => k_is); (case h4 => k_is); (case hn => exact .inr (by decide))
    case k_NoRatio_NoHouse =>
      refine' MP.kit_own (b := false) ?a ?a2 (by decide) (by decide) ?h1 ?h2 ?h3 ?h4 ?hn
      (case a => k_is); (case a2 => k_is); (case h1 => k_is); (case h2 => k_is); (case h3 => k_is); (case h4 => k_is); (case hn => exact .inr (by decide))
    case k_NoRatio_NoWay =>
      refine' MP.kit_own (b := false) ?a ?a2 (by decide) (by decide) ?h1 ?h2 ?h3 ?h4 ?hn
      (case a => k_is); (case a2 => k_is); (case h1 => k_is); (case h2 => k_is); (case h3 => k_is); (case h4 => k_is); (case hn => exact .inr (by decide))
    case k_NoRatio_NoText =>
      refine' MP.kit_own (b := false) ?a ?a2 (by decide) (by decide) ?h1 ?h2 ?h3 ?h4 ?hn
      (case a => k_is); (case a2 => k_is); (case h1 => k_is); (case h2 => k_is); (case h3 => k_is); (case h4 => k_is); (case hn => exact .inr (by decide))
    case k_NoRatio_NoName =>
      refine' MP.kit_own (b := false) ?a ?a2 (by decide) (by decide) ?h1 ?h2 ?h3 ?h4 ?hn
      (case a => k_is); (case a2 => k_is); (case h1 => k_is); (case h2 => k_is); (case h3 => k_is); (case h4 => k_is); (case hn => exact .inr (by decide))
    case k_NoRatio_NoEnd =>
      refine' MP.kit_own (b := false) ?a ?a2 (by decide) (by decide) ?h1 ?h2 ?h3 ?h4 ?hn
      (case a => k_is); (case a2 => k_is); (case h1 => k_is); (case h2 => k_is); (case h3 => k_is); (case h4 => k_is); (case hn => exact .inr (by decide))
    case k_NoRatio_NoRow =>
      refine' MP.kit_own (b := false) ?a ?a2 (by decide) (by decide) ?h1 ?h2 ?h3 ?h4 ?hn
      (case a => k_is); (case a2 => k_is); (case h1 => k_is); (case h2 => k_is); (case h3 => k_is); (case h4 => k_is); (case hn => exact .inr (by decide))
    case k_NoRatio_ValueError =>
      refine' MP.kit_val (b := true) ?a (by decide) (by decide +kernel) ?k ?e
      (case a => k_is); (case k => k_is); (case e => k_is)
    case k_NoCurve_CurveError =>
      refine' MP.kit_own (b := true) ?a ?a2 (by decide) (by decide) ?h1 ?h2 ?h3 ?h4 ?hn
      (case a => k_is); (case a2 => k_is); (case h1 => k_is); (case h2 => k_is); (case h3 => k_is); (case h4 => k_is); (case hn => exact .inl rfl)
    case k_NoCurve_NoRatio =>
      refine' MP.kit_own (b := false) ?a ?a2 (by decide) (by decide) ?h1 ?h2 ?h3 ?h4 ?hn
      (case a => k_is); (case a2 => k_is); (case h1 => k_is); (case h2 => k_is); (case h3 => k_is); (case h4 => k_is); (case hn => exact .inr (by decide))
    case k_NoCurve_NoCurve =>
      refine' MP.kit_own (b := true) ?a ?a2 (by decide) (by decide) ?h1 ?h2 ?h3 ?h4 ?hn
      (case a => k_is); (case a2 => k_is); (case h1 => k_is); (case h2 => k_is); (case h3 => k_is); (case h4 => k_is); (case hn => exact .inl rfl)
    case k_NoCurve_NoTime =>
      refine' MP.kit_own (b := false) ?a ?a2 (by decide) (by decide) ?h1 ?h2 ?h3 ?h4 ?hn
      (case a => k_is); (case a2 => k_is); (case h1 => k_is); (case h2 => k_is); (case h3 => k_is); (case h4 => k_is); (case hn => exact .inr (by decide))
    case k_NoCurve_NoHouse =>
      refine' MP.kit_own (b := false) ?a ?a2 (by decide) (by decide) ?h1 ?h2 ?h3 ?h4 ?hn
      (case a => k_is); (case a2 => k_is); (case h1 => k_is); (case h2 => k_is); (case h3 => k_is); (case h4 => k_is); (case hn => exact .inr (by decide))
    case k_NoCurve_NoWay =>
      refine' MP.kit_own (b := false) ?a ?a2 (by decide) (by decide) ?h1 ?h2 ?h3 ?h4 ?hn
      (case a => k_is); (case a2 => k_is); (case h1 => k_is); (case h2 => k_is); (case h3 => k_is); (case h4 => k_is); (case hn => exact .inr (by decide))
    case k_NoCurve_NoText =>
      refine' MP.kit_own (b := false) ?a ?a2 (by decide) (by decide) ?h1 ?h2 ?h3 ?h4 ?hn
      (case a => k_is); (case a2 => k_is); (case h1 => k_is); (case h2 => k_is); (case h3 => k_is); (case h4 => k_is); (case hn => exact .inr (by decide))
    case k_NoCurve_NoName =>
      refine' MP.kit_own (b := false) ?a ?a2 (by decide) (by decide) ?h1 ?h2 ?h3 ?h4 ?hn
      (case a => k_is); (case a2 => k_is); (case h1 => k_is); (case h2 => k_is); (case h3 => k_is); (case h4 => k_is); (case hn => exact .inr (by decide))
    case k_NoCurve_NoEnd =>
      refine' MP.kit_own (b := false) ?a ?a2 (by decide) (by decide) ?h1 ?h2 ?h3 ?h4 ?hn
      (case a => k_is); (case a2 => k_is); (case h1 => k_is); (case h2 => k_is); (case h3 => k_is); (case h4 => k_is); (case hn => exact .inr (by decide))
    case k_NoCurve_NoRow =>
      refine' MP.kit_own (b := false) ?a ?a2 (by decide) (by decide) ?h1 ?h2 ?h3 ?h4 ?hn
      (case a => k_is); (case a2 => k_is); (case h1 => k_is); (case h2 => k_is); (case h3 => k_is); (case h4 => k_is); (case hn => exact .inr (by decide))
    case k_NoCurve_ValueError =>
      refine' MP.kit_val (b := true) ?a (by decide) (by decide +kernel) ?k ?e
      (case a => k_is); (case k => k_is); (case e => k_is)
    case k_NoText_CurveError =>
      refine' MP.kit_own (b := true) ?a ?a2 (by decide) (by decide) ?h1 ?h2 ?h3 ?h4 ?hn
      (case a => k_is); (case a2 => k_is); (case h1 => k_is); (case h2 => k_is); (case h3 => k_is); (case h4 => k_is); (case hn => exact .inl rfl)
    case k_NoText_NoRatio =>
      refine' MP.kit_own (b := false) ?a ?a2 (by decide) (by decide) ?h1 ?h2 ?h3 ?h4 ?hn
      (case a => k_is); (case a2 => k_is); (case h1 => k_is); (case h2 => k_is); (case h3 => k_is); (case h4 => k_is); (case hn => exact .inr (by decide))
    case k_NoText_NoCurve =>
      refine' MP.kit_own (b := false) ?a ?a2 (by decide) (by decide) ?h1 ?h2 ?h3 ?h4 ?hn
      (case a => k_is); (case a2 => k_is); (case h1 => k_is); (case h2 => k_is); (case h3 => k_is); (case h4 => k_is); (case hn => exact .inr (by decide))
    case k_NoText_NoTime =>
      refine' MP.kit_own (b := false) ?a ?a2 (by decide) (by decide) ?h1 ?h2 ?h3 ?h4 ?hn
      (case a => k_is); (case a2 => k_is); (case h1 => k_is); (case h2 => k_is); (case h3 => k_is); (case h4 => k_is); (case hn => exact .inr (by decide))
    case k_NoText_NoHouse =>
      refine' MP.kit_own (b := false) ?a ?a2 (by decide) (by decide) ?h1 ?h2 ?h3 ?h4 ?hn
      (case a => k_is); (case a2 => k_is); (case h1 => k_is); (case h2 => k_is); (case h3 => k_is); (case h4 => k_is); (case hn => exact .inr (by decide))
    case k_NoText_NoWay =>
      refine' MP.kit_own (b := false) ?a ?a2 (by decide) (by decide) ?h1 ?h2 ?h3 ?h4 ?hn
      (case a => k_is); (case a2 => k_is); (case h1 => k_is); (case h2 => k_is); (case h3 => k_is); (case h4 => k_is); (case hn => exact .inr (by decide))
    case k_NoText_NoText =>
      refine' MP.kit_own (b := true) ?a ?a2 (by decide) (by decide) ?h1 ?h2 ?h3 ?h4 ?hn
      (case a => k_is); (case a2 => k_is); (case h1 => k_is); (case h2 => k_is); (case h3 => k_is); (case h4 => k_is); (case hn => exact .inl rfl)
    case k_NoText_NoName =>
      refine' MP.kit_own (b := false) ?a ?a2 (by decide) (by decide) ?h1 ?h2 ?h3 ?h4 ?hn
      (case a => k_is); (case a2 => k_is); (case h1 => k_is); (case h2 => k_is); (case h3 => k_is); (case h4 => k_is); (case hn => exact .inr (by decide))
    case k_NoText_NoEnd =>
      refine' MP.kit_own (b := false) ?a ?a2 (by decide) (by decide) ?h1 ?h2 ?h3 ?h4 ?hn
      (case a => k_is); (case a2 => k_is); (case h1 => k_is); (case h2 => k_is); (case h3 => k_is); (case h4 => k_is); (case hn => exact .inr (by decide))
    case k_NoText_NoRow =>
      refine' MP.kit_own (b := false) ?a ?a2 (by decide) (by decide) ?h1 ?h2 ?h3 ?h4 ?hn
      (case a => k_is); (case a2 => k_is); (case h1 => k_is); (case h2 => k_is); (case h3 => k_is); (case h4 => k_is); (case hn => exact .inr (by decide))
    case k_NoText_ValueError =>
      refine' MP.kit_val (b := true) ?a (by decide) (by decide +kernel) ?k ?e
      (case a => k_is); (case k => k_is); (case e => k_is)
    (case lA => k_is); (case lL => k_is); (case lC => k_is); (case lK => k_is)

