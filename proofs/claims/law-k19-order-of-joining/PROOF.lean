import PyProof.Rows.All
import HandS.ForMost
import HandS.ForExc
import HandS.Wide
import HandS.IsInst
import HandS.ExcIs
import HandS.CallLocal
import HandS.CallSlots
import HandS.Rev
import HandS.SortKw
import HandS.TupAny
import HandS.SortInts
import HandS.More
import HandS.Text
import PySem.Challenge.RW_curvehouse_k19_order_of_joining
set_option pp.maxSteps 400
set_option Elab.async false
set_option linter.all false
set_option maxRecDepth 100000
set_option maxHeartbeats 4000000

/-! A small language (MP) for the pure part of the programs: its syntax, its evaluator. -/
namespace MP
open PySem

/-- a value -/
inductive D where
  | non | bl (b : Bool) | int (i : Int) | str (x : Str) | tup (xs : List D) | ref (n : Nat) | fn (f : Str) | exc (c : Str)
deriving Inhabited
/-- an object that may change -/
inductive Cell where
  | lst (xs : List D)
abbrev Hd := List Cell
inductive R (α : Type) where
  | ok (a : α) (L : Hd) | exc (c : Str) (L : Hd) | bad
def R.bind {α β : Type} (r : R α) (f : α → Hd → R β) : R β := match r with
  | .ok a L => f a L
  | .exc c L => .exc c L
  | .bad => .bad
@[simp] theorem R.bind_ok {α β : Type} (a : α) (L : Hd) (f : α → Hd → R β) : (R.ok a L).bind f = f a L := rfl
@[simp] theorem R.bind_exc {α β : Type} (c : Str) (L : Hd) (f : α → Hd → R β) : (R.exc c L : R α).bind f = .exc c L := rfl
@[simp] theorem R.bind_bad {α β : Type} (f : α → Hd → R β) : (R.bad : R α).bind f = .bad := rfl

inductive Bop where | add | sub | mul | fdiv | mod | pow
deriving DecidableEq
inductive Cop where | lt | le | gt | ge | eq | ne | in_ | nin
deriving DecidableEq
inductive Bi where | abs | len | max | min | int | str | list | tuple | sorted | sortedR
deriving DecidableEq
inductive Ty where | int | bool | str | tuple | list
deriving DecidableEq
inductive Me where | append | pop | popAt | clear | insert | reverse | partition | replace | split | startswith | join
deriving DecidableEq

/-- methods of a text -/
inductive Tm where | partition | split | startswith | join
deriving DecidableEq

inductive Ex where
  | bad | non | bl (b : Bool) | int (i : Int) | str (x : Str)
  | v (i : Nat)
  | k (x : Str) (e : Ex)
  | f (x : Str)
  | nil | cons (a b : Ex) | absent
  | tup (a : Ex) | lst (a : Ex)
  | bin (o : Bop) (a b : Ex)
  | neg (a : Ex) | not (a : Ex)
  | and (a b : Ex) | or (a b : Ex)
  | cmp (o : Cop) (a b : Ex)
  | isn (a : Ex) | notn (a : Ex)
  | ix (a i : Ex)
  | sl (a lo hi : Ex)
  | call (f : Str) (as : Ex)
  | callv (i : Nat) (as : Ex)
  | bi (b : Bi) (as : Ex)
  | isi (a : Ex) (t : Ty)
  | ise (i : Nat) (c : Str)
  | me (m : Me) (o as : Ex)
  | tm (m : Tm) (o as : Ex)
  | lc (s : Nat) (it c e : Ex)
  | rng (as : Ex)
  | rev (a : Ex)
deriving DecidableEq
inductive Sm where
  | bad | pass
  | seq (a b : Sm)
  | set (i : Nat) (e : Ex)
  | setix (a i e : Ex)
  | aug (i : Nat) (o : Bop) (e : Ex)
  | ex (e : Ex)
  | ite (c : Ex) (a b : Sm)
  | wh (c : Ex) (b : Sm)
  | for_ (s : Nat) (it : Ex) (b : Sm)
  | ret (e : Ex) | retn
  | brk | cnt
  | raise (c : Str)
  | try_ (b : Sm) (c : Str) (s : Option Nat) (h : Sm)
deriving DecidableEq
/-- a def: its parameters' count, its names' count, its body -/
structure Fd where
  np : Nat
  n : Nat
  body : Sm
deriving DecidableEq

abbrev Env := List (Option D)
def LIM : Nat := 1000000

def getL (L : Hd) (n : Nat) : Option (List D) := match L[n]? with
  | some (.lst xs) => some xs
  | none => none
def setL (L : Hd) (n : Nat) (xs : List D) : Hd := L.set n (.lst xs)
def alloc (xs : List D) (L : Hd) : R D := if xs.length ≤ LIM then .ok (.ref L.length) (L ++ [.lst xs]) else .bad

/-! ### operators -/
def mulOk (i j : Int) : Prop := (-(2 ^ 64) < i ∧ i < 2 ^ 64) ∨ (-(2 ^ 64) < j ∧ j < 2 ^ 64) ∨ i.natAbs.log2 + j.natAbs.log2 < 1000000
noncomputable instance (i j : Int) : Decidable (mulOk i j) := Classical.propDecidable _
def divOk (i j : Int) : Prop := j ≠ 0 ∧ Builtin.divisionGoesByPylong i j = false
noncomputable instance (i j : Int) : Decidable (divOk i j) := Classical.propDecidable _
def powOk (i j : Int) : Prop := 0 ≤ j ∧ j ≤ 1000000 ∧ i.natAbs < 2 ^ 64
instance (i j : Int) : Decidable (powOk i j) := by unfold powOk; infer_instance
noncomputable def binop (o : Bop) (x y : D) (L : Hd) : R D := match o, x, y with
  | .add, .int i, .int j => .ok (.int (i + j)) L
  | .add, .str a, .str b => if a.length + b.length ≤ LIM then .ok (.str (a ++ b)) L else .bad
  | .add, .tup a, .tup b => if a.length + b.length ≤ LIM then .ok (.tup (a ++ b)) L else .bad
  | .add, .ref n, .ref m => if n = 0 ∨ m = 0 then .bad else match getL L n, getL L m with
    | some a, some b => if a.length + b.length ≤ LIM then alloc (a ++ b) L else .bad
    | _, _ => .bad
  | .sub, .int i, .int j => .ok (.int (i - j)) L
  | .mul, .int i, .int j => if mulOk i j then .ok (.int (i * j)) L else .bad
  | .fdiv, .int i, .int j => if divOk i j then .ok (.int (i.fdiv j)) L else .bad
  | .mod, .int i, .int j => if j ≠ 0 then .ok (.int (i.fmod j)) L else .bad
  | .pow, .int i, .int j => if powOk i j then .ok (.int (i ^ j.toNat)) L else .bad
  | _, _, _ => .bad

def pyAll (f : D → Option PyData) : List D → Option (List PyData)
  | [] => some []
  | x :: xs => match f x, pyAll f xs with
    | some p, some ps => some (p :: ps)
    | _, _ => none
/-- a value as data, its lists as they stand -/
def pyOf (L : Hd) : Nat → D → Option PyData
  | 0, _ => none
  | _ + 1, .non => some .none
  | _ + 1, .bl b => some (.bool b)
  | _ + 1, .int i => some (.int i)
  | _ + 1, .str x => some (.str x)
  | n + 1, .tup xs => (pyAll (pyOf L n) xs).map PyData.tuple
  | n + 1, .ref r => match getL L r with
    | some xs => (pyAll (pyOf L n) xs).map PyData.list
    | none => none
  | _ + 1, _ => none
/-- how deep data may lie where it is compared -/
def DEEP : Nat := 12
def eqop (x y : D) (L : Hd) (f : Bool → Bool) : R D := match pyOf L DEEP x, pyOf L DEEP y with
  | some p, some q => if SeqAt.shaped p = true ∧ SeqAt.shaped q = true then .ok (.bl (f (PyData.eqv p q))) L else .bad
  | _, _ => .bad
def strsOf : List D → Option (List Str)
  | [] => some []
  | .str x :: xs => (strsOf xs).map (x :: ·)
  | _ :: _ => none
def cmpop (o : Cop) (x y : D) (L : Hd) : R D := match o, x, y with
  | .lt, .int i, .int j => .ok (.bl (decide (i < j))) L
  | .le, .int i, .int j => .ok (.bl (decide (i ≤ j))) L
  | .gt, .int i, .int j => .ok (.bl (decide (j < i))) L
  | .ge, .int i, .int j => .ok (.bl (decide (j ≤ i))) L
  | .eq, x, y => eqop x y L id
  | .ne, x, y => eqop x y L not
  | .in_, .str a, .str b => match a.cps.toList with
    | [c] => .ok (.bl (decide (c ∈ b.cps.toList))) L
    | _ => .bad
  | .nin, .str a, .str b => match a.cps.toList with
    | [c] => .ok (.bl (!decide (c ∈ b.cps.toList))) L
    | _ => .bad
  | .in_, .str a, .tup xs => match strsOf xs with
    | some ys => .ok (.bl (decide (a ∈ ys))) L
    | none => .bad
  | .nin, .str a, .tup xs => match strsOf xs with
    | some ys => .ok (.bl (!decide (a ∈ ys))) L
    | none => .bad
  | _, _, _ => .bad

/-! ### places, slices -/
def ixop (x i : D) (L : Hd) : R D := match x, i with
  | .tup xs, .int i => match L2.atI xs i with
    | some v => .ok v L
    | none => .bad
  | .ref n, .int i => match getL L n with
    | some xs => (match L2.atI xs i with
      | some v => .ok v L
      | none => .bad)
    | none => .bad
  | .str z, .int i => if z.length ≤ LIM then (match L2.atI z.cps.toList i with
    | some c => .ok (.str ⟨#[c]⟩) L
    | none => .bad) else .bad
  | _, _ => .bad
def cut {α : Type} (xs : List α) (lo hi : Option Int) : List α := (xs.drop (HT.sIx xs.length 0 lo)).take (HT.sIx xs.length xs.length hi - HT.sIx xs.length 0 lo)
def part : D → Option (Option Int)
  | .exc _ => some none
  | .int i => some (some i)
  | _ => none
/-- a slice of a value, its bounds known -/
def slop (x : D) (lo hi : Option Int) (L : Hd) : R D := match x with
  | .tup xs => .ok (.tup (cut xs lo hi)) L
  | .ref n => match getL L n with
    | some xs => alloc (cut xs lo hi) L
    | none => .bad
  | .str z => if z.length ≤ LIM then .ok (.str (L2.cutS z lo hi)) L else .bad
  | _ => .bad
def onPart (d : D) (f : Option Int → R D) : R D := match part d with
  | some o => f o
  | none => .bad

/-! ### built-in functions, methods -/
def intsOf : List D → Option (List Int)
  | [] => some []
  | .int x :: xs => (intsOf xs).map (x :: ·)
  | _ :: _ => none
def up (ns : List Int) : List Int := ns.mergeSort (fun a b => decide (a ≤ b))
def biop (b : Bi) (ds : List D) (L : Hd) : R D := match b, ds with
  | .abs, [.int i] => .ok (.int (if i < 0 then -i else i)) L
  | .len, [.tup xs] => .ok (.int xs.length) L
  | .len, [.ref n] => (match getL L n with
    | some xs => .ok (.int xs.length) L
    | none => .bad)
  | .len, [.str z] => if z.length ≤ LIM then .ok (.int z.length) L else .bad
  | .max, [.int i, .int j] => .ok (.int (if j > i then j else i)) L
  | .min, [.int i, .int j] => .ok (.int (if j < i then j else i)) L
  | .int, [.int i] => .ok (.int i) L
  | .int, [.bl k] => .ok (.int (if k then 1 else 0)) L
  | .int, [.str z] => (match intText? z with
    | some n => if z.length ≤ 640 then .ok (.int n) L else .bad
    | none => .bad)
  | .str, [.int i] => if i.natAbs.log2 < 1920 then .ok (.str (Str.ofString (toString i))) L else .bad
  | .list, [.tup xs] => alloc xs L
  | .list, [.ref n] => (match getL L n with
    | some xs => alloc xs L
    | none => .bad)
  | .tuple, [.tup xs] => .ok (.tup xs) L
  | .tuple, [.ref n] => (match getL L n with
    | some xs => .ok (.tup xs) L
    | none => .bad)
  | .sorted, [.ref n] => (match (getL L n).bind intsOf with
    | some ns => alloc ((up ns).map D.int) L
    | none => .bad)
  | .sortedR, [.ref n] => (match (getL L n).bind intsOf with
    | some ns => alloc ((up ns).reverse.map D.int) L
    | none => .bad)
  | _, _ => .bad
def tyop (x : D) (t : Ty) (L : Hd) : R D := match x with
  | .non => .ok (.bl false) L
  | .bl _ => .ok (.bl (t == .bool || t == .int)) L
  | .int _ => .ok (.bl (t == .int)) L
  | .str _ => .ok (.bl (t == .str)) L
  | .tup _ => .ok (.bl (t == .tuple)) L
  | .ref n => (match getL L n with
    | some _ => .ok (.bl (t == .list)) L
    | none => .bad)
  | _ => .bad
def popOk (i : Int) : Prop := -(2 ^ 63) ≤ i ∧ i < 2 ^ 63
noncomputable instance (i : Int) : Decidable (popOk i) := Classical.propDecidable _
noncomputable def meop (m : Me) (x : D) (ds : List D) (L : Hd) : R D := match m, x, ds with
  | .append, .ref n, [y] => if n = 0 then .bad else (match getL L n with
    | some xs => if xs.length < LIM then .ok .non (setL L n (xs ++ [y])) else .bad
    | none => .bad)
  | .pop, .ref n, [] => if n = 0 then .bad else (match getL L n with
    | some xs => (match xs[xs.length - 1]? with
      | some y => .ok y (setL L n xs.dropLast)
      | none => .bad)
    | none => .bad)
  | .popAt, .ref n, [.int i] => if n = 0 then .bad else (match getL L n with
    | some xs => (match L2.ixN xs.length i with
      | some k => (match xs[k]? with
        | some y => if popOk i then .ok y (setL L n (xs.eraseIdx k)) else .bad
        | none => .bad)
      | none => .bad)
    | none => .bad)
  | .clear, .ref n, [] => if n = 0 then .bad else (match getL L n with
    | some _ => .ok .non (setL L n [])
    | none => .bad)
  | .reverse, .ref n, [] => if n = 0 then .bad else (match getL L n with
    | some xs => .ok .non (setL L n xs.reverse)
    | none => .bad)
  | .insert, .ref n, [.int i, y] => if n = 0 then .bad else (match getL L n with
    | some xs => if 0 ≤ i ∧ i ≤ xs.length ∧ xs.length < LIM then .ok .non (setL L n (xs.take i.toNat ++ y :: xs.drop i.toNat)) else .bad
    | none => .bad)
  | _, _, _ => .bad
/-- a walked thing's things, a method of a text -/
def seqOf (d : D) (L : Hd) : Option (List D) := match d with
  | .tup xs => some xs
  | .ref n => getL L n
  | _ => none
def tmop (m : Tm) (x : D) (ds : List D) (L : Hd) : R D := match m, x, ds with
  | .partition, .str a, [.str b] => if (b.length == 0) = false ∧ a.length ≤ LIM then .ok (.tup [.str (Txt.partition a b).1, .str (Txt.partition a b).2.1, .str (Txt.partition a b).2.2]) L else .bad
  | .split, .str a, [.str b] => if (b.length == 0) = false ∧ a.length ≤ LIM then alloc ((Txt.split a b).map D.str) L else .bad
  | .startswith, .str a, [.str b] => .ok (.bl (Txt.startswith a b)) L
  | .join, .str a, [d] => (match (seqOf d L).bind strsOf with
    | some ys => if (ys.map (·.length)).sum + ys.length * a.length ≤ LIM then .ok (.str (Txt.join a ys)) L else .bad
    | none => .bad)
  | _, _, _ => .bad
def isStr (x : D) : Bool := match x with
  | .str _ => true
  | _ => false
/-- the receiver's kind -/
def recv (m : Me) (x : D) : Bool := match m, x with
  | .append, .ref _ => true
  | .pop, .ref _ => true
  | .popAt, .ref _ => true
  | .clear, .ref _ => true
  | .reverse, .ref _ => true
  | .insert, .ref _ => true
  | .partition, .str _ => true
  | .replace, .str _ => true
  | .split, .str _ => true
  | .startswith, .str _ => true
  | .join, .str _ => true
  | _, _ => false
/-- the exception classes: all stand straight under CurveError -/
def isSub (a b : Str) : Bool := a == b || b == "CurveError" || b == "ValueError"

/-! ### what is walked -/
/-- the items of a walked thing, and the list that is watched -/
def items (d : D) (L : Hd) : Option (Option Nat × List D) := match d with
  | .tup xs => some (none, xs)
  | .ref n => (getL L n).map fun xs => (some n, xs)
  | .str z => some (none, z.cps.toList.map fun c => D.str ⟨#[c]⟩)
  | _ => none
def small (i : Int) : Prop := -(2 ^ 40) ≤ i ∧ i ≤ 2 ^ 40
noncomputable instance (i : Int) : Decidable (small i) := Classical.propDecidable _
/-- lo, lo + c, .. -/
def steps (lo c : Int) : Nat → List D
  | 0 => []
  | n + 1 => .int lo :: steps (lo + c) c n
def rngOk (i j c : Int) : Prop := c ≠ 0 ∧ c.natAbs < 1073741824 ∧ Builtin.Range.small i j c = true ∧ 0 ≤ Builtin.Range.rangeSize i j c
noncomputable instance (i j c : Int) : Decidable (rngOk i j c) := Classical.propDecidable _
noncomputable def rngop (ds : List D) (L : Hd) : R D := match ds with
  | [.int j] => if small j then .ok (.tup (steps 0 1 j.toNat)) L else .bad
  | [.int i, .int j] => if small i ∧ small j then .ok (.tup (steps i 1 (j - i).toNat)) L else .bad
  | [.int i, .int j, .int c] => if rngOk i j c then .ok (.tup (steps i c (Builtin.Range.rangeSize i j c).toNat)) L else .bad
  | _ => .bad
def revop (d : D) (L : Hd) : R D := match d with
  | .tup xs => .ok (.tup xs.reverse) L
  | _ => .bad
/-- the watched list stands as it did -/
def seen (w : Option Nat) (xs : List D) (L : Hd) : Prop := match w with
  | none => True
  | some n => getL L n = some xs

open Classical in
/-- a comprehension's turns -/
noncomputable def lcGo (c e : D → Hd → R D) (w : Option Nat) (all : List D) : List D → Hd → R (List D)
  | [], L => if seen w all L then .ok [] L else .bad
  | x :: xs, L => if seen w all L then (match c x L with
    | .ok (.bl true) L1 => (match e x L1 with
      | .ok y L2 => (match lcGo c e w all xs L2 with
        | .ok ys L3 => .ok (y :: ys) L3
        | _ => .bad)
      | _ => .bad)
    | .ok (.bl false) L1 => lcGo c e w all xs L1
    | _ => .bad) else .bad

/-! ### expressions -/
def callOn (Φ : Str → List D → Hd → R D) (f : Str) (d : D) (L : Hd) : R D := match d with
  | .tup ds => Φ f ds L
  | _ => .bad
def onBl (d : D) (t f : R D) : R D := match d with
  | .bl true => t
  | .bl false => f
  | _ => .bad
/-- a name's value -/
def getV (o : Option (Option D)) (L : Hd) : R D := match o with
  | some (some (.exc _)) => .bad
  | some (some d) => .ok d L
  | _ => .bad
noncomputable def evE (Φ : Str → List D → Hd → R D) : Ex → Env → Hd → R D
  | .bad, _, _ => .bad
  | .non, _, L => .ok .non L
  | .bl b, _, L => .ok (.bl b) L
  | .int i, _, L => .ok (.int i) L
  | .str x, _, L => .ok (.str x) L
  | .v i, ρ, L => getV ρ[i]? L
  | .k _ e, _, L => evE Φ e [] L
  | .f x, _, L => .ok (.fn x) L
  | .nil, _, L => .ok (.tup []) L
  | .absent, _, L => .ok (.exc ⟨#[]⟩) L
  | .cons a b, ρ, L => (evE Φ a ρ L).bind fun x L => (evE Φ b ρ L).bind fun y L => (match y with
    | .tup ys => .ok (.tup (x :: ys)) L
    | _ => .bad)
  | .tup a, ρ, L => (evE Φ a ρ L).bind fun x L => (match x with
    | .tup xs => if xs.length ≤ LIM then .ok (.tup xs) L else .bad
    | _ => .bad)
  | .lst a, ρ, L => (evE Φ a ρ L).bind fun x L => (match x with
    | .tup xs => alloc xs L
    | _ => .bad)
  | .bin o a b, ρ, L => (evE Φ a ρ L).bind fun x L => (evE Φ b ρ L).bind fun y L => binop o x y L
  | .neg a, ρ, L => (evE Φ a ρ L).bind fun x L => (match x with
    | .int i => .ok (.int (-i)) L
    | _ => .bad)
  | .not a, ρ, L => (evE Φ a ρ L).bind fun x L => onBl x (.ok (.bl false) L) (.ok (.bl true) L)
  | .and a b, ρ, L => (evE Φ a ρ L).bind fun x L => onBl x (evE Φ b ρ L) (.ok (.bl false) L)
  | .or a b, ρ, L => (evE Φ a ρ L).bind fun x L => onBl x (.ok (.bl true) L) (evE Φ b ρ L)
  | .cmp o a b, ρ, L => (evE Φ a ρ L).bind fun x L => (evE Φ b ρ L).bind fun y L => cmpop o x y L
  | .isn a, ρ, L => (evE Φ a ρ L).bind fun x L => .ok (.bl (match x with | .non => true | _ => false)) L
  | .notn a, ρ, L => (evE Φ a ρ L).bind fun x L => .ok (.bl (match x with | .non => false | _ => true)) L
  | .ix a i, ρ, L => (evE Φ a ρ L).bind fun x L => (evE Φ i ρ L).bind fun y L => ixop x y L
  | .sl a lo hi, ρ, L => (evE Φ a ρ L).bind fun x L => (evE Φ lo ρ L).bind fun l L => onPart l fun l => (evE Φ hi ρ L).bind fun u L => onPart u fun u => slop x l u L
  | .call f as, ρ, L => (evE Φ as ρ L).bind fun d L => callOn Φ f d L
  | .callv i as, ρ, L => (match ρ[i]? with
    | some (some (.fn f)) => (evE Φ as ρ L).bind fun d L => (match callOn Φ f d L with
      | .ok d L => .ok d L
      | _ => .bad)
    | _ => .bad)
  | .bi b as, ρ, L => (evE Φ as ρ L).bind fun d L => (match d with
    | .tup ds => biop b ds L
    | _ => .bad)
  | .isi a t, ρ, L => (evE Φ a ρ L).bind fun x L => tyop x t L
  | .ise i c, ρ, L => (match ρ[i]? with
    | some (some (.exc a)) => .ok (.bl (isSub a c)) L
    | _ => .bad)
  | .me m o as, ρ, L => (evE Φ o ρ L).bind fun x L => if recv m x = true then (evE Φ as ρ L).bind fun d L => (match d with
    | .tup ds => meop m x ds L
    | _ => .bad) else .bad
  | .tm m o as, ρ, L => (evE Φ o ρ L).bind fun x L => if isStr x = true then (evE Φ as ρ L).bind fun d L => (match d with
    | .tup ds => tmop m x ds L
    | _ => .bad) else .bad
  | .lc s it c e, ρ, L => (evE Φ it ρ L).bind fun d L => (match items d L with
    | some (w, xs) => (lcGo (fun x L => evE Φ c (ρ.set s (some x)) L) (fun x L => evE Φ e (ρ.set s (some x)) L) w xs xs L).bind fun ys L => alloc ys L
    | none => .bad)
  | .rng as, ρ, L => (evE Φ as ρ L).bind fun d L => (match d with
    | .tup ds => rngop ds L
    | _ => .bad)
  | .rev a, ρ, L => (evE Φ a ρ L).bind fun d L => revop d L

/-! ### statements -/
inductive O where
  | nx (ρ : Env) (L : Hd) | rt (d : D) (L : Hd) | bk (ρ : Env) (L : Hd) | ct (ρ : Env) (L : Hd) | ex (c : Str) (ρ : Env) (L : Hd) | bad
def R.on {α : Type} (r : R α) (ρ : Env) (f : α → Hd → O) : O := match r with
  | .ok a L => f a L
  | .exc c L => .ex c ρ L
  | .bad => .bad
@[simp] theorem R.on_ok {α : Type} (a : α) (L : Hd) (ρ : Env) (f : α → Hd → O) : (R.ok a L).on ρ f = f a L := rfl
@[simp] theorem R.on_exc {α : Type} (c : Str) (L : Hd) (ρ : Env) (f : α → Hd → O) : (R.exc c L : R α).on ρ f = .ex c ρ L := rfl
@[simp] theorem R.on_bad {α : Type} (ρ : Env) (f : α → Hd → O) : (R.bad : R α).on ρ f = .bad := rfl
def O.then (o : O) (f : Env → Hd → O) : O := match o with
  | .nx ρ L => f ρ L
  | o => o
def ifB (d : D) (t f : O) : O := match d with
  | .bl true => t
  | .bl false => f
  | _ => .bad
/-- a loop's turn is over -/
def O.turn (o : O) (f : Env → Hd → O) : O := match o with
  | .nx ρ L => f ρ L
  | .ct ρ L => f ρ L
  | .bk ρ L => .nx ρ L
  | o => o
def whN (c : Env → Hd → R D) (b : Env → Hd → O) : Nat → Env → Hd → O
  | 0, _, _ => .bad
  | n + 1, ρ, L => (c ρ L).on ρ fun d L => ifB d ((b ρ L).turn fun ρ L => whN c b n ρ L) (.nx ρ L)
open Classical in
noncomputable def whL (c : Env → Hd → R D) (b : Env → Hd → O) (ρ : Env) (L : Hd) : O := if h : ∃ n, whN c b n ρ L ≠ .bad then whN c b (choose h) ρ L else .bad
open Classical in
noncomputable def forGo (b : Env → Hd → O) (s : Nat) (w : Option Nat) (all : List D) : List D → Env → Hd → O
  | [], ρ, L => if seen w all L then .nx ρ L else .bad
  | x :: xs, ρ, L => if seen w all L then (b (ρ.set s (some x)) L).turn fun ρ L => forGo b s w all xs ρ L else .bad
noncomputable def augop (o : Bop) (x : Int) (y : D) : Option Int := match o, y with
  | .add, .int y => some (x + y)
  | .sub, .int y => some (x - y)
  | _, _ => none
noncomputable def run (Φ : Str → List D → Hd → R D) : Sm → Env → Hd → O
  | .bad, _, _ => .bad
  | .pass, ρ, L => .nx ρ L
  | .seq a b, ρ, L => (run Φ a ρ L).then fun ρ L => run Φ b ρ L
  | .set i e, ρ, L => (evE Φ e ρ L).on ρ fun d L => .nx (ρ.set i (some d)) L
  | .setix a i e, ρ, L => (evE Φ e ρ L).on ρ fun y L => (evE Φ a ρ L).on ρ fun x L => (evE Φ i ρ L).on ρ fun k L => (match x, k with
    | .ref n, .int j => if n = 0 then .bad else (match getL L n with
      | some xs => (match L2.ixN xs.length j with
        | some p => .nx ρ (setL L n (xs.set p y))
        | none => .bad)
      | none => .bad)
    | _, _ => .bad)
  | .aug i o e, ρ, L => (match ρ[i]? with
    | some (some (.int x)) => (evE Φ e ρ L).on ρ fun y L => (match augop o x y with
      | some z => .nx (ρ.set i (some (.int z))) L
      | none => .bad)
    | _ => .bad)
  | .ex e, ρ, L => (evE Φ e ρ L).on ρ fun _ L => .nx ρ L
  | .ite c a b, ρ, L => (evE Φ c ρ L).on ρ fun d L => ifB d (run Φ a ρ L) (run Φ b ρ L)
  | .wh c b, ρ, L => whL (fun ρ L => evE Φ c ρ L) (fun ρ L => run Φ b ρ L) ρ L
  | .for_ s it b, ρ, L => (evE Φ it ρ L).on ρ fun d L => (match items d L with
    | some (w, xs) => forGo (fun ρ L => run Φ b ρ L) s w xs xs ρ L
    | none => .bad)
  | .ret e, ρ, L => (evE Φ e ρ L).on ρ fun d L => .rt d L
  | .retn, _, L => .rt .non L
  | .brk, ρ, L => .bk ρ L
  | .cnt, ρ, L => .ct ρ L
  | .raise c, ρ, L => .ex c ρ L
  | .try_ b c s h, ρ, L => (match run Φ b ρ L with
    | .ex c' ρ' L' => if isSub c' c = true then (match s with
      | none => (match run Φ h ρ' L' with
        | .ex _ _ _ => .bad
        | o => o)
      | some i => (match run Φ h (ρ'.set i (some (.exc c'))) L' with
        | .rt d L2 => .rt d L2
        | _ => .bad)) else .ex c' ρ' L'
    | o => o)
/-- a def's run -/
noncomputable def runF (Φ : Str → List D → Hd → R D) (fd : Fd) (ds : List D) (L : Hd) : R D :=
  if ds.length = fd.np then (match run Φ fd.body (ds.map some ++ List.replicate (fd.n - ds.length) none) L with
    | .nx _ L => .ok .non L
    | .rt d L => .ok d L
    | .ex c _ L => .exc c L
    | _ => .bad) else .bad
/-- a program's defs, run to a depth -/
noncomputable def runT (T : Str → Option Fd) : Nat → Str → List D → Hd → R D
  | 0, _, _, _ => .bad
  | k + 1, f, ds, L => match T f with
    | some fd => runF (runT T k) fd ds L
    | none => .bad
end MP

/-! What stands for a value of MP in the heap; operators by values. -/
namespace MP
open PySem PySem.Spec PyProof.Rows L2

section
variable (K : PySem.W.Frag) (fa : Str → Option Addr)
mutual
inductive RV (H : Hp) (α : List Addr) : D → V → Prop
  | non : RV H α .non .non
  | bl (b : Bool) : RV H α (.bl b) (.bl b)
  | int (i : Int) : RV H α (.int i) (.int i)
  | str (x : Str) : RV H α (.str x) (.str x)
  | tup {a : Addr} {ds : List D} {vs : List V} : SqT K H a vs → RVs H α ds vs → RV H α (.tup ds) (.ref a)
  | ref {n : Nat} {a : Addr} : α[n]? = some a → RV H α (.ref n) (.ref a)
  | fn {f : Str} {a : Addr} : fa f = some a → RV H α (.fn f) (.ref a)
inductive RVs (H : Hp) (α : List Addr) : List D → List V → Prop
  | nil : RVs H α [] []
  | cons {d : D} {v : V} {ds : List D} {vs : List V} : RV H α d v → RVs H α ds vs → RVs H α (d :: ds) (v :: vs)
end
def Frz (H : Hp) (a : Addr) (vs : List V) : Prop := (∃ o, H a = some (.frz o (.lst vs))) ∨
  ∃ (o : Obj) (its : Array Value) (n : Nat), K.lookup a = some o ∧ o.cls = .type "list" ∧ o.dict = none ∧ o.data = .seq its n ∧ its.size ≤ sizeLine ∧ Vals vs its.toList
/-- the lists: the script at place 0, the others may change -/
structure RHp (H : Hp) (α : List Addr) (L : Hd) : Prop where
  len : α.length = L.length
  ne : 0 < α.length
  nd : α.tail.Nodup
  zero : ∀ a xs, α[0]? = some a → L[0]? = some (.lst xs) → ∃ vs, RVs K fa H α xs vs ∧ Frz K H a vs
  lst : ∀ n a xs, α[n + 1]? = some a → L[n + 1]? = some (.lst xs) → ∃ vs, RVs K fa H α xs vs ∧ H a = some (.lst vs)
end
/-- from here to there: what stood stands, but the lists -/
structure Ext (H : Hp) (α : List Addr) (H' : Hp) (α' : List Addr) : Prop where
  app : ∃ β, α' = α ++ β ∧ ∀ b ∈ β, H b = none
  keep : ∀ b o, H b = some o → b ∉ α.tail → H' b = some o
  there : ∀ b, H' b = none → H b = none

theorem tail_app {α : Type} {l m : List α} (h : 0 < l.length) : (l ++ m).tail = l.tail ++ m := by
  cases l with
  | nil => simp at h
  | cons x r => rfl
theorem Ext.refl {H : Hp} {α : List Addr} : Ext H α H α := ⟨⟨[], by simp, fun _ h => by cases h⟩, fun _ _ h _ => h, fun _ h => h⟩
theorem Ext.trans {H H1 H2 : Hp} {α α1 α2 : List Addr} (hn : 0 < α.length) (e : Ext H α H1 α1) (f : Ext H1 α1 H2 α2) : Ext H α H2 α2 := by
  obtain ⟨β, rfl, h1⟩ := e.app
  obtain ⟨γ, rfl, h2⟩ := f.app
  refine ⟨⟨β ++ γ, by simp, fun b hb => ?_⟩, fun b o h hb => ?_, fun b h => e.there b (f.there b h)⟩
  · rcases List.mem_append.mp hb with hb | hb
    · exact h1 b hb
    · exact e.there b (h2 b hb)
  · refine f.keep b o (e.keep b o h hb) ?_
    rw [tail_app hn]
    intro hm
    rcases List.mem_append.mp hm with hm | hm
    · exact hb hm
    · rw [h1 b hm] at h
      cases h

section
variable {K : PySem.W.Frag} {fa : Str → Option Addr} {H H' : Hp} {α α' : List Addr} {L : Hd}
theorem RVs.length : ∀ {ds : List D} {vs : List V}, RVs K fa H α ds vs → ds.length = vs.length
  | _, _, .nil => rfl
  | _, _, .cons _ t => by
    rw [List.length_cons, List.length_cons, RVs.length t]
theorem RVs.get : ∀ {ds : List D} {vs : List V} {i : Nat} {d : D}, RVs K fa H α ds vs → ds[i]? = some d → ∃ v, vs[i]? = some v ∧ RV K fa H α d v
  | _, _, _, _, .nil, h => by simp at h
  | _, _, 0, _, .cons r _, h => by
    cases h
    exact ⟨_, rfl, r⟩
  | _, _, i + 1, _, .cons _ t, h => RVs.get (i := i) t h
theorem RVs.append : ∀ {ds es : List D} {vs us : List V}, RVs K fa H α ds vs → RVs K fa H α es us → RVs K fa H α (ds ++ es) (vs ++ us)
  | _, _, _, _, .nil, s => s
  | _, _, _, _, .cons r t, s => .cons r (RVs.append t s)
theorem RVs.take : ∀ {ds : List D} {vs : List V} (n : Nat), RVs K fa H α ds vs → RVs K fa H α (ds.take n) (vs.take n)
  | _, _, 0, _ => by simpa using RVs.nil
  | _, _, _ + 1, .nil => .nil
  | _, _, n + 1, .cons r t => .cons r (RVs.take n t)
theorem RVs.drop : ∀ {ds : List D} {vs : List V} (n : Nat), RVs K fa H α ds vs → RVs K fa H α (ds.drop n) (vs.drop n)
  | _, _, 0, r => r
  | _, _, _ + 1, .nil => .nil
  | _, _, n + 1, .cons _ t => RVs.drop n t
theorem RVs.set : ∀ {ds : List D} {vs : List V} {d : D} {v : V} (n : Nat), RVs K fa H α ds vs → RV K fa H α d v → RVs K fa H α (ds.set n d) (vs.set n v)
  | _, _, _, _, _, .nil, _ => .nil
  | _, _, _, _, 0, .cons _ t, r => .cons r t
  | _, _, _, _, n + 1, .cons q t, r => .cons q (RVs.set n t r)
theorem RVs.rev : ∀ {ds : List D} {vs : List V}, RVs K fa H α ds vs → RVs K fa H α ds.reverse vs.reverse
  | _, _, .nil => .nil
  | _, _, .cons r t => by
    rw [List.reverse_cons, List.reverse_cons]
    exact (RVs.rev t).append (.cons r .nil)
theorem RVs.erase : ∀ {ds : List D} {vs : List V} (n : Nat), RVs K fa H α ds vs → RVs K fa H α (ds.eraseIdx n) (vs.eraseIdx n)
  | _, _, _, .nil => .nil
  | _, _, 0, .cons _ t => t
  | _, _, n + 1, .cons q t => .cons q (RVs.erase n t)
theorem RVs.ints : ∀ {ds : List D} {vs : List V} {ns : List Int}, RVs K fa H α ds vs → intsOf ds = some ns → vs = ns.map V.int
  | _, _, _, .nil, h => by
    cases h
    rfl
  | _, _, ns, .cons (ds := ds) r t, h => by
    cases r with
    | int i =>
      cases q : intsOf ds with
      | none =>
        have h' : (intsOf ds).map (i :: ·) = some ns := h
        rw [q] at h'
        cases h'
      | some ms =>
        have h' : (intsOf ds).map (i :: ·) = some ns := h
        rw [q] at h'
        cases h'
        rw [RVs.ints t q]
        rfl
    | _ => cases h
theorem RVs.ofInts : ∀ (ns : List Int), RVs K fa H α (ns.map D.int) (ns.map V.int)
  | [] => .nil
  | i :: ns => .cons (.int i) (RVs.ofInts ns)

theorem Frz.seq {a : Addr} {vs : List V} (h : Frz K H a vs) : SqL K H a vs := by
  rcases h with ⟨o, h⟩ | h
  · exact .inl (.inr ⟨o, h⟩)
  · exact .inr h
theorem RHp.tl (h : RHp K fa H α L) : ∀ b ∈ α.tail, ∃ vs, H b = some (.lst vs) := fun b hb => by
  obtain ⟨i, hi⟩ := List.mem_iff_getElem?.mp hb
  have hi' : α[i + 1]? = some b := by
    rw [← hi]
    cases α <;> simp
  have hl : i + 1 < α.length := by
    obtain ⟨q, _⟩ := List.getElem?_eq_some_iff.mp hi'
    exact q
  rw [h.len] at hl
  cases q : L[i + 1] with
  | lst xs =>
    obtain ⟨vs, _, e⟩ := h.lst i b xs hi' (by rw [List.getElem?_eq_getElem hl, q])
    exact ⟨vs, e⟩
theorem RHp.seq (h : RHp K fa H α L) {n : Nat} {a : Addr} {xs : List D} (ha : α[n]? = some a) (hx : getL L n = some xs) : ∃ vs, RVs K fa H α xs vs ∧ SqL K H a vs := by
  have hx' : L[n]? = some (.lst xs) := by
    unfold getL at hx
    cases q : L[n]? with
    | none =>
      rw [q] at hx
      cases hx
    | some c =>
      cases c with
      | lst ys =>
        rw [q] at hx
        cases hx
        rfl
  cases n with
  | zero =>
    obtain ⟨vs, r, f⟩ := h.zero a xs ha hx'
    exact ⟨vs, r, f.seq⟩
  | succ n =>
    obtain ⟨vs, r, f⟩ := h.lst n a xs ha hx'
    exact ⟨vs, r, SqL.of f⟩
theorem RHp.mut (h : RHp K fa H α L) {n : Nat} {a : Addr} {xs : List D} (hn : n ≠ 0) (ha : α[n]? = some a) (hx : getL L n = some xs) : ∃ vs, RVs K fa H α xs vs ∧ H a = some (.lst vs) := by
  cases n with
  | zero => exact absurd rfl hn
  | succ n =>
    have hx' : L[n + 1]? = some (.lst xs) := by
      unfold getL at hx
      cases q : L[n + 1]? with
      | none =>
        rw [q] at hx
        cases hx
      | some c =>
        cases c with
        | lst ys =>
          rw [q] at hx
          cases hx
          rfl
    exact h.lst n a xs ha hx'
theorem RHp.has (h : RHp K fa H α L) {n : Nat} {xs : List D} (hx : getL L n = some xs) : ∃ a, α[n]? = some a := by
  have : n < L.length := by
    unfold getL at hx
    cases q : L[n]? with
    | none =>
      rw [q] at hx
      cases hx
    | some c =>
      obtain ⟨h1, _⟩ := List.getElem?_eq_some_iff.mp q
      exact h1
  rw [← h.len] at this
  exact ⟨_, List.getElem?_eq_getElem this⟩

/-! ### from here to there -/
theorem sqtExt {a : Addr} {vs : List V} (h : SqT K H a vs) (e : Ext H α H' α') (ht : ∀ b ∈ α.tail, ∃ vs, H b = some (.lst vs)) : SqT K H' a vs := by
  have no : ∀ o, H a = some o → (∀ vs, o ≠ .lst vs) → H' a = some o := fun o ho hd => e.keep a o ho fun hm => by
    obtain ⟨us, z⟩ := ht a hm
    rw [ho] at z
    cases z
    exact hd us rfl
  rcases h with (h | ⟨o, h⟩) | h
  · exact .inl (.inl (no _ h fun _ z => nomatch z))
  · exact .inl (.inr ⟨o, no _ h fun _ z => nomatch z⟩)
  · exact .inr h
mutual
theorem RV.ext (e : Ext H α H' α') (ht : ∀ b ∈ α.tail, ∃ vs, H b = some (.lst vs)) : ∀ {d : D} {v : V}, RV K fa H α d v → RV K fa H' α' d v
  | _, _, .non => .non
  | _, _, .bl b => .bl b
  | _, _, .int i => .int i
  | _, _, .str x => .str x
  | _, _, .tup h r => .tup (sqtExt h e ht) (RVs.ext e ht r)
  | _, _, .ref h => by
    obtain ⟨β, rfl, _⟩ := e.app
    refine .ref ?_
    rw [List.getElem?_append_left (List.getElem?_eq_some_iff.mp h).1]
    exact h
  | _, _, .fn h => .fn h
theorem RVs.ext (e : Ext H α H' α') (ht : ∀ b ∈ α.tail, ∃ vs, H b = some (.lst vs)) : ∀ {ds : List D} {vs : List V}, RVs K fa H α ds vs → RVs K fa H' α' ds vs
  | _, _, .nil => .nil
  | _, _, .cons r t => .cons (RV.ext e ht r) (RVs.ext e ht t)
end
theorem Frz.ext {a : Addr} {vs : List V} (h : Frz K H a vs) (e : Ext H α H' α') (ht : ∀ b ∈ α.tail, ∃ vs, H b = some (.lst vs)) : Frz K H' a vs := by
  rcases h with ⟨o, h⟩ | h
  · refine .inl ⟨o, e.keep a _ h fun hm => ?_⟩
    obtain ⟨us, z⟩ := ht a hm
    rw [h] at z
    cases z
  · exact .inr h
/-- a new thing that is no list of ours -/
theorem Ext.new {p : Addr} {o : HO} (hp : H p = none) : Ext H α (upd H p o) α := by
  refine ⟨⟨[], by simp, fun _ h => by cases h⟩, fun b u h _ => ?_, fun b h => ?_⟩
  · rw [upd_ne (ne_of_none h hp)]
    exact h
  · by_cases e : b = p
    · subst e
      exact hp
    · rw [upd_ne e] at h
      exact h
theorem RHp.new {p : Addr} {o : HO} (h : RHp K fa H α L) (hp : H p = none) : RHp K fa (upd H p o) α L := by
  have e : Ext H α (upd H p o) α := Ext.new hp
  refine ⟨h.len, h.ne, h.nd, fun a xs h1 h2 => ?_, fun n a xs h1 h2 => ?_⟩
  · obtain ⟨vs, r, f⟩ := h.zero a xs h1 h2
    exact ⟨vs, r.ext e h.tl, f.ext e h.tl⟩
  · obtain ⟨vs, r, f⟩ := h.lst n a xs h1 h2
    refine ⟨vs, r.ext e h.tl, ?_⟩
    rw [upd_ne (ne_of_none f hp)]
    exact f
/-- a new list -/
theorem Ext.alloc {p : Addr} {o : HO} (hp : H p = none) : Ext H α (upd H p o) (α ++ [p]) := by
  refine ⟨⟨[p], rfl, fun b hb => ?_⟩, fun b u h _ => ?_, fun b h => ?_⟩
  · have : b = p := by simpa using hb
    subst this
    exact hp
  · rw [upd_ne (ne_of_none h hp)]
    exact h
  · by_cases e : b = p
    · subst e
      exact hp
    · rw [upd_ne e] at h
      exact h
theorem RHp.alloc {p : Addr} {xs : List D} {vs : List V} (h : RHp K fa H α L) (hp : H p = none) (r : RVs K fa H α xs vs) : RHp K fa (upd H p (.lst vs)) (α ++ [p]) (L ++ [.lst xs]) := by
  have e : Ext H α (upd H p (.lst vs)) (α ++ [p]) := Ext.alloc hp
  refine ⟨by simp [h.len], by simp, ?_, fun a ys h1 h2 => ?_, fun n a ys h1 h2 => ?_⟩
  · rw [tail_app h.ne, List.nodup_append]
    refine ⟨h.nd, by simp, fun a ha b hb => ?_⟩
    have : b = p := by simpa using hb
    subst this
    intro q
    subst q
    obtain ⟨us, z⟩ := h.tl _ ha
    rw [hp] at z
    cases z
  · have hl : 0 < L.length := by rw [← h.len]; exact h.ne
    rw [List.getElem?_append_left h.ne] at h1
    rw [List.getElem?_append_left hl] at h2
    obtain ⟨us, r, f⟩ := h.zero a ys h1 h2
    exact ⟨us, r.ext e h.tl, f.ext e h.tl⟩
  · by_cases hn : n + 1 < α.length
    · rw [List.getElem?_append_left hn] at h1
      rw [List.getElem?_append_left (by rw [← h.len]; exact hn)] at h2
      obtain ⟨us, r, f⟩ := h.lst n a ys h1 h2
      refine ⟨us, r.ext e h.tl, ?_⟩
      rw [upd_ne (ne_of_none f hp)]
      exact f
    · have hm : n + 1 = α.length := by
        obtain ⟨q, _⟩ := List.getElem?_eq_some_iff.mp h1
        simp at q
        omega
      rw [hm, List.getElem?_append_right (Nat.le_refl _)] at h1
      rw [hm, h.len, List.getElem?_append_right (Nat.le_refl _)] at h2
      simp at h1 h2
      subst h1 h2
      exact ⟨vs, r.ext e h.tl, upd_same⟩
/-- a list changed -/
theorem Ext.set {a : Addr} {o : HO} (ha : a ∈ α.tail) (hx : ∃ u, H a = some u) : Ext H α (upd H a o) α := by
  refine ⟨⟨[], by simp, fun _ h => by cases h⟩, fun b u h hb => ?_, fun b h => ?_⟩
  · rw [upd_ne (fun e => hb (by rw [e]; exact ha))]
    exact h
  · by_cases e : b = a
    · subst e
      rw [upd_same] at h
      cases h
    · rw [upd_ne e] at h
      exact h
theorem mem_tail {n : Nat} {a : Addr} (h : α[n + 1]? = some a) : a ∈ α.tail := by
  cases α with
  | nil => simp at h
  | cons x r => exact List.mem_of_getElem? (i := n) (by simpa using h)
theorem RHp.set {n : Nat} {a : Addr} {xs : List D} {vs : List V} (h : RHp K fa H α L) (hn : n ≠ 0) (ha : α[n]? = some a) (r : RVs K fa H α xs vs) : RHp K fa (upd H a (.lst vs)) α (setL L n xs) ∧ Ext H α (upd H a (.lst vs)) α := by
  cases n with
  | zero => exact absurd rfl hn
  | succ n =>
    have hm := mem_tail ha
    have e : Ext H α (upd H a (.lst vs)) α := Ext.set hm (let ⟨us, z⟩ := h.tl a hm; ⟨_, z⟩)
    refine ⟨⟨by simp [h.len, setL], h.ne, h.nd, fun b ys h1 h2 => ?_, fun m b ys h1 h2 => ?_⟩, e⟩
    · have h2' : L[0]? = some (.lst ys) := by
        rw [← h2]
        unfold setL
        rw [List.getElem?_set_ne (by omega)]
      obtain ⟨us, r, f⟩ := h.zero b ys h1 h2'
      exact ⟨us, r.ext e h.tl, f.ext e h.tl⟩
    · by_cases hmn : m = n
      · subst hmn
        rw [ha] at h1
        cases h1
        have hl : m + 1 < L.length := by
          rw [← h.len]
          exact (List.getElem?_eq_some_iff.mp ha).1
        unfold setL at h2
        rw [List.getElem?_set_self hl] at h2
        cases h2
        exact ⟨vs, r.ext e h.tl, upd_same⟩
      · have h2' : L[m + 1]? = some (.lst ys) := by
          rw [← h2]
          unfold setL
          rw [List.getElem?_set_ne (by omega)]
        obtain ⟨us, r, f⟩ := h.lst m b ys h1 h2'
        refine ⟨us, r.ext e h.tl, ?_⟩
        have hba : b ≠ a := by
          intro q
          subst q
          have t1 : α.tail[m]? = some b := by
            rw [← h1]
            cases α <;> simp
          have t2 : α.tail[n]? = some b := by
            rw [← ha]
            cases α <;> simp
          exact hmn (nd_ix h.nd t1 t2)
        rw [upd_ne hba]
        exact f
end

/-! ### what is wanted behind a value -/
section
variable (K : PySem.W.Frag) (fa ca : Str → Option Addr)
/-- of a run that raises nothing -/
def PostV (r : R D) (H : Hp) (α : List Addr) (Q : VK) : Prop := match r with
  | .ok d L => ∀ v H' α', Ext H α H' α' → RHp K fa H' α' L → RV K fa H' α' d v → Q v H'
  | _ => False
def Post (W : WX) (σ : L2.St) (r : R D) (H : Hp) (α : List Addr) (Q : VK) : Prop := match r with
  | .ok d L => ∀ v H' α', Ext H α H' α' → RHp K fa H' α' L → RV K fa H' α' d v → Q v H'
  | .exc c L => ∀ C H' α', ca c = some C → Ext H α H' α' → RHp K fa H' α' L → W (.ref C) none σ H'
  | .bad => False
/-- of a test -/
def PostT (W : WX) (σ : L2.St) (r : R D) (H : Hp) (α : List Addr) (Q : Bool → Hp → Prop) : Prop := match r with
  | .ok d L => ∃ b, d = .bl b ∧ ∀ H' α', Ext H α H' α' → RHp K fa H' α' L → Q b H'
  | .exc c L => ∀ C H' α', ca c = some C → Ext H α H' α' → RHp K fa H' α' L → W (.ref C) none σ H'
  | .bad => False
/-- of an argument list -/
def PostA (W : WX) (σ : L2.St) (r : R D) (H : Hp) (α : List Addr) (Q : List V → Hp → Prop) : Prop := match r with
  | .ok d L => ∃ ds, d = .tup ds ∧ ∀ vs H' α', Ext H α H' α' → RHp K fa H' α' L → RVs K fa H' α' ds vs → Q vs H'
  | .exc c L => ∀ C H' α', ca c = some C → Ext H α H' α' → RHp K fa H' α' L → W (.ref C) none σ H'
  | .bad => False
/-- the names -/
def REnv (η : Option (Addr × Str)) (H : Hp) (α : List Addr) (ρ : Env) (σ : L2.St) : Prop :=
  ρ.length = σ.length ∧ (∀ (i : Nat) (d : D), ρ[i]? = some (some d) → (∀ c, d ≠ D.exc c) → ∃ v : V, σ[i]? = some (some v) ∧ RV K fa H α d v) ∧
    ∀ (i : Nat) (c : Str), ρ[i]? = some (some (D.exc c)) → ∃ a : Addr, η = some (a, c) ∧ σ[i]? = some (some (V.ref a))
def semE (W : WX) (η : Option (Addr × Str)) (ev : Env → Hd → R D) : TE := fun σ H Q => ∃ ρ L α, REnv K fa η H α ρ σ ∧ RHp K fa H α L ∧ Post K fa ca W σ (ev ρ L) H α Q
def semT (W : WX) (η : Option (Addr × Str)) (ev : Env → Hd → R D) : TT := fun σ H Q => ∃ ρ L α, REnv K fa η H α ρ σ ∧ RHp K fa H α L ∧ PostT K fa ca W σ (ev ρ L) H α Q
def semA (W : WX) (η : Option (Addr × Str)) (ev : Env → Hd → R D) : TA := fun σ H Q => ∃ ρ L α, REnv K fa η H α ρ σ ∧ RHp K fa H α L ∧ PostA K fa ca W σ (ev ρ L) H α Q
end
section
variable {K : PySem.W.Frag} {fa ca : Str → Option Addr} {H H' : Hp} {α α' : List Addr} {L : Hd} {ρ : Env} {σ : L2.St} {η : Option (Addr × Str)} {W : WX}
theorem REnv.ext (h : REnv K fa η H α ρ σ) (e : Ext H α H' α') (p : RHp K fa H α L) : REnv K fa η H' α' ρ σ := by
  refine ⟨h.1, fun i d h1 h2 => ?_, h.2.2⟩
  obtain ⟨v, h3, r⟩ := h.2.1 i d h1 h2
  exact ⟨v, h3, r.ext e p.tl⟩
theorem RV.noExc {d : D} {v : V} (r : RV K fa H α d v) : ∀ c, d ≠ .exc c := fun c e => by
  subst e
  cases r
theorem REnv.set {i : Nat} {d : D} {v : V} (h : REnv K fa η H α ρ σ) (r : RV K fa H α d v) : REnv K fa η H α (ρ.set i (some d)) (σ.set i (some v)) := by
  refine ⟨by simp [h.1], fun j e h1 h2 => ?_, fun j c h1 => ?_⟩
  · by_cases hj : i = j
    · subst hj
      by_cases hl : i < ρ.length
      · rw [List.getElem?_set_self hl] at h1
        cases h1
        exact ⟨v, List.getElem?_set_self (by rw [← h.1]; exact hl), r⟩
      · rw [List.getElem?_eq_none (by simpa using hl)] at h1
        cases h1
    · rw [List.getElem?_set_ne hj] at h1 ⊢
      exact h.2.1 j e h1 h2
  · by_cases hj : i = j
    · subst hj
      by_cases hl : i < ρ.length
      · rw [List.getElem?_set_self hl] at h1
        cases h1
        exact absurd rfl (r.noExc c)
      · rw [List.getElem?_eq_none (by simpa using hl)] at h1
        cases h1
    · rw [List.getElem?_set_ne hj] at h1 ⊢
      exact h.2.2 j c h1
theorem REnv.unset {i : Nat} (h : REnv K fa η H α ρ σ) : REnv K fa η H α (ρ.set i none) (σ.set i none) := by
  refine ⟨by simp [h.1], fun j e h1 h2 => ?_, fun j c h1 => ?_⟩
  · by_cases hj : i = j
    · subst hj
      by_cases hl : i < ρ.length
      · rw [List.getElem?_set_self hl] at h1
        cases h1
      · rw [List.getElem?_eq_none (by simpa using hl)] at h1
        cases h1
    · rw [List.getElem?_set_ne hj] at h1 ⊢
      exact h.2.1 j e h1 h2
  · by_cases hj : i = j
    · subst hj
      by_cases hl : i < ρ.length
      · rw [List.getElem?_set_self hl] at h1
        cases h1
      · rw [List.getElem?_eq_none (by simpa using hl)] at h1
        cases h1
    · rw [List.getElem?_set_ne hj] at h1 ⊢
      exact h.2.2 j c h1
/-- from a later point -/
theorem Post.from {r : R D} {Q : VK} (hn : 0 < α.length) (e : Ext H α H' α') (h : Post K fa ca W σ r H α Q) : Post K fa ca W σ r H' α' Q := by
  cases r with
  | ok d L => exact fun v H2 α2 e2 => h v H2 α2 (e.trans hn e2)
  | exc c L => exact fun C H2 α2 hc e2 => h C H2 α2 hc (e.trans hn e2)
  | bad => exact h
theorem PostV.from {r : R D} {Q : VK} (hn : 0 < α.length) (e : Ext H α H' α') (h : PostV K fa r H α Q) : PostV K fa r H' α' Q := by
  cases r with
  | ok d L => exact fun v H2 α2 e2 => h v H2 α2 (e.trans hn e2)
  | exc c L => exact h
  | bad => exact h
theorem PostT.from {r : R D} {Q : Bool → Hp → Prop} (hn : 0 < α.length) (e : Ext H α H' α') (h : PostT K fa ca W σ r H α Q) : PostT K fa ca W σ r H' α' Q := by
  cases r with
  | ok d L =>
    obtain ⟨b, hb, h⟩ := h
    exact ⟨b, hb, fun H2 α2 e2 => h H2 α2 (e.trans hn e2)⟩
  | exc c L => exact fun C H2 α2 hc e2 => h C H2 α2 hc (e.trans hn e2)
  | bad => exact h
theorem PostA.from {r : R D} {Q : List V → Hp → Prop} (hn : 0 < α.length) (e : Ext H α H' α') (h : PostA K fa ca W σ r H α Q) : PostA K fa ca W σ r H' α' Q := by
  cases r with
  | ok d L =>
    obtain ⟨b, hb, h⟩ := h
    exact ⟨b, hb, fun vs H2 α2 e2 => h vs H2 α2 (e.trans hn e2)⟩
  | exc c L => exact fun C H2 α2 hc e2 => h C H2 α2 hc (e.trans hn e2)
  | bad => exact h
/-- a run that raises nothing -/
def Calm (r : R D) : Prop := ∀ c L, r ≠ .exc c L
theorem Post.v {r : R D} {Q : VK} (c : Calm r) (h : Post K fa ca W σ r H α Q) : PostV K fa r H α Q := by
  cases r with
  | ok d L => exact h
  | exc x L => exact absurd rfl (c x L)
  | bad => exact h
/-- what comes first -/
theorem Post.first {r : R D} {f : D → Hd → R D} {Q Q' : VK} (hn : 0 < α.length) (h : Post K fa ca W σ (r.bind f) H α Q)
    (k : ∀ d L v H' α', r = .ok d L → Ext H α H' α' → RHp K fa H' α' L → RV K fa H' α' d v → Post K fa ca W σ (f d L) H' α' Q → Q' v H') : Post K fa ca W σ r H α Q' := by
  cases r with
  | ok d L => exact fun v H' α' e p rv => k d L v H' α' rfl e p rv (Post.from hn e h)
  | exc c L => exact h
  | bad => exact h
end

/-- r2 of the sem -/
def rSem2 (K : PySem.W.Frag) (fa : Str → Option Addr) (h : D → D → Hd → R D) : R2 := fun x y H Q => ∃ d e L α, RHp K fa H α L ∧ RV K fa H α d x ∧ RV K fa H α e y ∧ PostV K fa (h d e L) H α Q
def rSem1 (K : PySem.W.Frag) (fa : Str → Option Addr) (h : D → Hd → R D) : V → Hp → VK → Prop := fun x H Q => ∃ d L α, RHp K fa H α L ∧ RV K fa H α d x ∧ PostV K fa (h d L) H α Q
def rSemL (K : PySem.W.Frag) (fa : Str → Option Addr) (h : List D → Hd → R D) : List V → Hp → VK → Prop := fun xs H Q => ∃ ds L α, RHp K fa H α L ∧ RVs K fa H α ds xs ∧ PostV K fa (h ds L) H α Q
def rSemM (K : PySem.W.Frag) (fa : Str → Option Addr) (h : D → List D → Hd → R D) : V → List V → Hp → VK → Prop := fun x xs H Q => ∃ d ds L α, RHp K fa H α L ∧ RV K fa H α d x ∧ RVs K fa H α ds xs ∧ PostV K fa (h d ds L) H α Q
section
variable {K : PySem.W.Frag} {fa ca : Str → Option Addr} {H : Hp} {σ : L2.St} {η : Option (Addr × Str)} {W : WX} {Q : VK} {f g : Env → Hd → R D}
theorem sem2 {h : D → D → Hd → R D} (c : ∀ x y L, Calm (h x y L)) (q : semE K fa ca W η (fun ρ L => (f ρ L).bind fun x L => (g ρ L).bind fun y L => h x y L) σ H Q) :
    tOp (rSem2 K fa h) (semE K fa ca W η f) (semE K fa ca W η g) σ H Q := by
  obtain ⟨ρ, L, α, re, rp, q⟩ := q
  refine ⟨ρ, L, α, re, rp, q.first rp.ne fun d L1 v H1 α1 e0 e1 p1 r1 q1 => ?_⟩
  refine ⟨ρ, L1, α1, re.ext e1 rp, p1, q1.first p1.ne fun d2 L2 v2 H2 α2 e0 e2 p2 r2 q2 => ?_⟩
  exact ⟨d, d2, L2, α2, p2, r1.ext e2 p1.tl, r2, q2.v (c _ _ _)⟩
theorem sem1 {h : D → Hd → R D} (c : ∀ x L, Calm (h x L)) (q : semE K fa ca W η (fun ρ L => (f ρ L).bind fun x L => h x L) σ H Q) :
    tUn (rSem1 K fa h) (semE K fa ca W η f) σ H Q := by
  obtain ⟨ρ, L, α, re, rp, q⟩ := q
  refine ⟨ρ, L, α, re, rp, q.first rp.ne fun d L1 v H1 α1 e0 e1 p1 r1 q1 => ?_⟩
  exact ⟨d, L1, α1, p1, r1, q1.v (c _ _)⟩
end
section
variable {X : Cx} {e : Expr}
theorem peImp {t u : TE} (h : PE X e t) (i : ∀ σ H Q, u σ H Q → t σ H Q) : PE X e u := ⟨fun pins s σ H Q I q => h.run pins s σ H Q I (i σ H Q q)⟩
theorem ptImp {t u : TT} (h : PT X e t) (i : ∀ σ H Q, u σ H Q → t σ H Q) : PT X e u := ⟨fun pins s σ H Q I q => h.run pins s σ H Q I (i σ H Q q)⟩
theorem pwImp {t u : TT} (h : PW X e t) (i : ∀ σ H Q, u σ H Q → t σ H Q) : PW X e u := ⟨fun wh pins s σ H Q I q => h.run wh pins s σ H Q I (i σ H Q q)⟩
theorem paImp {es : List Expr} {t u : TA} (h : PA X es t) (i : ∀ σ H Q, u σ H Q → t σ H Q) : PA X es u := ⟨fun pos pins s σ H Q I q => h.run pos pins s σ H Q I (i σ H Q q)⟩
end
end MP

/-! Operators of MP by values, over the hand layer's rules. -/
namespace MP
open PySem PySem.Spec PyProof.Rows L2

theorem limLe {n : Nat} (h : n ≤ LIM) : n ≤ sizeLine := by
  rw [sizeLine_eq]
  unfold LIM at h
  omega
theorem limLt {n : Nat} (h : n < LIM) : n < sizeLine := by
  rw [sizeLine_eq]
  unfold LIM at h
  omega
section
variable {X : Cx} {fa : Str → Option Addr}
theorem op_mulA : OpR X (binaryOp .Mult) (rI mulOk fun i j => .int (i * j)) := opI fun i j _ _ _ _ _ hc q => mul_int q (by
  rcases hc with h | h | h
  · exact CMul.ok (.inl h)
  · exact CMul.ok (.inr h)
  · exact CMulW.ok h)
theorem op_fdivA : OpR X (binaryOp .FloorDiv) (rI divOk fun i j => .int (i.fdiv j)) := opI fun _ _ _ _ _ _ _ hc q => floordiv_int hc.1 q (.inl hc.2)

def toOp : Bop → Operator
  | .add => .Add
  | .sub => .Sub
  | .mul => .Mult
  | .fdiv => .FloorDiv
  | .mod => .Mod
  | .pow => .Pow
theorem binop_calm (o : Bop) (x y : D) (L : Hd) : Calm (binop o x y L) := fun c L' e => by
  unfold binop alloc at e
  repeat' split at e
  all_goals cases e
theorem alloc_calm (xs : List D) (L : Hd) : Calm (alloc xs L) := fun c L' e => by
  unfold alloc at e
  repeat' split at e
  all_goals cases e
/-- a new list, told -/
theorem alloc_post {K : PySem.W.Frag} {H : Hp} {α : List Addr} {L : Hd} {xs : List D} {vs : List V} {Q : VK} (p : RHp K fa H α L) (r : RVs K fa H α xs vs) (q : PostV K fa (alloc xs L) H α Q) :
    ∀ l, H l = none → Q (.ref l) (upd H l (.lst vs)) := fun l hl => by
  unfold alloc at q
  split at q
  · refine q _ _ _ (Ext.alloc hl) (p.alloc hl r) (.ref ?_)
    rw [← p.len, List.getElem?_append_right (Nat.le_refl _)]
    simp
  · exact q.elim
theorem alloc_lim {K : PySem.W.Frag} {H : Hp} {α : List Addr} {L : Hd} {xs : List D} {Q : VK} (q : PostV K fa (alloc xs L) H α Q) : xs.length ≤ LIM := by
  unfold alloc at q
  split at q
  · assumption
  · exact q.elim

theorem op_bin (o : Bop) : OpR X (binaryOp (toOp o)) (rSem2 X.K fa (binop o)) := by
  intro pins s σ H x y v u Q I rx ry h
  obtain ⟨d, e, L, α, p, r1, r2, q⟩ := h
  have fin : ∀ {c : D} {z : V}, PostV X.K fa (.ok c L) H α Q → (∀ {H' α'}, RV X.K fa H' α' c z) → Q z H := fun q r => q _ _ _ Ext.refl p r
  unfold binop at q
  split at q
  · cases r1; cases r2
    exact op_add pins s σ H _ _ v u Q I rx ry ⟨_, _, rfl, rfl, fin q (.int _)⟩
  · cases r1; cases r2
    split at q
    · exact op_add_str pins s σ H _ _ v u Q I rx ry ⟨_, _, rfl, rfl, limLe (by assumption), fin q (.str _)⟩
    · exact q.elim
  · cases r1 with
    | tup h1 r1 =>
      cases r2 with
      | tup h2 r2 =>
        split at q
        · rename_i hz
          rw [r1.length, r2.length] at hz
          refine op_catA pins s σ H _ _ v u Q I rx ry ⟨_, _, _, _, rfl, rfl, h1, h2, limLe hz, fun e1 => ?_, fun _ e2 => ?_, fun _ _ t ht => ?_⟩
          · subst e1
            cases r1
            exact q _ _ _ Ext.refl p (.tup h2 r2)
          · subst e2
            cases r2
            rw [List.append_nil] at q
            exact q _ _ _ Ext.refl p (.tup h1 r1)
          · exact q _ _ _ (Ext.new ht) (p.new ht) (.tup (SqT.of upd_same) ((r1.append r2).ext (Ext.new ht) p.tl))
        · exact q.elim
  · rename_i n m
    cases r1 with
    | ref h1 =>
      cases r2 with
      | ref h2 =>
        split at q
        · exact q.elim
        · rename_i hz
          have hz1 : n ≠ 0 := fun e => hz (.inl e)
          have hz2 : m ≠ 0 := fun e => hz (.inr e)
          split at q
          · rename_i a b ha hb
            split at q
            · rename_i hl
              obtain ⟨us, s1, f1⟩ := p.mut hz1 h1 ha
              obtain ⟨ws, s2, f2⟩ := p.mut hz2 h2 hb
              rw [s1.length, s2.length] at hl
              exact op_cat pins s σ H _ _ v u Q I rx ry ⟨_, _, _, _, rfl, rfl, f1, f2, limLe hl, alloc_post p (s1.append s2) q⟩
            · exact q.elim
          · exact q.elim
  · cases r1; cases r2
    exact op_sub pins s σ H _ _ v u Q I rx ry ⟨_, _, rfl, rfl, fin q (.int _)⟩
  · cases r1; cases r2
    split at q
    · exact op_mulA pins s σ H _ _ v u Q I rx ry ⟨_, _, rfl, rfl, by assumption, fin q (.int _)⟩
    · exact q.elim
  · cases r1; cases r2
    split at q
    · exact op_fdivA pins s σ H _ _ v u Q I rx ry ⟨_, _, rfl, rfl, by assumption, fin q (.int _)⟩
    · exact q.elim
  · cases r1; cases r2
    split at q
    · exact op_modN pins s σ H _ _ v u Q I rx ry ⟨_, _, rfl, rfl, by assumption, fin q (.int _)⟩
    · exact q.elim
  · cases r1; cases r2
    split at q
    · exact op_pow pins s σ H _ _ v u Q I rx ry ⟨_, _, rfl, rfl, by assumption, fin q (.int _)⟩
    · exact q.elim
  · exact q.elim

/-! ### comparisons -/
theorem pyAll_dp {K : PySem.W.Frag} {H : Hp} {α : List Addr} {f : D → Option PyData} (hf : ∀ d v p, f d = some p → RV K fa H α d v → Dp K H v p) : ∀ {ds : List D} {vs : List V} {ps : List PyData}, pyAll f ds = some ps → RVs K fa H α ds vs → DpAll K H vs ps
  | [], _, ps, h, .nil => by
    cases h
    exact .nil
  | d :: ds, _, ps, h, .cons r t => by
    unfold pyAll at h
    split at h
    · rename_i p ps' h1 h2
      cases h
      exact .cons (hf d _ p h1 r) (pyAll_dp hf h2 t)
    · cases h
theorem pyOf_dp {K : PySem.W.Frag} {H : Hp} {α : List Addr} {L : Hd} (hp : RHp K fa H α L) : ∀ (n : Nat) (d : D) (v : V) (p : PyData), pyOf L n d = some p → RV K fa H α d v → Dp K H v p
  | 0, _, _, _, h, _ => by
    unfold pyOf at h
    cases h
  | n + 1, d, v, p, h, r => by
    cases r with
    | non =>
      cases h
      exact .non
    | bl b =>
      cases h
      exact .bl b
    | int i =>
      cases h
      exact .int i
    | str x =>
      cases h
      exact .str x
    | @tup a ds vs hs rs =>
      cases q : pyAll (pyOf L n) ds with
      | none =>
        have h' : (pyAll (pyOf L n) ds).map PyData.tuple = some p := h
        rw [q] at h'
        cases h'
      | some ps =>
        have h' : (pyAll (pyOf L n) ds).map PyData.tuple = some p := h
        rw [q] at h'
        cases h'
        exact .tup hs (pyAll_dp (pyOf_dp hp n) q rs)
    | @ref m a ha =>
      have h' : (match getL L m with | some xs => (pyAll (pyOf L n) xs).map PyData.list | none => none) = some p := h
      split at h'
      · rename_i xs hx
        cases q : pyAll (pyOf L n) xs with
        | none =>
          rw [q] at h'
          cases h'
        | some ps =>
          rw [q] at h'
          cases h'
          obtain ⟨vs, rs, hs⟩ := hp.seq ha hx
          exact .lst hs (pyAll_dp (pyOf_dp hp n) q rs)
      · cases h'
    | fn hf => cases h
def toCmp : Cop → CmpOp
  | .lt => .Lt
  | .le => .LtE
  | .gt => .Gt
  | .ge => .GtE
  | .eq => .Eq
  | .ne => .NotEq
  | .in_ => .In
  | .nin => .NotIn
theorem eqop_calm (x y : D) (L : Hd) (f : Bool → Bool) : Calm (eqop x y L f) := fun c L' e => by
  unfold eqop at e
  repeat' split at e
  all_goals cases e
theorem cmpop_calm (o : Cop) (x y : D) (L : Hd) : Calm (cmpop o x y L) := fun c L' e => by
  unfold cmpop at e
  split at e
  all_goals first
    | exact eqop_calm _ _ _ _ c L' e
    | (repeat' split at e)
  all_goals cases e
theorem strs_flat {K : PySem.W.Frag} {H : Hp} {α : List Addr} {a : Str} : ∀ {ds : List D} {vs : List V} {ys : List Str}, strsOf ds = some ys → RVs K fa H α ds vs → vs.all flatV = true ∧ inV (.str a) vs = decide (a ∈ ys)
  | [], _, ys, h, .nil => by
    cases h
    exact ⟨rfl, by simp [inV]⟩
  | d :: ds, _, ys, h, .cons (v := v) (vs := vs) r t => by
    cases r with
    | str x =>
      cases q : strsOf ds with
      | none =>
        have h' : (strsOf ds).map (x :: ·) = some ys := h
        rw [q] at h'
        cases h'
      | some zs =>
        have h' : (strsOf ds).map (x :: ·) = some ys := h
        rw [q] at h'
        cases h'
        obtain ⟨h1, h2⟩ := strs_flat (a := a) q t
        refine ⟨by rw [List.all_cons, h1]; rfl, ?_⟩
        have e1 : inV (.str a) (V.str x :: vs) = ((x == a) || inV (.str a) vs) := rfl
        rw [e1, h2]
        by_cases hxa : a = x
        · subst hxa
          simp
        · have : (x == a) = false := by
            rw [beq_eq_false_iff_ne]
            exact fun z => hxa z.symm
          rw [this]
          simp [hxa]
    | _ => cases h
theorem op_cmp (hu : X.A.units + 64 < cLine) (o : Cop) : OpR X (compareOp (toCmp o)) (rSem2 X.K fa (cmpop o)) := by
  intro pins s σ H x y v u Q I rx ry h
  obtain ⟨d, e, L, α, p, r1, r2, q⟩ := h
  have fin : ∀ {k : Bool}, PostV X.K fa (.ok (.bl k) L) H α Q → Q (.bl k) H := fun q => q _ _ _ Ext.refl p (.bl _)
  unfold cmpop at q
  split at q
  · cases r1; cases r2
    exact op_lt pins s σ H _ _ v u Q I rx ry ⟨_, _, rfl, rfl, fin q⟩
  · cases r1; cases r2
    exact op_le pins s σ H _ _ v u Q I rx ry ⟨_, _, rfl, rfl, fin q⟩
  · cases r1; cases r2
    exact op_gt pins s σ H _ _ v u Q I rx ry ⟨_, _, rfl, rfl, fin q⟩
  · cases r1; cases r2
    exact op_ge pins s σ H _ _ v u Q I rx ry ⟨_, _, rfl, rfl, fin q⟩
  · unfold eqop at q
    split at q
    · rename_i a b ha hb
      split at q
      · rename_i hs
        exact op_eqD hu pins s σ H _ _ v u Q I rx ry ⟨a, b, pyOf_dp p _ _ _ _ ha r1, pyOf_dp p _ _ _ _ hb r2, hs.1, hs.2, fin q⟩
      · exact q.elim
    · exact q.elim
  · unfold eqop at q
    split at q
    · rename_i a b ha hb
      split at q
      · rename_i hs
        exact op_neD hu pins s σ H _ _ v u Q I rx ry ⟨a, b, pyOf_dp p _ _ _ _ ha r1, pyOf_dp p _ _ _ _ hb r2, hs.1, hs.2, fin q⟩
      · exact q.elim
    · exact q.elim
  · cases r1; cases r2
    rename_i a b
    split at q
    · rename_i c hc
      have ea : a = ⟨#[c]⟩ := by
        obtain ⟨⟨l⟩⟩ := a
        simp only at hc
        rw [hc]
      subst ea
      exact op_in_sign pins s σ H _ _ v u Q I rx ry ⟨_, _, rfl, rfl, fin q⟩
    · exact q.elim
  · cases r1; cases r2
    rename_i a b
    split at q
    · rename_i c hc
      have ea : a = ⟨#[c]⟩ := by
        obtain ⟨⟨l⟩⟩ := a
        simp only at hc
        rw [hc]
      subst ea
      exact op_notIn_sign pins s σ H _ _ v u Q I rx ry ⟨_, _, rfl, rfl, fin q⟩
    · exact q.elim
  · cases r1
    cases r2 with
    | tup h2 r2 =>
      split at q
      · rename_i ys hy
        obtain ⟨f1, f2⟩ := strs_flat (a := _) hy r2
        exact op_in_seq pins s σ H _ _ v u Q I rx ry ⟨_, _, rfl, .inr h2, rfl, f1, by
          rw [f2]
          exact fin q⟩
      · exact q.elim
  · cases r1
    cases r2 with
    | tup h2 r2 =>
      split at q
      · rename_i ys hy
        obtain ⟨f1, f2⟩ := strs_flat (a := _) hy r2
        exact op_notIn_seq pins s σ H _ _ v u Q I rx ry ⟨_, _, rfl, .inr h2, rfl, f1, by
          rw [f2]
          exact fin q⟩
      · exact q.elim
  · exact q.elim

/-! ### places -/
theorem atI_some {α : Type} {xs : List α} {i : Int} {v : α} (h : atI xs i = some v) : ∃ j, ixN xs.length i = some j ∧ xs[j]? = some v := by
  unfold atI at h
  cases q : ixN xs.length i with
  | none =>
    rw [q] at h
    cases h
  | some j =>
    rw [q] at h
    exact ⟨j, rfl, h⟩
theorem atI_of {α : Type} {xs : List α} {i : Int} {v : α} {j : Nat} (h : ixN xs.length i = some j) (h2 : xs[j]? = some v) : atI xs i = some v := by
  unfold atI
  rw [h]
  exact h2
theorem RVs.at {K : PySem.W.Frag} {H : Hp} {α : List Addr} {ds : List D} {vs : List V} {i : Int} {d : D} (r : RVs K fa H α ds vs) (h : atI ds i = some d) : ∃ v, atI vs i = some v ∧ RV K fa H α d v := by
  obtain ⟨j, h1, h2⟩ := atI_some h
  obtain ⟨v, h3, rv⟩ := r.get h2
  exact ⟨v, atI_of (by rw [← r.length]; exact h1) h3, rv⟩
theorem ixop_calm (x y : D) (L : Hd) : Calm (ixop x y L) := fun c L' e => by
  unfold ixop at e
  repeat' split at e
  all_goals cases e
theorem ix_sem : IxR X (rSem2 X.K fa ixop) := by
  intro value slice pins s σ H x y v u Q I rx ry h hs
  obtain ⟨d, e, L, α, p, r1, r2, q⟩ := h
  unfold ixop at q
  split at q
  · cases r2
    cases r1 with
    | tup h1 r1 =>
      split at q
      · rename_i z hz
        obtain ⟨w, h3, rw_⟩ := r1.at hz
        exact ix_tup value slice pins s σ H _ _ v u Q I rx ry ⟨_, _, _, _, rfl, rfl, h1, h3, q _ _ _ Ext.refl p rw_⟩ hs
      · exact q.elim
  · cases r2
    cases r1 with
    | ref h1 =>
      split at q
      · rename_i xs hx
        split at q
        · rename_i z hz
          obtain ⟨vs, rs, hq⟩ := p.seq h1 hx
          obtain ⟨w, h3, rw_⟩ := rs.at hz
          exact ix_list value slice pins s σ H _ _ v u Q I rx ry ⟨_, _, _, _, rfl, rfl, hq, h3, q _ _ _ Ext.refl p rw_⟩ hs
        · exact q.elim
      · exact q.elim
  · cases r1; cases r2
    split at q
    · rename_i hz
      split at q
      · rename_i c hc
        exact ix_str value slice pins s σ H _ _ v u Q I rx ry ⟨_, _, _, rfl, rfl, limLe hz, hc, q _ _ _ Ext.refl p (.str _)⟩ hs
      · exact q.elim
    · exact q.elim
  · exact q.elim
end
end MP

/-! Built-in functions, methods, slices of MP, over the hand layer's rules. -/
namespace MP
open PySem PySem.Spec PyProof.Rows L2

section
variable {X : Cx} {fa : Str → Option Addr}
theorem un_negS : UnR X (unaryOp .USub) (rSem1 X.K fa fun x L => match x with | .int i => .ok (.int (-i)) L | _ => .bad) := by
  intro pins s σ H x v Q I rx h
  obtain ⟨d, L, α, p, r1, q⟩ := h
  cases r1 with
  | int i => exact un_neg pins s σ H _ v Q I rx ⟨_, rfl, q _ _ _ Ext.refl p (.int _)⟩
  | _ => exact q.elim

/-! ### slices -/
theorem cut_len {α : Type} (xs : List α) (lo hi : Option Int) : (cut xs lo hi).length ≤ xs.length := by
  unfold cut
  rw [List.length_take, List.length_drop]
  omega
theorem RVs.cut {K : PySem.W.Frag} {H : Hp} {α : List Addr} {ds : List D} {vs : List V} (r : RVs K fa H α ds vs) (lo hi : Option Int) : RVs K fa H α (cut ds lo hi) (cutV vs lo hi) := by
  unfold MP.cut cutV
  rw [r.length]
  exact (r.drop _).take _
theorem cut_whole {α : Type} {xs : List α} {lo hi : Option Int} (h : HT.sIx xs.length 0 lo = 0 ∧ HT.sIx xs.length xs.length hi = xs.length) : cut xs lo hi = xs := by
  unfold cut
  rw [h.1, h.2]
  simp
def rSemS (K : PySem.W.Frag) (fa : Str → Option Addr) : V → Option Int → Option Int → Hp → VK → Prop := fun x lo hi H Q => ∃ d L α, RHp K fa H α L ∧ RV K fa H α d x ∧ PostV K fa (slop d lo hi L) H α Q
theorem slop_calm (x : D) (lo hi : Option Int) (L : Hd) : Calm (slop x lo hi L) := fun c L' e => by
  unfold slop alloc at e
  repeat' split at e
  all_goals cases e
theorem sl_sem : SlR X (rSemS X.K fa) := by
  intro pins s σ H x v vl vu lo hi sl Q I rx hs pl pu h
  obtain ⟨d, L, α, p, r1, q⟩ := h
  cases r1 with
  | tup h1 r1 =>
    refine sl_tupA pins s σ H _ v vl vu lo hi sl Q I rx hs pl pu ⟨_, _, rfl, h1, fun hw => ?_, fun _ t ht => ?_⟩
    · rw [← r1.length] at hw
      refine q _ _ _ Ext.refl p ?_
      rw [cut_whole hw]
      exact .tup h1 r1
    · exact q _ _ _ (Ext.new ht) (p.new ht) (.tup (SqT.of upd_same) ((r1.cut lo hi).ext (Ext.new ht) p.tl))
  | ref h1 =>
    unfold slop at q
    dsimp only at q
    split at q
    · rename_i xs hx
      obtain ⟨vs, rs, hq⟩ := p.seq h1 hx
      exact sl_list pins s σ H _ v vl vu lo hi sl Q I rx hs pl pu ⟨_, _, rfl, hq, alloc_post p (rs.cut lo hi) q⟩
    · exact q.elim
  | str z =>
    unfold slop at q
    dsimp only at q
    split at q
    · rename_i hz
      exact sl_str pins s σ H _ v vl vu lo hi sl Q I rx hs pl pu ⟨_, rfl, limLe hz, q _ _ _ Ext.refl p (.str _)⟩
    · exact q.elim
  | _ => exact q.elim

/-! ### built-in functions -/
theorem RVs.one {K : PySem.W.Frag} {H : Hp} {α : List Addr} {d : D} {vs : List V} (r : RVs K fa H α [d] vs) : ∃ v, vs = [v] ∧ RV K fa H α d v := by
  cases r with
  | cons r t =>
    cases t
    exact ⟨_, rfl, r⟩
theorem RVs.two {K : PySem.W.Frag} {H : Hp} {α : List Addr} {d e : D} {vs : List V} (r : RVs K fa H α [d, e] vs) : ∃ v w, vs = [v, w] ∧ RV K fa H α d v ∧ RV K fa H α e w := by
  cases r with
  | cons r t =>
    cases t with
    | cons r2 t2 =>
      cases t2
      exact ⟨_, _, rfl, r, r2⟩
theorem biop_calm (b : Bi) (ds : List D) (L : Hd) : Calm (biop b ds L) := fun c L' e => by
  unfold biop alloc at e
  repeat' split at e
  all_goals cases e
def toFn : Bi → Value
  | .abs => .builtin "abs"
  | .len => .builtin "len"
  | .max => .builtin "max"
  | .min => .builtin "min"
  | .int => .type "int"
  | .str => .type "str"
  | .list => .type "list"
  | .tuple => .type "tuple"
  | .sorted => .builtin "sorted"
  | .sortedR => .builtin "sorted"
theorem up_eq {ns ms : List Int} (h : ms.Perm ns) (s : ms.Pairwise (· ≤ ·)) : ms = up ns := by
  have h2 : (up ns).Perm ns := List.mergeSort_perm ns _
  have s2 : (up ns).Pairwise (· ≤ ·) := by
    have q := List.pairwise_mergeSort (le := fun a b : Int => decide (a ≤ b)) (by
      intro a b c h1 h2
      simp only [decide_eq_true_eq] at *
      omega) (by
      intro a b
      simp only [Bool.or_eq_true, decide_eq_true_eq]
      omega) ns
    exact q.imp (by
      intro a b h
      simpa using h)
  exact (h.trans h2.symm).eq_of_pairwise (by
    intro a b _ _ h1 h2
    omega) s s2
theorem down_eq {ns ms : List Int} (h : ms.Perm ns) (s : ms.Pairwise (· ≥ ·)) : ms = (up ns).reverse := by
  have h1 : ms.reverse = up ns := up_eq ((List.reverse_perm ms).trans h) (List.pairwise_reverse.mpr (s.imp fun h => h))
  rw [← h1, List.reverse_reverse]
theorem call_bi (hc : X.calm = true) (b : Bi) (hb : b ≠ .sortedR) : CallR X (toFn b) (rSemL X.K fa (biop b)) := by
  intro pins s σ H xs us Q I rs h
  obtain ⟨ds, L, α, p, r1, q⟩ := h
  unfold biop at q
  split at q
  · obtain ⟨v, rfl, r⟩ := r1.one
    cases r
    exact call_abs pins s σ H _ us Q I rs ⟨_, rfl, q _ _ _ Ext.refl p (.int _)⟩
  · obtain ⟨v, rfl, r⟩ := r1.one
    cases r with
    | tup h1 r2 =>
      refine call_len_seq pins s σ H _ us Q I rs ⟨_, _, rfl, .inr h1, ?_⟩
      rw [← r2.length]
      exact q _ _ _ Ext.refl p (.int _)
  · obtain ⟨v, rfl, r⟩ := r1.one
    cases r with
    | ref h1 =>
      split at q
      · rename_i xs hx
        obtain ⟨vs, r2, hq⟩ := p.seq h1 hx
        refine call_len_seq pins s σ H _ us Q I rs ⟨_, _, rfl, .inl hq, ?_⟩
        rw [← r2.length]
        exact q _ _ _ Ext.refl p (.int _)
      · exact q.elim
  · obtain ⟨v, rfl, r⟩ := r1.one
    cases r
    split at q
    · rename_i hz
      exact call_len_str pins s σ H _ us Q I rs ⟨_, rfl, limLe hz, q _ _ _ Ext.refl p (.int _)⟩
    · exact q.elim
  · obtain ⟨v, w, rfl, r, r'⟩ := r1.two
    cases r; cases r'
    exact call_max2 hc pins s σ H _ us Q I rs ⟨_, _, rfl, q _ _ _ Ext.refl p (.int _)⟩
  · obtain ⟨v, w, rfl, r, r'⟩ := r1.two
    cases r; cases r'
    exact call_min2 hc pins s σ H _ us Q I rs ⟨_, _, rfl, q _ _ _ Ext.refl p (.int _)⟩
  · obtain ⟨v, rfl, r⟩ := r1.one
    cases r
    exact call_int1 pins s σ H _ us Q I rs (.inl ⟨_, rfl, q _ _ _ Ext.refl p (.int _)⟩)
  · obtain ⟨v, rfl, r⟩ := r1.one
    cases r
    exact call_int1 pins s σ H _ us Q I rs (.inr ⟨_, rfl, q _ _ _ Ext.refl p (.int _)⟩)
  · obtain ⟨v, rfl, r⟩ := r1.one
    cases r
    split at q
    · rename_i n hn
      split at q
      · rename_i hz
        exact call_int_str pins s σ H _ us Q I rs ⟨_, _, rfl, hn, hz, q _ _ _ Ext.refl p (.int _)⟩
      · exact q.elim
    · exact q.elim
  · obtain ⟨v, rfl, r⟩ := r1.one
    cases r
    split at q
    · rename_i hz
      exact call_str_int pins s σ H _ us Q I rs ⟨_, rfl, hz, q _ _ _ Ext.refl p (.str _)⟩
    · exact q.elim
  · obtain ⟨v, rfl, r⟩ := r1.one
    cases r with
    | tup h1 r2 => exact call_list_of pins s σ H _ us Q I rs ⟨_, _, rfl, .inr h1, alloc_post p r2 q⟩
  · obtain ⟨v, rfl, r⟩ := r1.one
    cases r with
    | ref h1 =>
      split at q
      · rename_i xs hx
        obtain ⟨vs, r2, hq⟩ := p.seq h1 hx
        exact call_list_of pins s σ H _ us Q I rs ⟨_, _, rfl, .inl hq, alloc_post p r2 q⟩
      · exact q.elim
  · obtain ⟨v, rfl, r⟩ := r1.one
    cases r with
    | tup h1 r2 => exact call_tuple_of pins s σ H _ us Q I rs ⟨_, _, rfl, .inr ⟨h1, q _ _ _ Ext.refl p (.tup h1 r2)⟩⟩
  · obtain ⟨v, rfl, r⟩ := r1.one
    cases r with
    | ref h1 =>
      split at q
      · rename_i xs hx
        obtain ⟨vs, r2, hq⟩ := p.seq h1 hx
        exact call_tuple_of pins s σ H _ us Q I rs ⟨_, _, rfl, .inl ⟨hq, fun l hl => q _ _ _ (Ext.new hl) (p.new hl) (.tup (SqT.of upd_same) (r2.ext (Ext.new hl) p.tl))⟩⟩
      · exact q.elim
  · obtain ⟨v, rfl, r⟩ := r1.one
    cases r with
    | ref h1 =>
      split at q
      · rename_i ns hx
        cases hl : getL L _ with
        | none =>
          rw [hl] at hx
          cases hx
        | some ys =>
          rw [hl] at hx
          obtain ⟨vs, r2, hq⟩ := p.seq h1 hl
          have e := r2.ints hx
          subst e
          refine cr_sortedI pins s σ H _ us Q I rs ⟨_, _, rfl, hq, fun ns' l hp hs hn => ?_⟩
          rw [up_eq hp hs]
          exact alloc_post p (RVs.ofInts _) q l hn
      · exact q.elim
  · exact absurd rfl hb
  · exact q.elim
theorem call_sortedR : CallRK X (.builtin "sorted") [Str.ofString "reverse"] (fun xs zs H Q => zs = [.bl true] ∧ rSemL X.K fa (biop .sortedR) xs H Q) := by
  intro pins s σ H xs zs us ws Q I rs rz h
  obtain ⟨ez, ds, L, α, p, r1, q⟩ := h
  unfold biop at q
  split at q
  all_goals first
    | contradiction
    | exact q.elim
    | skip
  obtain ⟨v, rfl, r⟩ := r1.one
  cases r with
  | ref h1 =>
    split at q
    · rename_i ns hx
      cases hl : getL L _ with
      | none =>
        rw [hl] at hx
        cases hx
      | some ys =>
        rw [hl] at hx
        obtain ⟨vs, r2, hq⟩ := p.seq h1 hl
        have e := r2.ints hx
        subst e
        refine cr_sortedRev (b := true) pins s σ H _ zs us ws Q I rs rz ⟨_, _, rfl, ez, hq, fun ns' l hp hs hn => ?_⟩
        rw [down_eq hp hs]
        exact alloc_post p (RVs.ofInts _) q l hn
    · exact q.elim

/-! ### isinstance -/
def tn : Ty → String
  | .int => "int"
  | .bool => "bool"
  | .str => "str"
  | .tuple => "tuple"
  | .list => "list"
theorem kit_non : ∀ t : Ty, kitB "NoneType" (tn t) = some false := by intro t; cases t <;> decide +kernel
theorem kit_bl : ∀ t : Ty, kitB "bool" (tn t) = some (t == .bool || t == .int) := by intro t; cases t <;> decide +kernel
theorem kit_int : ∀ t : Ty, kitB "int" (tn t) = some (t == .int) := by intro t; cases t <;> decide +kernel
theorem kit_str : ∀ t : Ty, kitB "str" (tn t) = some (t == .str) := by intro t; cases t <;> decide +kernel
theorem kit_tup : ∀ t : Ty, kitB "tuple" (tn t) = some (t == .tuple) := by intro t; cases t <;> decide +kernel
theorem kit_lst : ∀ t : Ty, kitB "list" (tn t) = some (t == .list) := by intro t; cases t <;> decide +kernel
theorem tyop_calm (x : D) (t : Ty) (L : Hd) : Calm (tyop x t L) := fun c L' e => by
  unfold tyop at e
  repeat' split at e
  all_goals cases e
theorem isi_sem {K : PySem.W.Frag} {H : Hp} {α : List Addr} {L : Hd} {d : D} {x : V} {t : Ty} {Q : VK} (p : RHp K fa H α L) (r : RV K fa H α d x) (q : PostV K fa (tyop d t L) H α Q) : rIsi K [x, .ty (tn t)] H Q := by
  have fin : ∀ {k : Bool}, PostV K fa (.ok (.bl k) L) H α Q → Q (.bl k) H := fun q => q _ _ _ Ext.refl p (.bl _)
  cases r with
  | non => exact ⟨_, _, _, _, _, rfl, .ty _, .base .non, kit_ty (kit_non t), fin q⟩
  | bl b => exact ⟨_, _, _, _, _, rfl, .ty _, .base (.bl b), kit_ty (kit_bl t), fin q⟩
  | int i => exact ⟨_, _, _, _, _, rfl, .ty _, .base (.int i), kit_ty (kit_int t), fin q⟩
  | str z => exact ⟨_, _, _, _, _, rfl, .ty _, .base (.str z), kit_ty (kit_str t), fin q⟩
  | tup h1 r1 =>
    have q' := fin q
    rcases h1 with (h1 | ⟨o, h1⟩) | ⟨o, its, n, h1, hc, _⟩
    · exact ⟨_, _, _, _, _, rfl, .ty _, .base (.tup h1), kit_ty (kit_tup t), q'⟩
    · exact ⟨_, _, _, _, _, rfl, .ty _, .fTuple h1, kit_ty (kit_tup t), q'⟩
    · exact ⟨_, _, _, _, _, rfl, .ty _, .kTuple h1 hc, kit_ty (kit_tup t), q'⟩
  | ref h1 =>
    unfold tyop at q
    dsimp only at q
    split at q
    · rename_i xs hx
      have q' := fin q
      obtain ⟨vs, _, hq⟩ := p.seq h1 hx
      rcases hq with (h2 | ⟨o, h2⟩) | ⟨o, its, n, h2, hc, _⟩
      · exact ⟨_, _, _, _, _, rfl, .ty _, .base (.lst h2), kit_ty (kit_lst t), q'⟩
      · exact ⟨_, _, _, _, _, rfl, .ty _, .base (.frz h2), kit_ty (kit_lst t), q'⟩
      · exact ⟨_, _, _, _, _, rfl, .ty _, .kList h2 hc, kit_ty (kit_lst t), q'⟩
    · exact q.elim
  | fn h1 => exact q.elim

/-! ### methods of texts -/
theorem tmop_calm (m : Tm) (x : D) (ds : List D) (L : Hd) : Calm (tmop m x ds L) := fun c L' e => by
  unfold tmop at e
  repeat' split at e
  all_goals first
    | (cases e; done)
    | (unfold alloc at e
       split at e <;> cases e)
theorem strs_vs {K : PySem.W.Frag} {H : Hp} {α : List Addr} : ∀ {ds : List D} {vs : List V} {ys : List Str}, strsOf ds = some ys → RVs K fa H α ds vs → vs = ys.map V.str
  | [], _, ys, h, .nil => by
    cases h
    rfl
  | d :: ds, _, ys, h, .cons (v := v) (vs := vs) r t => by
    cases r with
    | str x =>
      cases q : strsOf ds with
      | none =>
        have h' : (strsOf ds).map (x :: ·) = some ys := h
        rw [q] at h'
        cases h'
      | some zs =>
        have h' : (strsOf ds).map (x :: ·) = some ys := h
        rw [q] at h'
        cases h'
        rw [strs_vs q t]
        rfl
    | _ => cases h
theorem rvs_strs {K : PySem.W.Frag} {H : Hp} {α : List Addr} : ∀ ys : List Str, RVs K fa H α (ys.map D.str) (ys.map V.str)
  | [] => .nil
  | y :: ys => .cons (.str y) (rvs_strs ys)
def tmId : Tm → String
  | .partition => "str.partition"
  | .split => "str.split"
  | .startswith => "str.startswith"
  | .join => "str.join"
theorem mt_tm (m : Tm) : MtR X (tmId m) (rSemM X.K fa (tmop m)) := by
  intro pins s σ H x xs v us Q I rx rs h
  obtain ⟨d, ds, L, α, p, r1, r2, q⟩ := h
  cases m with
  | partition =>
    unfold tmop at q
    split at q
    all_goals first
      | contradiction
      | exact q.elim
      | skip
    rename_i a b
    cases r1
    obtain ⟨w, rfl, rw_⟩ := r2.one
    cases rw_
    split at q
    · rename_i hb
      refine mt_partition pins s σ H _ _ v us Q I rx rs ⟨_, _, rfl, rfl, hb.1, limLe hb.2, fun t ht => ?_⟩
      exact q _ _ _ (Ext.new ht) (p.new ht) (.tup (SqT.of upd_same) (.cons (.str _) (.cons (.str _) (.cons (.str _) .nil))))
    · exact q.elim
  | split =>
    unfold tmop at q
    split at q
    all_goals first
      | contradiction
      | exact q.elim
      | skip
    rename_i a b
    cases r1
    obtain ⟨w, rfl, rw_⟩ := r2.one
    cases rw_
    split at q
    · rename_i hb
      refine mt_split pins s σ H _ _ v us Q I rx rs ⟨_, _, rfl, rfl, hb.1, ?_, alloc_post p (rvs_strs _) q⟩
      have := hb.2
      unfold LIM at this
      rw [sizeLine_eq]
      omega
    · exact q.elim
  | startswith =>
    unfold tmop at q
    split at q
    all_goals first
      | contradiction
      | exact q.elim
      | skip
    rename_i a b
    cases r1
    obtain ⟨w, rfl, rw_⟩ := r2.one
    cases rw_
    exact mt_startswith pins s σ H _ _ v us Q I rx rs ⟨_, _, rfl, rfl, q _ H α Ext.refl p (.bl _)⟩
  | join =>
    unfold tmop at q
    split at q
    all_goals first
      | contradiction
      | exact q.elim
      | skip
    cases r1
    obtain ⟨w, rfl, rw_⟩ := r2.one
    split at q
    · rename_i ys hy
      split at q
      · rename_i hl
        have hz := Nat.le_trans hl (show LIM ≤ 16777216 by decide)
        have key : ∃ t, w = .ref t ∧ (SqL X.K H t (ys.map V.str) ∨ SqT X.K H t (ys.map V.str)) := by
          cases rw_ with
          | tup hs ht =>
            have hy' : strsOf _ = some ys := hy
            rw [strs_vs hy' ht] at hs
            exact ⟨_, rfl, .inr hs⟩
          | ref h1 =>
            rename_i n t
            cases g : getL L n with
            | none =>
              have hy' : (getL L n).bind strsOf = some ys := hy
              rw [g] at hy'
              cases hy'
            | some zs =>
              have hy' : (getL L n).bind strsOf = some ys := hy
              rw [g] at hy'
              obtain ⟨vs, r3, hs⟩ := p.seq h1 g
              rw [strs_vs hy' r3] at hs
              exact ⟨_, rfl, .inl hs⟩
          | _ => cases hy
        obtain ⟨t, rfl, ht⟩ := key
        exact mt_join pins s σ H _ _ v us Q I rx rs ⟨_, _, _, rfl, rfl, ht, hz, q _ H α Ext.refl p (.str _)⟩
      · exact q.elim
    · exact q.elim

/-! ### methods -/
theorem meop_calm (m : Me) (x : D) (ds : List D) (L : Hd) : Calm (meop m x ds L) := fun c L' e => by
  unfold meop at e
  repeat' split at e
  all_goals cases e
theorem ixN_lt {n : Nat} {i : Int} {k : Nat} (h : ixN n i = some k) : seqIndex? i n = some k := (ixN_seq h).1
theorem mt_app : MtR X "list.append" (rSemM X.K fa (meop .append)) := by
  intro pins s σ H x xs v us Q I rx rs h
  obtain ⟨d, ds, L, α, p, r1, r2, q⟩ := h
  unfold meop at q
  split at q
  all_goals first
    | contradiction
    | exact q.elim
    | skip
  cases r1 with
  | ref h1 =>
    obtain ⟨w, rfl, rw_⟩ := r2.one
    split at q
    · exact q.elim
    · rename_i hn
      split at q
      · rename_i ys hy
        split at q
        · rename_i hl
          obtain ⟨vs, r3, hH⟩ := p.mut hn h1 hy
          rw [r3.length] at hl
          obtain ⟨p', e'⟩ := p.set hn h1 (r3.append (.cons rw_ .nil))
          exact mt_append pins s σ H _ _ v us Q I rx rs ⟨_, _, _, rfl, rfl, hH, limLt hl, q _ _ _ e' p' .non⟩
        · exact q.elim
      · exact q.elim
theorem mt_popS : MtR X "list.pop" (rSemM X.K fa (meop .pop)) := by
  intro pins s σ H x xs v us Q I rx rs h
  obtain ⟨d, ds, L, α, p, r1, r2, q⟩ := h
  unfold meop at q
  split at q
  all_goals first
    | contradiction
    | exact q.elim
    | skip
  cases r1 with
  | ref h1 =>
    cases r2
    split at q
    · exact q.elim
    · rename_i hn
      split at q
      · rename_i ys hy
        split at q
        · rename_i z hz
          obtain ⟨vs, r3, hH⟩ := p.mut hn h1 hy
          obtain ⟨w, hw, rw_⟩ := r3.get hz
          rw [r3.length] at hw
          have r4 : RVs X.K fa H α ys.dropLast vs.dropLast := by
            rw [List.dropLast_eq_take, List.dropLast_eq_take, r3.length]
            exact r3.take _
          obtain ⟨p', e'⟩ := p.set hn h1 r4
          exact mt_pop pins s σ H _ _ v us Q I rx rs ⟨_, _, _, rfl, rfl, hH, hw, q _ _ _ e' p' (rw_.ext e' p.tl)⟩
        · exact q.elim
      · exact q.elim
theorem mt_popAtS : MtR X "list.pop" (rSemM X.K fa (meop .popAt)) := by
  intro pins s σ H x xs v us Q I rx rs h
  obtain ⟨d, ds, L, α, p, r1, r2, q⟩ := h
  unfold meop at q
  split at q
  all_goals first
    | contradiction
    | exact q.elim
    | skip
  cases r1 with
  | ref h1 =>
    obtain ⟨w, rfl, rw_⟩ := r2.one
    cases rw_
    split at q
    · exact q.elim
    · rename_i hn
      split at q
      · rename_i ys hy
        split at q
        · rename_i k hk
          split at q
          · rename_i z hz
            split at q
            · rename_i hb
              obtain ⟨vs, r3, hH⟩ := p.mut hn h1 hy
              obtain ⟨w, hw, rw_⟩ := r3.get hz
              obtain ⟨p', e'⟩ := p.set hn h1 (r3.erase k)
              exact mt_popAt pins s σ H _ _ v us Q I rx rs ⟨_, _, _, _, _, rfl, rfl, hH, hb.1, hb.2, by rw [← r3.length]; exact ixN_lt hk, hw, q _ _ _ e' p' (rw_.ext e' p.tl)⟩
            · exact q.elim
          · exact q.elim
        · exact q.elim
      · exact q.elim
theorem mt_clearS : MtR X "list.clear" (rSemM X.K fa (meop .clear)) := by
  intro pins s σ H x xs v us Q I rx rs h
  obtain ⟨d, ds, L, α, p, r1, r2, q⟩ := h
  unfold meop at q
  split at q
  all_goals first
    | contradiction
    | exact q.elim
    | skip
  cases r1 with
  | ref h1 =>
    cases r2
    split at q
    · exact q.elim
    · rename_i hn
      split at q
      · rename_i ys hy
        obtain ⟨vs, r3, hH⟩ := p.mut hn h1 hy
        obtain ⟨p', e'⟩ := p.set hn h1 .nil
        exact mt_clear pins s σ H _ _ v us Q I rx rs ⟨_, _, rfl, rfl, hH, q _ _ _ e' p' .non⟩
      · exact q.elim
theorem mt_reverseS : MtR X "list.reverse" (rSemM X.K fa (meop .reverse)) := by
  intro pins s σ H x xs v us Q I rx rs h
  obtain ⟨d, ds, L, α, p, r1, r2, q⟩ := h
  unfold meop at q
  split at q
  all_goals first
    | contradiction
    | exact q.elim
    | skip
  cases r1 with
  | ref h1 =>
    cases r2
    split at q
    · exact q.elim
    · rename_i hn
      split at q
      · rename_i ys hy
        obtain ⟨vs, r3, hH⟩ := p.mut hn h1 hy
        obtain ⟨p', e'⟩ := p.set hn h1 r3.rev
        exact mt_reverse pins s σ H _ _ v us Q I rx rs ⟨_, _, rfl, rfl, hH, q _ _ _ e' p' .non⟩
      · exact q.elim
theorem mt_insertS : MtR X "list.insert" (rSemM X.K fa (meop .insert)) := by
  intro pins s σ H x xs v us Q I rx rs h
  obtain ⟨d, ds, L, α, p, r1, r2, q⟩ := h
  unfold meop at q
  split at q
  all_goals first
    | contradiction
    | exact q.elim
    | skip
  rename_i _ _ _ n i y _
  cases r1 with
  | ref h1 =>
    obtain ⟨w, z, rfl, rw_, rz⟩ := r2.two
    cases rw_
    split at q
    · exact q.elim
    · rename_i hn
      split at q
      · rename_i ys hy
        split at q
        · rename_i hb
          obtain ⟨vs, r3, hH⟩ := p.mut hn h1 hy
          have r4 := (r3.take i.toNat).append (RVs.cons rz (r3.drop i.toNat))
          obtain ⟨p', e'⟩ := p.set hn h1 r4
          have hl := hb.2.2
          rw [r3.length] at hl
          have h63 := line63
          refine mt_insert pins s σ H _ _ v us Q I rx rs ⟨_, _, _, _, rfl, rfl, hH, limLt hl, hb.1, ?_, ?_⟩
          · have := hb.2.1
            rw [r3.length] at this
            unfold LIM at hl
            omega
          · have q' := q _ _ _ e' p' .non
            simpa using q'
        · exact q.elim
      · exact q.elim
end
end MP

/-! From the program's text to MP; what is told of the context. -/
namespace MP
open PySem PySem.Spec PyProof.Rows L2

/-- what the text may name: defs, constants, exception classes, built-in names -/
structure CT where
  fns : List Str
  cst : List (Str × Ex)
  cls : List Str
  bt : List Str
  rs : List Str
def ixOf : List Str → Str → Option Nat
  | [], _ => none
  | y :: r, x => if y = x then some 0 else (ixOf r x).map (· + 1)
theorem ixOf_get : ∀ {N : List Str} {x : Str} {i : Nat}, ixOf N x = some i → N[i]? = some x
  | [], _, _, h => by cases h
  | y :: r, x, i, h => by
    unfold ixOf at h
    split at h
    · rename_i e
      cases h
      rw [e]
      rfl
    · cases q : ixOf r x with
      | none =>
        rw [q] at h
        cases h
      | some j =>
        rw [q] at h
        cases h
        have := ixOf_get q
        simpa using this
def isVis (sc : Scope) (x : Str) : Bool := match sc.names.lookup x with
  | some .local => true
  | some .cell => true
  | some .free => true
  | _ => false
def isLoc (sc : Scope) (x : Str) : Bool := match sc.names.lookup x with
  | some .local => true
  | _ => false
def isGl (sc : Scope) (x : Str) : Bool := match sc.names.lookup x with
  | some .globalImplicit => true
  | _ => false
theorem isVis_vis {sc : Scope} {x : Str} (h : isVis sc x = true) : Vis sc x := by
  unfold isVis at h
  split at h
  · exact .inl (by assumption)
  · exact .inr (.inl (by assumption))
  · exact .inr (.inr (by assumption))
  · cases h
theorem isLoc_loc {sc : Scope} {x : Str} (h : isLoc sc x = true) : sc.names.lookup x = some .local := by
  unfold isLoc at h
  split at h
  · assumption
  · cases h
theorem isGl_gl {sc : Scope} {x : Str} (h : isGl sc x = true) : sc.names.lookup x = some .globalImplicit := by
  unfold isGl at h
  split at h
  · assumption
  · cases h
def odd (x : Str) : Bool := x == ("__debug__" : Str) || x == ("__classdict__" : Str) || x == ("__name__" : Str)
theorem odd_d {x : Str} (h : odd x = false) : (x == ("__debug__" : Str)) = false := by
  unfold odd at h
  simp only [Bool.or_eq_false_iff] at h
  exact h.1.1
theorem odd_c {x : Str} (h : odd x = false) : (x == ("__classdict__" : Str)) = false := by
  unfold odd at h
  simp only [Bool.or_eq_false_iff] at h
  exact h.1.2
theorem odd_n {x : Str} (h : odd x = false) : x ≠ ("__name__" : Str) := by
  unfold odd at h
  simp only [Bool.or_eq_false_iff] at h
  exact beq_eq_false_iff_ne.mp h.2

def nameE (ct : CT) (N : List Str) (sc : Scope) (x : Str) : Ex := if odd x = true then .bad else
  if isVis sc x = true then (match ixOf N x with
    | some i => .v i
    | none => .bad)
  else if isGl sc x = true then (if ct.fns.contains x = true then .f x else match ct.cst.lookup x with
    | some e => .k x e
    | none => .bad)
  else .bad
def bopOf : Operator → Option Bop
  | .Add => some .add
  | .Sub => some .sub
  | .Mult => some .mul
  | .FloorDiv => some .fdiv
  | .Mod => some .mod
  | .Pow => some .pow
  | _ => none
theorem bopOf_to {o : Operator} {b : Bop} (h : bopOf o = some b) : o = toOp b := by cases o <;> cases h <;> rfl
def copOf : CmpOp → Option Cop
  | .Lt => some .lt
  | .LtE => some .le
  | .Gt => some .gt
  | .GtE => some .ge
  | .Eq => some .eq
  | .NotEq => some .ne
  | .In => some .in_
  | .NotIn => some .nin
  | _ => none
theorem copOf_to {o : CmpOp} {b : Cop} (h : copOf o = some b) : o = toCmp b := by cases o <;> cases h <;> rfl
def noSet : Expr → Bool
  | .Set .. => false
  | _ => true
theorem noSet_marks {op : CmpOp} {e : Expr} (h : noSet e = true) : behindInMarks op e = false := by
  cases e <;> first | rfl | cases h
def noSl : Expr → Bool
  | .Slice .. => false
  | _ => true
def isNone : Expr → Bool
  | .Constant .none _ _ => true
  | _ => false
def cmpE (op : CmpOp) (a b : Ex) (rb : Expr) : Ex := match copOf op with
  | some o => if noSet rb = true then .cmp o a b else .bad
  | none => (match op with
    | .Is => if isNone rb = true then .isn a else .bad
    | .IsNot => if isNone rb = true then .notn a else .bad
    | _ => .bad)
def boolL (o : BoolOp) : List Ex → Ex
  | [] => .bad
  | [a] => a
  | a :: b :: r => match o with
    | .And => .and a (boolL o (b :: r))
    | .Or => .or a (boolL o (b :: r))
def noStar1 : Expr → Bool
  | .Starred .. => false
  | _ => true
def noStar (es : List Expr) : Bool := es.all noStar1
def biOf (x : Str) : Option Bi := if x = "abs" then some .abs else if x = "len" then some .len else if x = "max" then some .max else if x = "min" then some .min else if x = "int" then some .int
  else if x = "str" then some .str else if x = "list" then some .list else if x = "tuple" then some .tuple else if x = "sorted" then some .sorted else none
def tyOf (x : Str) : Option Ty := if x = "int" then some .int else if x = "bool" then some .bool else if x = "str" then some .str else if x = "tuple" then some .tuple else if x = "list" then some .list else none
def meOf (x : Str) (n : Nat) : Option Me := if x = "append" ∧ n = 1 then some .append else if x = "pop" ∧ n = 0 then some .pop else if x = "pop" ∧ n = 1 then some .popAt else if x = "clear" ∧ n = 0 then some .clear
  else if x = "reverse" ∧ n = 0 then some .reverse else if x = "insert" ∧ n = 2 then some .insert else none
def tmOf (x : Str) (n : Nat) : Option Tm := if x = "partition" ∧ n = 1 then some .partition else if x = "split" ∧ n = 1 then some .split else if x = "startswith" ∧ n = 1 then some .startswith else if x = "join" ∧ n = 1 then some .join else none
def compA (ce : Expr → Ex) : List Expr → Ex
  | [] => .nil
  | e :: r => .cons (ce e) (compA ce r)
def optE (ce : Expr → Ex) : Option Expr → Ex
  | some e => ce e
  | none => .absent
def plainO : Expr → Bool
  | .Call .. => false
  | _ => true
def revKw : List Keyword → Bool
  | [⟨some x, .Constant (.bool true) _ _, _⟩] => x == ("reverse" : Str)
  | _ => false
def isiE (ct : CT) (N : List Str) (hot : Bool) (sc : Scope) (ce : Expr → Ex) : List Expr → Ex
  | [a, .Name t _] => if isGl sc t = true ∧ odd t = false ∧ ct.bt.contains "isinstance" = true ∧ noStar1 a = true then (if hot = true then (match a with
      | .Name y _ => if isVis sc y = true ∧ odd y = false ∧ ((ct.cls.contains t = true ∧ t ≠ "ValueError") ∨ (t = "ValueError" ∧ ct.bt.contains "ValueError" = true)) then (match ixOf N y with
        | some i => .ise i t
        | none => .bad) else .bad
      | _ => .bad)
    else (match tyOf t with
      | some ty => if ct.bt.contains t = true then .isi (ce a) ty else .bad
      | none => .bad)) else .bad
  | _ => .bad
def callE (ct : CT) (N : List Str) (hot : Bool) (sc : Scope) (ce : Expr → Ex) (f : Expr) (as : List Expr) (kws : List Keyword) (p : Pos) : Ex := match f with
  | .Name x _ => if odd x = true then .bad else
    if isVis sc x = true then (if hot = true ∨ noStar as = false ∨ as.isEmpty = true ∨ kws.isEmpty = false then .bad else match ixOf N x with
      | some i => .callv i (compA ce as)
      | none => .bad)
    else if isGl sc x = true then (if ct.fns.contains x = true then (if hot = true ∨ noStar as = false ∨ as.isEmpty = true ∨ kws.isEmpty = false then .bad else .call x (compA ce as))
      else if ct.bt.contains x = true then (if x = "isinstance" then (if kws.isEmpty = true then isiE ct N hot sc ce as else .bad)
        else if hot = true ∨ noStar as = false ∨ as.isEmpty = true then .bad
        else if x = "sorted" ∧ revKw kws = true then .bi .sortedR (compA ce as)
        else match biOf x with
          | some b => if kws.isEmpty = true then .bi b (compA ce as) else .bad
          | none => .bad)
      else .bad)
    else .bad
  | .Attribute o m ap => if hot = true ∨ kws.isEmpty = false ∨ noStar as = false ∨ plainO o = false ∨ (ap.endLine == p.line) = false then .bad else match meOf m as.length with
    | some k => .me k (ce o) (compA ce as)
    | none => (match tmOf m as.length with
      | some k => .tm k (ce o) (compA ce as)
      | none => .bad)
  | _ => .bad
def iterE (ct : CT) (sc : Scope) (ce : Expr → Ex) (it : Expr) : Ex := match it with
  | .Call (.Name x _) as kws _ => if isGl sc x = true ∧ odd x = false ∧ ct.bt.contains x = true ∧ x = "range" then (if noStar as = true ∧ kws.isEmpty = true ∧ 0 < as.length ∧ as.length ≤ 3 then .rng (compA ce as) else .bad)
    else if isGl sc x = true ∧ odd x = false ∧ ct.bt.contains x = true ∧ x = "reversed" then (match as with
      | [a] => if noStar1 a = true ∧ kws.isEmpty = true then .rev (ce a) else .bad
      | _ => .bad)
    else ce it
  | .Set .. => .bad
  | _ => ce it
def compE (ct : CT) (N : List Str) (hot : Bool) : Nat → Scope → Expr → Ex
  | 0, _, _ => .bad
  | n + 1, sc, e => match e with
    | .Constant c _ _ => (match c with
      | .none => .non
      | .bool b => .bl b
      | .int i => .int i
      | .str x => .str x
      | _ => .bad)
    | .Name x _ => nameE ct N sc x
    | .Tuple es _ _ => if noStar es = true then .tup (compA (compE ct N hot n sc) es) else .bad
    | .List es _ => if noStar es = true then .lst (compA (compE ct N hot n sc) es) else .bad
    | .BinOp a o b _ => (match bopOf o with
      | some o => .bin o (compE ct N hot n sc a) (compE ct N hot n sc b)
      | none => .bad)
    | .UnaryOp o a _ => (match o with
      | .USub => .neg (compE ct N hot n sc a)
      | .Not => .not (compE ct N hot n sc a)
      | _ => .bad)
    | .BoolOp o es _ => boolL o (es.map (compE ct N hot n sc))
    | .Compare a ops bs _ => (match ops, bs with
      | [op], [b] => cmpE op (compE ct N hot n sc a) (compE ct N hot n sc b) b
      | _, _ => .bad)
    | .Subscript a i _ => (match i with
      | .Slice lo hi st _ => (match st with
        | none => .sl (compE ct N hot n sc a) (optE (compE ct N hot n sc) lo) (optE (compE ct N hot n sc) hi)
        | some _ => .bad)
      | _ => .ix (compE ct N hot n sc a) (compE ct N hot n sc i))
    | .Call f as kws p => callE ct N hot sc (compE ct N hot n sc) f as kws p
    | .ListComp elt gs scope _ => if hot = true then .bad else (match gs with
      | [⟨.Name y _, it, ifs, 0⟩] => (match ixOf N y with
        | some i => if blkC N sc scope [(y, i)] = true ∧ isLoc (relS scope sc) y = true then (match ifs with
            | [] => .lc i (iterE ct sc (compE ct N hot n sc) it) (.bl true) (compE ct N hot n (relS scope sc) elt)
            | [c] => .lc i (iterE ct sc (compE ct N hot n sc) it) (compE ct N hot n (relS scope sc) c) (compE ct N hot n (relS scope sc) elt)
            | _ => .bad) else .bad
        | none => .bad)
      | _ => .bad)
    | _ => .bad
/-- a written constant's value -/
def lit : Ex → Option D
  | .int i => some (.int i)
  | .str x => some (.str x)
  | .bl b => some (.bl b)
  | .non => some .non
  | .nil => some (.tup [])
  | .cons a b => (match lit a, lit b with
    | some x, some (.tup ys) => some (.tup (x :: ys))
    | _, _ => none)
  | .tup a => (match lit a with
    | some (.tup xs) => if xs.length ≤ LIM then some (.tup xs) else none
    | _ => none)
  | _ => none
theorem lit_ev {Φ : Str → List D → Hd → R D} : ∀ {e : Ex} {d : D} {ρ : Env} {L : Hd}, lit e = some d → evE Φ e ρ L = .ok d L := by
  intro e
  induction e with
  | int i => intro d ρ L h; cases h; rfl
  | str i => intro d ρ L h; cases h; rfl
  | bl i => intro d ρ L h; cases h; rfl
  | non => intro d ρ L h; cases h; rfl
  | nil => intro d ρ L h; cases h; rfl
  | cons a b iha ihb =>
    intro d ρ L h
    unfold lit at h
    split at h
    · rename_i x ys hx hy
      cases h
      unfold evE
      rw [iha hx, R.bind_ok, ihb hy, R.bind_ok]
    · cases h
  | tup a iha =>
    intro d ρ L h
    unfold lit at h
    split at h
    · rename_i xs hx
      split at h
      · rename_i hl
        cases h
        unfold evE
        rw [iha hx, R.bind_ok]
        dsimp only
        rw [if_pos hl]
      · cases h
    · cases h
  | _ => intro d ρ L h; cases h

/-! ### what is told of the context -/
/-- a def's promise: its run -/
def spF (K : PySem.W.Frag) (fa ca : Str → Option Addr) (np : Nat) (φ : List D → Hd → R D) : Sp := fun vs H Q E => ∃ ds L α, ds.length = np ∧ RVs K fa H α ds vs ∧ RHp K fa H α L ∧ Post K fa ca (fun cls d _ H => E cls d H) [] (φ ds L) H α Q
structure FnK (P : Program) (w : World) (K : PySem.W.Frag) (mg : Str → Option Value) (base : Heap) (k : Nat) (fa ca : Str → Option Addr) (φ : List D → Hd → R D) (f : Str) : Prop where
  ex : ∃ (ad : Addr) (fd : FuncData) (ps : List Str), fa f = some ad ∧ mg f = some (.ref ad) ∧ PySem.W.keepIn K (.ref ad) = true ∧ Binds K fd ps [] ∧ (∀ ds L, ds.length ≠ ps.length → φ ds L = .bad) ∧
    FnOk P w K mg base (L2.CX P w) k ad fd ps (spF K fa ca ps.length φ)
/-- a class's name as a value -/
def clsV (mg : Str → Option Value) (c : Str) : Option Value := if c = "ValueError" then some (.type "ValueError") else mg c
structure Glb (ct : CT) (P : Program) (w : World) (K : PySem.W.Frag) (mg : Str → Option Value) (base : Heap) (k : Nat) (fa ca : Str → Option Addr) (Φ : Str → List D → Hd → R D) : Prop where
  fn : ∀ f, ct.fns.contains f = true → FnK P w K mg base k fa ca (Φ f) f
  fnv : ∀ f ad, fa f = some ad → ct.fns.contains f = true
  co : ∀ x e, ct.cst.lookup x = some e → ∃ d u v, lit e = some d ∧ mg x = some u ∧ RelV v u ∧ ∀ H α, RV K fa H α d v
  bt : ∀ x, ct.bt.contains x = true → mg x = none
  cl : ∀ c, ct.cls.contains c = true → ∃ C, mg c = some (.ref C)
  kit : ∀ c C c', ca c = some C → (ct.cls.contains c' = true ∨ c' = "ValueError") → ∃ u, clsV mg c' = some u ∧ PySem.W.kitOne K (.ref C) u = some (isSub c c') ∧ PySem.W.exmOne K (.ref C) u = some (isSub c c')
  rsd : ∀ c, ct.rs.contains c = true → ∃ C, ca c = some C
  rs : ∀ c C, ca c = some C → mg c = some (.ref C) ∧ PySem.W.excIn K C [.type "ValueError", .type "Exception", .type "BaseException", .type "object"] "ValueError.__new__" = true ∧ PySem.W.keepIn K (.ref C) = true ∧
    PySem.W.subIn K (.ref C) (.type "BaseException") = some true ∧ PySem.W.typeIn K (.ref C) = some (.type "type") ∧ ExcC K C
/-- the context of an expression -/
structure Cok (ct : CT) (k : Nat) (fa ca : Str → Option Addr) (Φ : Str → List D → Hd → R D) (hot : Bool) (W : WX) (η : Option (Addr × Str)) (X : Cx) : Prop where
  nd : X.N.Nodup
  tk : Takes X W
  calm : hot = false → X.calm = true
  room : hot = false → Room k X.A
  units : X.A.units + 64 < cLine
  gl : Glb ct X.prog X.w X.K X.mg X.base k fa ca Φ
  isE : ∀ a c, η = some (a, c) → hot = true ∧ ∃ C, ca c = some C ∧ CallR X (.builtin "isinstance") (rIsE X.K C a)

/-! ### statements -/
def isSto (sc : Scope) (x : Str) : Bool := match sc.names.lookup x with
  | some .local => true
  | some .cell => true
  | _ => false
theorem isSto_loc {sc : Scope} {x : Str} (h : isSto sc x = true) : Loc sc x := by
  unfold isSto at h
  split at h
  · exact .inl (by assumption)
  · exact .inr (by assumption)
  · cases h
/-- no comprehension -/
def noComp : Expr → Bool
  | .ListComp .. => false
  | .SetComp .. => false
  | .DictComp .. => false
  | _ => true
/-- a name that a comprehension within reads, too -/
def isCel (sc : Scope) (x : Str) : Bool := match sc.names.lookup x with
  | some .cell => true
  | _ => false
/-- a comprehension that is stored at once -/
def compSto (sc : Scope) (x : Str) (px : Pos) : Expr → Bool
  | .ListComp _ [⟨_, _, _, _⟩] scope p => isLoc sc x && (px.line == p.line) && !(scope.names.any fun (n, k) => n == x && (k == .local || k == .cell))
  | _ => false
def compB (f : Stmt → Sm) : List Stmt → Sm
  | [] => .pass
  | s :: r => .seq (f s) (compB f r)
def DEPTH : Nat := 60
def raiseE (ct : CT) (sc : Scope) : Expr → Sm
  | .Call (.Name c _) [.Constant (.str _) _ _] [] _ => if isGl sc c = true ∧ odd c = false ∧ ct.rs.contains c = true then .raise c else .bad
  | _ => .bad
def augOf : Operator → Option Bop
  | .Add => some .add
  | .Sub => some .sub
  | _ => none
def compS (ct : CT) (N : List Str) : Bool → Nat → Scope → Stmt → Sm
  | _, 0, _, _ => .bad
  | hot, n + 1, sc, s => match s with
    | .Pass _ => .pass
    | .Expr e _ => if noComp e = true then .ex (compE ct N hot DEPTH sc e) else .bad
    | .Assign tgs e p => (match tgs with
      | [.Name x px] => if odd x = false ∧ isSto sc x = true ∧ (noComp e = true ∨ isCel sc x = true ∨ compSto sc x px e = true) then (match ixOf N x with
        | some i => .set i (compE ct N hot DEPTH sc e)
        | none => .bad) else .bad
      | [.Subscript o i _] => if noSl i = true then .setix (compE ct N hot DEPTH sc o) (compE ct N hot DEPTH sc i) (compE ct N hot DEPTH sc e) else .bad
      | _ => .bad)
    | .AugAssign tg o e _ => (match tg with
      | .Name x _ => if odd x = false ∧ isSto sc x = true then (match ixOf N x, augOf o with
        | some i, some o => .aug i o (compE ct N hot DEPTH sc e)
        | _, _ => .bad) else .bad
      | _ => .bad)
    | .Return v _ => (match v with
      | some e => .ret (compE ct N hot DEPTH sc e)
      | none => .retn)
    | .If c a b _ => .ite (compE ct N hot DEPTH sc c) (compB (compS ct N hot n sc) a) (compB (compS ct N hot n sc) b)
    | .While c b r _ => if hot = false ∧ r.isEmpty = true then .wh (compE ct N hot DEPTH sc c) (compB (compS ct N hot n sc) b) else .bad
    | .For tg it b r _ => if hot = false ∧ r.isEmpty = true then (match tg with
      | .Name x _ => if odd x = false ∧ isSto sc x = true ∧ noSet it = true then (match ixOf N x with
        | some i => .for_ i (iterE ct sc (compE ct N hot DEPTH sc) it) (compB (compS ct N hot n sc) b)
        | none => .bad) else .bad
      | _ => .bad) else .bad
    | .Raise v c _ => if hot = false then (match v, c with
      | some e, none => raiseE ct sc e
      | _, _ => .bad) else .bad
    | .Break _ => .brk
    | .Continue _ => .cnt
    | .Try b hs r f _ => if hot = false ∧ r.isEmpty = true ∧ f.isEmpty = true then (match hs with
      | [.ExceptHandler (some (.Name c _)) nm (s0 :: su) _] => if isGl sc c = true ∧ odd c = false ∧ ct.cls.contains c = true ∧ c ≠ "ValueError" then (match nm with
        | none => .try_ (compB (compS ct N hot n sc) b) c none (compB (compS ct N true n sc) (s0 :: su))
        | some x => if odd x = false ∧ isLoc sc x = true then (match ixOf N x with
          | some i => .try_ (compB (compS ct N hot n sc) b) c (some i) (compB (compS ct N true n sc) (s0 :: su))
          | none => .bad) else .bad) else .bad
      | _ => .bad) else .bad
    | _ => .bad
end MP

/-! Expressions: what MP says, the machine does. -/
namespace MP
open PySem PySem.Spec PyProof.Rows L2

section
variable {X : Cx} {ct : CT} {k : Nat} {fa ca : Str → Option Addr} {Φ : Str → List D → Hd → R D} {hot : Bool} {W : WX} {η : Option (Addr × Str)}
abbrev sE (X : Cx) (fa ca : Str → Option Addr) (Φ : Str → List D → Hd → R D) (W : WX) (η : Option (Addr × Str)) (m : Ex) : TE := semE X.K fa ca W η (evE Φ m)
abbrev sT (X : Cx) (fa ca : Str → Option Addr) (Φ : Str → List D → Hd → R D) (W : WX) (η : Option (Addr × Str)) (m : Ex) : TT := semT X.K fa ca W η (evE Φ m)
abbrev sA (X : Cx) (fa ca : Str → Option Addr) (Φ : Str → List D → Hd → R D) (W : WX) (η : Option (Addr × Str)) (m : Ex) : TA := semA X.K fa ca W η (evE Φ m)

theorem pe_bad {e : Expr} {m : Ex} (h : m = .bad) : PE X e (sE X fa ca Φ W η m) := ⟨fun _ _ _ _ _ _ q => by
  subst h
  obtain ⟨ρ, L, α, _, _, q⟩ := q
  exact q.elim⟩
theorem pt_bad {e : Expr} {m : Ex} (h : m = .bad) : PT X e (sT X fa ca Φ W η m) := ⟨fun _ _ _ _ _ _ q => by
  subst h
  obtain ⟨ρ, L, α, _, _, q⟩ := q
  exact q.elim⟩
theorem star_eq {e : Expr} {es : List Expr} {env : PySem.Env} (h : noStar1 e = true) : starEach (e :: es) env = (false, eval e env) :: starEach es env := by
  cases e <;> first | rfl | cases h
theorem star_any {pos : Pos} {env : PySem.Env} : ∀ {es : List Expr}, noStar es = true → (backTo pos (starEach es env)).any (·.1) = false
  | [], _ => rfl
  | e :: es, h => by
    unfold noStar at h
    rw [List.all_cons, Bool.and_eq_true] at h
    rw [star_eq h.1]
    show (false || (backTo pos (starEach es env)).any (·.1)) = false
    rw [star_any h.2]
    rfl
theorem star_all {pos : Pos} {env : PySem.Env} : ∀ {es : List Expr}, noStar es = true → (backTo pos (starEach es env)).all (fun x => !x.1) = true
  | [], _ => rfl
  | e :: es, h => by
    unfold noStar at h
    rw [List.all_cons, Bool.and_eq_true] at h
    rw [star_eq h.1]
    show (!false && (backTo pos (starEach es env)).all (fun x => !x.1)) = true
    rw [star_all h.2]
    rfl

/-! ### what comes first, of the other ends -/
theorem PostA.first {K : PySem.W.Frag} {H : Hp} {α : List Addr} {σ : L2.St} {r : R D} {f : D → Hd → R D} {Q : List V → Hp → Prop} {Q' : VK} (hn : 0 < α.length) (h : PostA K fa ca W σ (r.bind f) H α Q)
    (k : ∀ d L v H' α', r = .ok d L → Ext H α H' α' → RHp K fa H' α' L → RV K fa H' α' d v → PostA K fa ca W σ (f d L) H' α' Q → Q' v H') : Post K fa ca W σ r H α Q' := by
  cases r with
  | ok d L => exact fun v H' α' e p rv => k d L v H' α' rfl e p rv (PostA.from hn e h)
  | exc c L => exact h
  | bad => exact h
/-- the list of arguments first, then a run -/
theorem Post.args {K : PySem.W.Frag} {H : Hp} {α : List Addr} {σ : L2.St} {r : R D} {f : D → Hd → R D} {Q : VK} {Q' : List V → Hp → Prop} (hn : 0 < α.length) (h : Post K fa ca W σ (r.bind f) H α Q) (hb : ∀ d L, (∀ ds, d ≠ .tup ds) → f d L = .bad)
    (k : ∀ ds L vs H' α', r = .ok (.tup ds) L → Ext H α H' α' → RHp K fa H' α' L → RVs K fa H' α' ds vs → Post K fa ca W σ (f (.tup ds) L) H' α' Q → Q' vs H') : PostA K fa ca W σ r H α Q' := by
  cases r with
  | ok d L =>
    have h' : Post K fa ca W σ (f d L) H α Q := h
    by_cases hd : ∃ ds, d = .tup ds
    · obtain ⟨ds, rfl⟩ := hd
      exact ⟨ds, rfl, fun vs H' α' e p rv => k ds L vs H' α' rfl e p rv (Post.from hn e h)⟩
    · rw [hb d L fun ds e => hd ⟨ds, e⟩] at h'
      exact h'.elim
  | exc c L => exact h
  | bad => exact h
/-- a value first, then a test -/
theorem PostT.first {K : PySem.W.Frag} {H : Hp} {α : List Addr} {σ : L2.St} {r : R D} {f : D → Hd → R D} {Q : Bool → Hp → Prop} {Q' : VK} (hn : 0 < α.length) (h : PostT K fa ca W σ (r.bind f) H α Q)
    (k : ∀ d L v H' α', r = .ok d L → Ext H α H' α' → RHp K fa H' α' L → RV K fa H' α' d v → PostT K fa ca W σ (f d L) H' α' Q → Q' v H') : Post K fa ca W σ r H α Q' := by
  cases r with
  | ok d L => exact fun v H' α' e p rv => k d L v H' α' rfl e p rv (PostT.from hn e h)
  | exc c L => exact h
  | bad => exact h
/-- a test first, then a test -/
theorem PostT.test {K : PySem.W.Frag} {H : Hp} {α : List Addr} {σ : L2.St} {r : R D} {t f : Hd → R D} {Q : Bool → Hp → Prop} {Q' : Bool → Hp → Prop} (hn : 0 < α.length) (h : PostT K fa ca W σ (r.bind fun d L => onBl d (t L) (f L)) H α Q)
    (k1 : ∀ L H' α', r = .ok (.bl true) L → Ext H α H' α' → RHp K fa H' α' L → PostT K fa ca W σ (t L) H' α' Q → Q' true H')
    (k0 : ∀ L H' α', r = .ok (.bl false) L → Ext H α H' α' → RHp K fa H' α' L → PostT K fa ca W σ (f L) H' α' Q → Q' false H') : PostT K fa ca W σ r H α Q' := by
  cases r with
  | ok d L =>
    have h' : PostT K fa ca W σ (onBl d (t L) (f L)) H α Q := h
    cases d with
    | bl b =>
      refine ⟨b, rfl, fun H' α' e p => ?_⟩
      cases b with
      | true => exact k1 L H' α' rfl e p (PostT.from hn e h')
      | false => exact k0 L H' α' rfl e p (PostT.from hn e h')
    | _ => exact h'.elim
  | exc c L => exact h
  | bad => exact h
/-- a test first, then a value -/
theorem Post.test {K : PySem.W.Frag} {H : Hp} {α : List Addr} {σ : L2.St} {r : R D} {t f : Hd → R D} {Q : VK} {Q' : VK} (hn : 0 < α.length) (h : Post K fa ca W σ (r.bind fun d L => onBl d (t L) (f L)) H α Q)
    (k1 : ∀ L H' α', r = .ok (.bl true) L → Ext H α H' α' → RHp K fa H' α' L → Post K fa ca W σ (t L) H' α' Q → Q' (.bl true) H')
    (k0 : ∀ L H' α', r = .ok (.bl false) L → Ext H α H' α' → RHp K fa H' α' L → Post K fa ca W σ (f L) H' α' Q → Q' (.bl false) H') : Post K fa ca W σ r H α Q' := by
  cases r with
  | ok d L =>
    have h' : Post K fa ca W σ (onBl d (t L) (f L)) H α Q := h
    cases d with
    | bl b =>
      refine fun v H' α' e p rv => ?_
      cases rv
      cases b with
      | true => exact k1 L H' α' rfl e p (Post.from hn e h')
      | false => exact k0 L H' α' rfl e p (Post.from hn e h')
    | _ => exact h'.elim
  | exc c L => exact h
  | bad => exact h

/-! ### arguments -/
theorem pa_sem {ce : Expr → Ex} (ih : ∀ e, PE X e (sE X fa ca Φ W η (ce e))) : ∀ {es : List Expr}, noStar es = true → PA X es (sA X fa ca Φ W η (compA ce es))
  | [], _ => paImp pa_nil fun σ H Q q => by
    obtain ⟨ρ, L, α, re, rp, ds, e, q⟩ := q
    cases e
    exact q [] H α Ext.refl rp .nil
  | e :: es, h => by
    unfold noStar at h
    rw [List.all_cons, Bool.and_eq_true] at h
    refine paImp (pa_cons (ih e) (pa_sem ih h.2) (star_eq h.1)) fun σ H Q q => ?_
    obtain ⟨ρ, L, α, re, rp, q⟩ := q
    refine ⟨ρ, L, α, re, rp, PostA.first rp.ne q fun d L1 v H1 α1 e0 e1 p1 r1 q1 => ?_⟩
    refine ⟨ρ, L1, α1, re.ext e1 rp, p1, ?_⟩
    cases hr : evE Φ (compA ce es) ρ L1 with
    | ok d2 L2 =>
      rw [hr] at q1
      cases d2 with
      | tup ds =>
        refine ⟨ds, rfl, fun vs H2 α2 e2 p2 r2 => ?_⟩
        obtain ⟨ds', ed, q1⟩ := q1
        cases ed
        exact q1 _ H2 α2 e2 p2 (.cons (r1.ext e2 p1.tl) r2)
      | _ => exact q1.elim
    | exc c L2 =>
      rw [hr] at q1
      exact q1
    | bad =>
      rw [hr] at q1
      exact q1

/-! ### the pieces -/
theorem pe_nameS (C : Cok ct k fa ca Φ hot W η X) {x : Str} {pos : Pos} : PE X (.Name x pos) (sE X fa ca Φ W η (nameE ct X.N X.env.scope x)) := by
  unfold nameE
  split
  · exact pe_bad rfl
  · rename_i hodd
    have hodd' : odd x = false := by simpa using hodd
    split
    · rename_i hv
      split
      · rename_i i hi
        refine peImp (pe_var (ixOf_get hi) (isVis_vis hv) (odd_d hodd') (odd_c hodd')) fun σ H Q q => ?_
        obtain ⟨ρ, L, α, re, rp, q⟩ := q
        unfold evE getV at q
        split at q
        · exact q.elim
        · rename_i d hx hd
          obtain ⟨v, hv2, rv⟩ := re.2.1 i d hd fun c e => by
            subst e
            exact hx c rfl
          exact ⟨v, hv2, q v H α Ext.refl rp rv⟩
        · exact q.elim
      · exact pe_bad rfl
    · split
      · rename_i hg
        split
        · rename_i hf
          obtain ⟨ad, fd, ps, h1, h2, _⟩ := (C.gl.fn x hf).ex
          refine peImp (pe_glob (v := .ref ad) (isGl_gl hg) h2 rfl (odd_d hodd')) fun σ H Q q => ?_
          obtain ⟨ρ, L, α, re, rp, q⟩ := q
          exact q _ H α Ext.refl rp (.fn h1)
        · split
          · rename_i e he
            obtain ⟨d, u, v, h1, h2, h3, h4⟩ := C.gl.co x e he
            refine peImp (pe_glob (v := v) (isGl_gl hg) h2 h3 (odd_d hodd')) fun σ H Q q => ?_
            obtain ⟨ρ, L, α, re, rp, q⟩ := q
            unfold evE at q
            rw [lit_ev h1] at q
            exact q _ H α Ext.refl rp (h4 H α)
          · exact pe_bad rfl
      · exact pe_bad rfl
theorem pe_cmpS (C : Cok ct k fa ca Φ hot W η X) {op : CmpOp} {a b : Expr} {ma mb : Ex} {pos : Pos} (ha : PE X a (sE X fa ca Φ W η ma)) (hb : PE X b (sE X fa ca Φ W η mb)) : PE X (.Compare a [op] [b] pos) (sE X fa ca Φ W η (cmpE op ma mb b)) := by
  unfold cmpE
  split
  · rename_i o ho
    split
    · rename_i hs
      rw [copOf_to ho]
      exact peImp (pe_cmpR (op_cmp C.units o) ha hb (noSet_marks hs)) fun σ H Q q => sem2 (fun _ _ _ => cmpop_calm _ _ _ _) q
    · exact pe_bad rfl
  · split
    · split
      · rename_i hn
        unfold isNone at hn
        split at hn
        · refine peImp (pe_cmp (pc_isN ha) rfl) fun σ H Q q => ?_
          obtain ⟨ρ, L, α, re, rp, q⟩ := q
          refine ⟨ρ, L, α, re, rp, q.first rp.ne fun d L1 v H1 α1 e0 e1 p1 r1 q1 => ?_⟩
          have q2 := q1 _ H1 α1 Ext.refl p1 (.bl _)
          cases r1 <;> exact q2
        · cases hn
      · exact pe_bad rfl
    · split
      · rename_i hn
        unfold isNone at hn
        split at hn
        · refine peImp (pe_cmp (pc_notN ha) rfl) fun σ H Q q => ?_
          obtain ⟨ρ, L, α, re, rp, q⟩ := q
          refine ⟨ρ, L, α, re, rp, q.first rp.ne fun d L1 v H1 α1 e0 e1 p1 r1 q1 => ?_⟩
          have q2 := q1 _ H1 α1 Ext.refl p1 (.bl _)
          cases r1 <;> exact q2
        · cases hn
      · exact pe_bad rfl
    · exact pe_bad rfl
/-- and, or: values -/
theorem pe_boolS {o : BoolOp} {pos : Pos} {ce : Expr → Ex} (ih : ∀ e, PE X e (sE X fa ca Φ W η (ce e))) : ∀ {es : List Expr}, PE X (.BoolOp o es pos) (sE X fa ca Φ W η (boolL o (es.map ce)))
  | [] => pe_bad rfl
  | [a] => peImp (pe_one (ih a)) fun _ _ _ q => q
  | a :: b :: r => by
    cases o with
    | And =>
      refine peImp (pe_and (ih a) (pe_boolS ih (es := b :: r))) fun σ H Q q => ?_
      obtain ⟨ρ, L, α, re, rp, q⟩ := q
      refine ⟨ρ, L, α, re, rp, Post.test rp.ne q (fun L1 H1 α1 e0 e1 p1 q1 => ?_) fun L1 H1 α1 e0 e1 p1 q1 => ?_⟩
      · exact ⟨true, rfl, iteT ⟨ρ, L1, α1, re.ext e1 rp, p1, q1⟩⟩
      · exact ⟨false, rfl, iteF (q1 _ H1 α1 Ext.refl p1 (.bl _))⟩
    | Or =>
      refine peImp (pe_or (ih a) (pe_boolS ih (es := b :: r))) fun σ H Q q => ?_
      obtain ⟨ρ, L, α, re, rp, q⟩ := q
      refine ⟨ρ, L, α, re, rp, Post.test rp.ne q (fun L1 H1 α1 e0 e1 p1 q1 => ?_) fun L1 H1 α1 e0 e1 p1 q1 => ?_⟩
      · exact ⟨true, rfl, iteT (q1 _ H1 α1 Ext.refl p1 (.bl _))⟩
      · exact ⟨false, rfl, iteF ⟨ρ, L1, α1, re.ext e1 rp, p1, q1⟩⟩
/-- .. tests -/
theorem pw_boolS {o : BoolOp} {pos : Pos} {ce : Expr → Ex} (ih : ∀ e, PT X e (sT X fa ca Φ W η (ce e))) : ∀ {es : List Expr}, PW X (.BoolOp o es pos) (sT X fa ca Φ W η (boolL o (es.map ce)))
  | [] => ⟨fun _ _ _ _ _ _ _ q => by
    obtain ⟨ρ, L, α, _, _, q⟩ := q
    exact q.elim⟩
  | [a] => by
    cases o with
    | And => exact pwImp (pw_and1 (ih a)) fun _ _ _ q => q
    | Or => exact pwImp (pw_or1 (ih a)) fun _ _ _ q => q
  | a :: b :: r => by
    cases o with
    | And =>
      refine pwImp (pw_and (ih a) (pw_boolS ih (es := b :: r))) fun σ H Q q => ?_
      obtain ⟨ρ, L, α, re, rp, q⟩ := q
      refine ⟨ρ, L, α, re, rp, PostT.test rp.ne q (fun L1 H1 α1 e0 e1 p1 q1 => ?_) fun L1 H1 α1 e0 e1 p1 q1 => ?_⟩
      · exact iteT ⟨ρ, L1, α1, re.ext e1 rp, p1, q1⟩
      · obtain ⟨b, eb, q1⟩ := q1
        cases eb
        exact iteF (q1 H1 α1 Ext.refl p1)
    | Or =>
      refine pwImp (pw_or (ih a) (pw_boolS ih (es := b :: r))) fun σ H Q q => ?_
      obtain ⟨ρ, L, α, re, rp, q⟩ := q
      refine ⟨ρ, L, α, re, rp, PostT.test rp.ne q (fun L1 H1 α1 e0 e1 p1 q1 => ?_) fun L1 H1 α1 e0 e1 p1 q1 => ?_⟩
      · obtain ⟨b, eb, q1⟩ := q1
        cases eb
        exact iteT (q1 H1 α1 Ext.refl p1)
      · exact iteF ⟨ρ, L1, α1, re.ext e1 rp, p1, q1⟩
/-- a value as a test -/
theorem semT_val {K : PySem.W.Frag} {σ : L2.St} {H : Hp} {Q : Bool → Hp → Prop} {f : Env → Hd → R D} (q : semT K fa ca W η f σ H Q) : tB (semE K fa ca W η f) σ H Q := by
  obtain ⟨ρ, L, α, re, rp, q⟩ := q
  refine ⟨ρ, L, α, re, rp, ?_⟩
  cases hr : f ρ L with
  | ok d L1 =>
    rw [hr] at q
    obtain ⟨b, rfl, q⟩ := q
    intro v H1 α1 e1 p1 r1
    cases r1
    exact ⟨b, rfl, q H1 α1 e1 p1⟩
  | exc c L1 =>
    rw [hr] at q
    exact q
  | bad =>
    rw [hr] at q
    exact q
end
end MP

/-! Calls, subscripts, what is walked. -/
namespace MP
open PySem PySem.Spec PyProof.Rows L2

section
variable {X : Cx} {ct : CT} {k : Nat} {fa ca : Str → Option Addr} {Φ : Str → List D → Hd → R D} {hot : Bool} {W : WX} {η : Option (Addr × Str)}

theorem plainIx_of {b : Expr} (h : ∀ lo hi st p, b ≠ .Slice lo hi st p) : PlainIx b := fun o i => by
  cases b <;> first | rfl | exact absurd rfl (h _ _ _ _)
theorem pe_ixS {a b : Expr} {ma mb : Ex} {pos : Pos} (ha : PE X a (sE X fa ca Φ W η ma)) (hb : PE X b (sE X fa ca Φ W η mb)) (h : ∀ lo hi st p, b ≠ .Slice lo hi st p) : PE X (.Subscript a b pos) (sE X fa ca Φ W η (.ix ma mb)) :=
  peImp (pe_ix ix_sem ha hb (plainIx_of h)) fun σ H Q q => sem2 (fun _ _ _ => ixop_calm _ _ _) q
theorem po_sem {ce : Expr → Ex} (ih : ∀ e, PE X e (sE X fa ca Φ W η (ce e))) (o : Option Expr) : ∃ t, PO X o t ∧ ∀ (σ : L2.St) (H : Hp) (Q : Option Int → Hp → Prop) (ρ : Env) (L : Hd) (α : List Addr) (f : Option Int → Hd → R D) (Q' : VK), REnv X.K fa η H α ρ σ → RHp X.K fa H α L →
    Post X.K fa ca W σ ((evE Φ (optE ce o) ρ L).bind fun d L => onPart d fun i => f i L) H α Q' →
    (∀ i L1 H1 α1, Ext H α H1 α1 → RHp X.K fa H1 α1 L1 → Post X.K fa ca W σ (f i L1) H1 α1 Q' → Q i H1) → t σ H Q := by
  cases o with
  | none =>
    refine ⟨_, po_none, fun σ H Q ρ L α f Q' re rp q hk => ?_⟩
    exact hk none L H α Ext.refl rp q
  | some e =>
    refine ⟨_, po_some (ih e), fun σ H Q ρ L α f Q' re rp q hk => ?_⟩
    refine ⟨ρ, L, α, re, rp, Post.first rp.ne q fun d L1 v H1 α1 e0 e1 p1 r1 q1 => ?_⟩
    cases r1 with
    | int i => exact ⟨i, rfl, hk (some i) L1 H1 α1 e1 p1 q1⟩
    | _ => exact q1.elim
theorem pe_slS {ce : Expr → Ex} (ih : ∀ e, PE X e (sE X fa ca Φ W η (ce e))) {a : Expr} {lo hi : Option Expr} {p2 pos : Pos} :
    PE X (.Subscript a (.Slice lo hi none p2) pos) (sE X fa ca Φ W η (.sl (ce a) (optE ce lo) (optE ce hi))) := by
  obtain ⟨tl, hl, kl⟩ := po_sem ih lo
  obtain ⟨th, hh, kh⟩ := po_sem ih hi
  refine peImp (pe_slice (sl_sem (fa := fa)) (ih a) hl hh) fun σ H Q q => ?_
  obtain ⟨ρ, L, α, re, rp, q⟩ := q
  unfold evE at q
  refine ⟨ρ, L, α, re, rp, Post.first rp.ne q fun d L1 v H1 α1 e0 e1 p1 r1 q1 => ?_⟩
  refine kl σ H1 _ ρ L1 α1 _ Q (re.ext e1 rp) p1 q1 fun i L2 H2 α2 e2 p2 q2 => ?_
  refine kh σ H2 _ ρ L2 α2 _ Q (re.ext (e1.trans rp.ne e2) rp) p2 q2 fun j L3 H3 α3 e3 p3 q3 => ?_
  exact ⟨d, L3, α3, p3, r1.ext (e2.trans p1.ne e3) p1.tl, q3.v (slop_calm _ _ _ _)⟩

/-! ### calls of defs -/
theorem callOn_calm (f : Str) (d : D) (L : Hd) (h : ∀ ds, d ≠ .tup ds) : callOn Φ f d L = .bad := by
  cases d <;> first | rfl | exact absurd rfl (h _)
theorem pe_callS' (C : Cok ct k fa ca Φ false W η X) {ce : Expr → Ex} (ih : ∀ e, PE X e (sE X fa ca Φ W η (ce e))) {x : Str} {p pos : Pos} {as : List Expr} (hx : odd x = false) (hg : isGl X.env.scope x = true) (hf : ct.fns.contains x = true) (hs : noStar as = true) (hne : as.isEmpty = false) :
    PE X (.Call (.Name x p) as [] pos) (sE X fa ca Φ W η (.call x (compA ce as))) := by
  obtain ⟨ad, fd, ps, h1, h2, h3, h4, h5, h6⟩ := (C.gl.fn x hf).ex
  cases as with
  | nil => cases hne
  | cons e es =>
    have hs' := hs
    unfold noStar at hs'
    rw [List.all_cons, Bool.and_eq_true] at hs'
    refine peImp (pe_callS (E := WE W) h6 (C.room rfl) (isGl_gl hg) h2 h3 h4 (fun σ => passAt C.tk σ) (pa_sem ih hs) (odd_d hx) (star_eq hs'.1) (star_any hs'.2)) fun σ H Q q => ?_
    obtain ⟨ρ, L, α, re, rp, q⟩ := q
    unfold evE at q
    refine ⟨ρ, L, α, re, rp, Post.args rp.ne q (fun d L h => callOn_calm x d L h) fun ds L1 vs H1 α1 e0 e1 p1 r1 q1 => ?_⟩
    have q2 : Post X.K fa ca W σ (Φ x ds L1) H1 α1 Q := q1
    refine ⟨ds, L1, α1, ?_, r1, p1, q2⟩
    by_cases hl : ds.length = ps.length
    · exact hl
    · rw [h5 ds L1 hl] at q2
      exact q2.elim
theorem pe_callvS (C : Cok ct k fa ca Φ false W η X) {ce : Expr → Ex} (ih : ∀ e, PE X e (sE X fa ca Φ W η (ce e))) {x : Str} {p pos : Pos} {as : List Expr} {i : Nat} (hx : odd x = false) (hv : isVis X.env.scope x = true) (hi : X.N[i]? = some x) (hs : noStar as = true) (hne : as.isEmpty = false) :
    PE X (.Call (.Name x p) as [] pos) (sE X fa ca Φ W η (.callv i (compA ce as))) := by
  cases as with
  | nil => cases hne
  | cons e es =>
    have hs' := hs
    unfold noStar at hs'
    rw [List.all_cons, Bool.and_eq_true] at hs'
    refine ⟨fun pins s σ H Q I q => ?_⟩
    obtain ⟨ρ, L, α, re, rp, q⟩ := q
    unfold evE at q
    split at q
    · rename_i f hf
      obtain ⟨v, hσ, rv⟩ := re.2.1 i (.fn f) hf fun c e => by cases e
      cases rv with
      | @fn _ ad ha =>
        obtain ⟨ad', fd, ps, h1, h2, h3, h4, h5, h6⟩ := (C.gl.fn f (C.gl.fnv f ad ha)).ex
        rw [ha] at h1
        cases h1
        refine (pe_callL (X := X) (dvs := []) (E := E0) h6 (C.room rfl) hi (isVis_vis hv) h3 h4 .nil passL (pa_sem ih hs) (odd_d hx) (odd_c hx) (star_eq hs'.1) (star_any hs'.2)).run pins s σ H Q I ⟨hσ, ?_⟩
        refine ⟨ρ, L, α, re, rp, Post.args rp.ne q (fun d L h => by rw [callOn_calm f d L h]) fun ds L1 vs H1 α1 e0 e1 p1 r1 q1 => ?_⟩
        rw [List.append_nil]
        have q2 : Post X.K fa ca W σ (match Φ f ds L1 with | .ok d L => .ok d L | _ => .bad) H1 α1 Q := q1
        cases hr : Φ f ds L1 with
        | ok d2 L2 =>
          rw [hr] at q2
          refine ⟨ds, L1, α1, ?_, r1, p1, ?_⟩
          · by_cases hl : ds.length = ps.length
            · exact hl
            · rw [h5 ds L1 hl] at hr
              cases hr
          · rw [hr]
            exact q2
        | exc c L2 =>
          rw [hr] at q2
          exact q2.elim
        | bad =>
          rw [hr] at q2
          exact q2.elim
    · exact q.elim

/-! ### calls of built-in functions and methods -/
theorem Post.argsV {K : PySem.W.Frag} {H : Hp} {α : List Addr} {σ : L2.St} {r : R D} {h : List D → Hd → R D} {Q : VK} {Q' : List V → Hp → Prop} (hn : 0 < α.length) (hc : ∀ ds L, Calm (h ds L))
    (q : Post K fa ca W σ (r.bind fun d L => match d with | .tup ds => h ds L | _ => .bad) H α Q) (hk : ∀ vs H', rSemL K fa h vs H' Q → Q' vs H') : PostA K fa ca W σ r H α Q' := by
  refine Post.args hn q (fun d L hd => ?_) fun ds L1 vs H1 α1 e0 e1 p1 r1 q1 => ?_
  · cases d <;> first | rfl | exact absurd rfl (hd _)
  · exact hk vs H1 ⟨ds, L1, α1, p1, r1, Post.v (hc _ _) q1⟩
theorem biOf_spec {x : Str} {b : Bi} (h : biOf x = some b) : b ≠ .sortedR ∧ ((∃ id, toFn b = .builtin id ∧ bootBuiltins x = some (.builtin id)) ∨ ∃ T, toFn b = .type T ∧ bootBuiltins x = some (.type T)) := by
  unfold biOf at h
  repeat' split at h
  all_goals cases h
  all_goals (rename_i e; first | subst e | skip)
  all_goals refine ⟨by decide, ?_⟩
  all_goals first
    | exact .inl ⟨_, rfl, by decide +kernel⟩
    | exact .inr ⟨_, rfl, by decide +kernel⟩
theorem pe_biS (C : Cok ct k fa ca Φ false W η X) {ce : Expr → Ex} (ih : ∀ e, PE X e (sE X fa ca Φ W η (ce e))) {x : Str} {p pos : Pos} {as : List Expr} {b : Bi} (hx : odd x = false) (hg : isGl X.env.scope x = true) (hb : ct.bt.contains x = true) (hs : noStar as = true) (hne : as.isEmpty = false) (hbi : biOf x = some b) :
    PE X (.Call (.Name x p) as [] pos) (sE X fa ca Φ W η (.bi b (compA ce as))) := by
  have hm := C.gl.bt x hb
  obtain ⟨hnr, hboot⟩ := biOf_spec hbi
  have imp : ∀ σ H Q, sE X fa ca Φ W η (.bi b (compA ce as)) σ H Q → tCB (rSemL X.K fa (biop b)) (sA X fa ca Φ W η (compA ce as)) σ H Q := fun σ H Q q => by
    obtain ⟨ρ, L, α, re, rp, q⟩ := q
    unfold evE at q
    exact ⟨ρ, L, α, re, rp, Post.argsV rp.ne (biop_calm b) q fun _ _ h => h⟩
  cases as with
  | nil => cases hne
  | cons e es =>
    have hs' := hs
    unfold noStar at hs'
    rw [List.all_cons, Bool.and_eq_true] at hs'
    have hcall := call_bi (X := X) (fa := fa) (C.calm rfl) b hnr
    rcases hboot with ⟨id, h1, h2⟩ | ⟨T, h1, h2⟩
    · rw [h1] at hcall
      exact peImp (pe_callB hcall (isGl_gl hg) hm h2 (pa_sem ih hs) (odd_n hx) (odd_d hx) (star_eq hs'.1) (star_any hs'.2)) imp
    · rw [h1] at hcall
      exact peImp (pe_callTy hcall (isGl_gl hg) hm h2 (pa_sem ih hs) (odd_n hx) (odd_d hx) (star_eq hs'.1) (star_any hs'.2)) imp
end
end MP

/-! isinstance, methods, calls of any kind. -/
namespace MP
open PySem PySem.Spec PyProof.Rows L2

section
variable {X : Cx} {ct : CT} {k : Nat} {fa ca : Str → Option Addr} {Φ : Str → List D → Hd → R D} {hot : Bool} {W : WX} {η : Option (Addr × Str)}

theorem revKw_eq {kws : List Keyword} (h : revKw kws = true) : ∃ j p q, kws = [⟨some ("reverse" : Str), .Constant (.bool true) j p, q⟩] := by
  unfold revKw at h
  split at h
  · rename_i x j p q
    have e : x = ("reverse" : Str) := beq_iff_eq.mp h
    subst e
    exact ⟨_, _, _, rfl⟩
  · cases h
theorem pe_sortedRS (C : Cok ct k fa ca Φ false W η X) {ce : Expr → Ex} (ih : ∀ e, PE X e (sE X fa ca Φ W η (ce e))) {p pos : Pos} {as : List Expr} {kws : List Keyword} (hg : isGl X.env.scope "sorted" = true) (hb : ct.bt.contains "sorted" = true) (hs : noStar as = true) (hne : as.isEmpty = false)
    (hk : revKw kws = true) : PE X (.Call (.Name "sorted" p) as kws pos) (sE X fa ca Φ W η (.bi .sortedR (compA ce as))) := by
  obtain ⟨j, p1, p2, rfl⟩ := revKw_eq hk
  cases as with
  | nil => cases hne
  | cons e es =>
    have hs' := hs
    unfold noStar at hs'
    rw [List.all_cons, Bool.and_eq_true] at hs'
    refine peImp (pe_callBK (tk := tCons (tC (.bl true)) tNil) (call_sortedR (X := X) (fa := fa)) (isGl_gl hg) (C.gl.bt _ hb) (by decide +kernel) (pa_sem ih hs) (pk_cons pe_bl pk_nil) (by decide) (by decide)
      (by rw [star_eq hs'.1]; rfl) (star_any hs) (by rfl) (by rfl) (by rfl)) fun σ H Q q => ?_
    obtain ⟨ρ, L, α, re, rp, q⟩ := q
    unfold evE at q
    exact ⟨ρ, L, α, re, rp, Post.argsV rp.ne (biop_calm .sortedR) q fun vs H1 h => ⟨rfl, h⟩⟩

/-! ### isinstance -/
theorem tyOf_spec {t : Str} {ty : Ty} (h : tyOf t = some ty) : bootBuiltins t = some (.type (tn ty)) := by
  unfold tyOf at h
  repeat' split at h
  all_goals cases h
  all_goals (rename_i e; first | subst e | skip)
  all_goals decide +kernel
theorem pe_isiS (C : Cok ct k fa ca Φ hot W η X) {ce : Expr → Ex} (ih : ∀ e, PE X e (sE X fa ca Φ W η (ce e))) {p pos : Pos} {as : List Expr} (hg : isGl X.env.scope "isinstance" = true) : PE X (.Call (.Name "isinstance" p) as [] pos) (sE X fa ca Φ W η (isiE ct X.N hot X.env.scope ce as)) := by
  unfold isiE
  split
  · rename_i a t pt
    split
    · rename_i hc
      obtain ⟨h1, h2, h3, h4⟩ := hc
      have hboot : bootBuiltins "isinstance" = some (.builtin "isinstance") := by decide +kernel
      split
      · -- an exception that the suite holds
        rename_i hhot
        split
        · rename_i y py
          split
          · rename_i hy
            obtain ⟨hv, hyo, hcl⟩ := hy
            split
            · rename_i i hi
              refine ⟨fun pins s σ H Q I q => ?_⟩
              obtain ⟨ρ, L, α, re, rp, q⟩ := q
              unfold evE at q
              split at q
              · rename_i c hcρ
                obtain ⟨a, hη, hσ⟩ := re.2.2 i c hcρ
                obtain ⟨_, D, hD, hcall⟩ := C.isE a c hη
                have hcls : ct.cls.contains t = true ∨ t = ("ValueError" : Str) := by
                  rcases hcl with ⟨h, _⟩ | ⟨h, _⟩
                  · exact .inl h
                  · exact .inr h
                obtain ⟨u, hu, hk, _⟩ := C.gl.kit c D t hD hcls
                have hpt : ∃ v, (∀ w, RelV v w → w = u) ∧ PE X (.Name t pt) (tC v) := by
                  unfold clsV at hu
                  split at hu
                  · rename_i ht
                    cases hu
                    subst ht
                    rcases hcl with ⟨_, hne⟩ | ⟨_, hbt⟩
                    · exact absurd rfl hne
                    · exact ⟨.ty "ValueError", fun w r => r, pe_bltn (isGl_gl h1) (C.gl.bt _ hbt) (by decide +kernel) rfl (odd_n h2) (odd_d h2)⟩
                  · rename_i ht
                    rcases hcls with h | h
                    · obtain ⟨C1, hC1⟩ := C.gl.cl _ h
                      rw [hC1] at hu
                      cases hu
                      exact ⟨.ref C1, fun w r => r, pe_glob (isGl_gl h1) hC1 rfl (odd_d h2)⟩
                    · exact absurd h ht
                obtain ⟨v, hvu, hpe⟩ := hpt
                have hpa : PA X [Expr.Name y py, Expr.Name t pt] (tCons (tVar i) (tCons (tC v) tNil)) := pa_cons (pe_var (ixOf_get hi) (isVis_vis hv) (odd_d hyo) (odd_c hyo)) (pa_cons hpe pa_nil)
                refine (pe_callB hcall (isGl_gl hg) (C.gl.bt _ h3) hboot hpa (by decide) (by decide) (by rfl) (by rfl)).run pins s σ H Q I ?_
                refine ⟨.ref a, hσ, v, u, isSub c t, rfl, hvu, hk, ?_⟩
                exact q _ H α Ext.refl rp (.bl _)
              · exact q.elim
            · exact pe_bad rfl
          · exact pe_bad rfl
        · exact pe_bad rfl
      · split
        · rename_i ty hty
          split
          · rename_i hbt
            have hpa : PA X [a, Expr.Name t pt] (tCons (sE X fa ca Φ W η (ce a)) (tCons (tC (.ty (tn ty))) tNil)) := pa_cons (ih a) (pa_cons (pe_bltn (isGl_gl h1) (C.gl.bt _ hbt) (tyOf_spec hty) rfl (odd_n h2) (odd_d h2)) pa_nil (by rfl)) (star_eq h4)
            refine peImp (pe_callB (call_isi (X := X)) (isGl_gl hg) (C.gl.bt _ h3) hboot hpa (by decide) (by decide) (star_eq h4) (by rfl)) fun σ H Q q => ?_
            obtain ⟨ρ, L, α, re, rp, q⟩ := q
            unfold evE at q
            refine ⟨ρ, L, α, re, rp, Post.first rp.ne q fun d L1 v H1 α1 e0 e1 p1 r1 q1 => ?_⟩
            exact isi_sem p1 r1 (q1.v (tyop_calm _ _ _))
          · exact pe_bad rfl
        · exact pe_bad rfl
    · exact pe_bad rfl
  · exact pe_bad rfl

/-! ### methods -/
theorem tyL {K : PySem.W.Frag} {H : Hp} {α : List Addr} {L : Hd} {n : Nat} {x : V} (p : RHp K fa H α L) (r : RV K fa H α (.ref n) x) : tyV K "list" x H := by
  cases r with
  | ref h1 =>
    have hl : n < L.length := by
      rw [← p.len]
      exact (List.getElem?_eq_some_iff.mp h1).1
    cases hc : L[n] with
    | lst xs =>
      have hx : getL L n = some xs := by
        unfold getL
        rw [List.getElem?_eq_getElem hl, hc]
      obtain ⟨vs, _, hq⟩ := p.seq h1 hx
      exact .inl ⟨rfl, vs, hq⟩
def meId : Me → String
  | .append => "list.append"
  | .pop => "list.pop"
  | .popAt => "list.pop"
  | .clear => "list.clear"
  | .reverse => "list.reverse"
  | .insert => "list.insert"
  | .partition => "str.partition"
  | .replace => "str.replace"
  | .split => "str.split"
  | .startswith => "str.startswith"
  | .join => "str.join"
def lstMe : Me → Bool
  | .append => true
  | .pop => true
  | .popAt => true
  | .clear => true
  | .reverse => true
  | .insert => true
  | _ => false
theorem recv_list {m : Me} {d : D} (hm : lstMe m = true) (h : recv m d = true) : ∃ n, d = .ref n := by
  cases m <;> cases hm <;> (cases d <;> first | exact ⟨_, rfl⟩ | cases h)
theorem mt_lst {m : Me} (hm : lstMe m = true) : MtR X (meId m) (rSemM X.K fa (meop m)) := by
  cases m with
  | append => exact mt_app
  | pop => exact mt_popS
  | popAt => exact mt_popAtS
  | clear => exact mt_clearS
  | reverse => exact mt_reverseS
  | insert => exact mt_insertS
  | _ => cases hm
theorem base_eq {o : Expr} {nm : Str} (h : plainO o = true) : attributeBase o nm X.env (eval o X.env) = eval o X.env := by
  cases o <;> first | rfl | cases h
structure MeS (m : Me) (x : Str) (n : Nat) : Prop where
  lst : lstMe m = true
  slot : Slot "list" x (meId m)
  ty : typeOf (.builtin (meId m)) = pure (.type "method_descriptor")
  many : n < 20
theorem meOf_spec {x : Str} {n : Nat} {m : Me} (h : meOf x n = some m) : MeS m x n := by
  unfold meOf at h
  split at h
  · rename_i e
    obtain ⟨rfl, rfl⟩ := e
    cases h
    exact ⟨rfl, PySem.F.slot_list_append, PySem.F.type_list_append, by decide⟩
  · split at h
    · rename_i e
      obtain ⟨rfl, rfl⟩ := e
      cases h
      exact ⟨rfl, PySem.F.slot_list_pop, PySem.F.type_list_pop, by decide⟩
    · split at h
      · rename_i e
        obtain ⟨rfl, rfl⟩ := e
        cases h
        exact ⟨rfl, PySem.F.slot_list_pop, PySem.F.type_list_pop, by decide⟩
      · split at h
        · rename_i e
          obtain ⟨rfl, rfl⟩ := e
          cases h
          exact ⟨rfl, PySem.F.slot_list_clear, PySem.F.type_list_clear, by decide⟩
        · split at h
          · rename_i e
            obtain ⟨rfl, rfl⟩ := e
            cases h
            exact ⟨rfl, PySem.F.slot_list_reverse, PySem.F.type_list_reverse, by decide⟩
          · split at h
            · rename_i e
              obtain ⟨rfl, rfl⟩ := e
              cases h
              exact ⟨rfl, PySem.F.slot_list_insert, PySem.F.type_list_insert, by decide⟩
            · cases h
theorem pe_meS {ce : Expr → Ex} (ih : ∀ e, PE X e (sE X fa ca Φ W η (ce e))) {o : Expr} {x : Str} {ap p : Pos} {as : List Expr} {m : Me} (ho : plainO o = true) (hl : (ap.endLine == p.line) = true) (hs : noStar as = true) (hm : meOf x as.length = some m) :
    PE X (.Call (.Attribute o x ap) as [] p) (sE X fa ca Φ W η (.me m (ce o) (compA ce as))) := by
  have S := meOf_spec hm
  cases as with
  | nil =>
    refine peImp (pe_bm0 PySem.F.plainAttrs_list S.slot S.ty (mt_lst (fa := fa) S.lst) (ih o) (base_eq ho) hl) fun σ H Q q => ?_
    obtain ⟨ρ, L, α, re, rp, q⟩ := q
    unfold evE at q
    refine ⟨ρ, L, α, re, rp, Post.first rp.ne q fun d L1 v H1 α1 e0 e1 p1 r1 q1 => ?_⟩
    split at q1
    · rename_i hr
      obtain ⟨n, rfl⟩ := recv_list S.lst hr
      have q2 : Post X.K fa ca W σ (meop m (.ref n) [] L1) H1 α1 Q := q1
      exact ⟨tyL p1 r1, _, [], L1, α1, p1, r1, .nil, q2.v (meop_calm _ _ _ _)⟩
    · exact q1.elim
  | cons e es =>
    have hs' := hs
    unfold noStar at hs'
    rw [List.all_cons, Bool.and_eq_true] at hs'
    have hmany := S.many
    refine peImp (pe_bm PySem.F.plainAttrs_list S.slot S.ty (mt_lst (fa := fa) S.lst) (ih o) (pa_sem ih hs) (base_eq ho) (by
      rw [star_all hs]
      simp only [List.length_cons] at hmany
      simp only [List.length_cons, List.length_nil, Bool.true_and]
      show (true && decide (es.length + 1 + 0 + 0 < 30)) = true
      rw [Bool.true_and, decide_eq_true_eq]
      omega) hl (star_eq hs'.1) (star_any hs'.2)) fun σ H Q q => ?_
    obtain ⟨ρ, L, α, re, rp, q⟩ := q
    unfold evE at q
    refine ⟨ρ, L, α, re, rp, Post.first rp.ne q fun d L1 v H1 α1 e0 e1 p1 r1 q1 => ?_⟩
    split at q1
    · rename_i hr
      obtain ⟨n, rfl⟩ := recv_list S.lst hr
      refine ⟨tyL p1 r1, ρ, L1, α1, re.ext e1 rp, p1, Post.args p1.ne q1 (fun d L hd => ?_) fun ds L2 vs H2 α2 e0 e2 p2 r2 q2 => ?_⟩
      · cases d <;> first | rfl | exact absurd rfl (hd _)
      · exact ⟨_, ds, L2, α2, p2, r1.ext e2 p1.tl, r2, Post.v (meop_calm _ _ _ _) q2⟩
    · exact q1.elim

/-! ### methods of texts -/
structure TmS (m : Tm) (x : Str) (n : Nat) : Prop where
  slot : Slot "str" x (tmId m)
  ty : typeOf (.builtin (tmId m)) = pure (.type "method_descriptor")
  one : n = 1
theorem tmOf_spec {x : Str} {n : Nat} {m : Tm} (h : tmOf x n = some m) : TmS m x n := by
  unfold tmOf at h
  split at h
  · rename_i e
    obtain ⟨rfl, rfl⟩ := e
    cases h
    exact ⟨PySem.F.slot_str_partition, PySem.F.type_str_partition, rfl⟩
  · split at h
    · rename_i e
      obtain ⟨rfl, rfl⟩ := e
      cases h
      exact ⟨PySem.F.slot_str_split, PySem.F.type_str_split, rfl⟩
    · split at h
      · rename_i e
        obtain ⟨rfl, rfl⟩ := e
        cases h
        exact ⟨PySem.F.slot_str_startswith, PySem.F.type_str_startswith, rfl⟩
      · split at h
        · rename_i e
          obtain ⟨rfl, rfl⟩ := e
          cases h
          exact ⟨PySem.F.slot_str_join, PySem.F.type_str_join, rfl⟩
        · cases h
theorem isStr_str {d : D} (h : isStr d = true) : ∃ z, d = .str z := by
  cases d <;> first | exact ⟨_, rfl⟩ | cases h
theorem pe_tmS {ce : Expr → Ex} (ih : ∀ e, PE X e (sE X fa ca Φ W η (ce e))) {o : Expr} {x : Str} {ap p : Pos} {as : List Expr} {m : Tm} (ho : plainO o = true) (hl : (ap.endLine == p.line) = true) (hs : noStar as = true) (hm : tmOf x as.length = some m) :
    PE X (.Call (.Attribute o x ap) as [] p) (sE X fa ca Φ W η (.tm m (ce o) (compA ce as))) := by
  have S := tmOf_spec hm
  cases as with
  | nil => exact absurd S.one (by decide)
  | cons e es =>
    have hs' := hs
    unfold noStar at hs'
    rw [List.all_cons, Bool.and_eq_true] at hs'
    have hmany := S.one
    refine peImp (pe_bm PySem.F.plainAttrs_str S.slot S.ty (mt_tm (fa := fa) m) (ih o) (pa_sem ih hs) (base_eq ho) (by
      rw [star_all hs]
      simp only [List.length_cons] at hmany
      simp only [List.length_cons, List.length_nil, Bool.true_and]
      show (true && decide (es.length + 1 + 0 + 0 < 30)) = true
      rw [Bool.true_and, decide_eq_true_eq]
      omega) hl (star_eq hs'.1) (star_any hs'.2)) fun σ H Q q => ?_
    obtain ⟨ρ, L, α, re, rp, q⟩ := q
    unfold evE at q
    refine ⟨ρ, L, α, re, rp, Post.first rp.ne q fun d L1 v H1 α1 e0 e1 p1 r1 q1 => ?_⟩
    split at q1
    · rename_i hr
      obtain ⟨z, rfl⟩ := isStr_str hr
      have ht : tyV X.K "str" v H1 := by
        cases r1
        exact rfl
      refine ⟨ht, ρ, L1, α1, re.ext e1 rp, p1, Post.args p1.ne q1 (fun d L hd => ?_) fun ds L2 vs H2 α2 e0 e2 p2 r2 q2 => ?_⟩
      · cases d <;> first | rfl | exact absurd rfl (hd _)
      · exact ⟨_, ds, L2, α2, p2, r1.ext e2 p1.tl, r2, Post.v (tmop_calm _ _ _ _) q2⟩
    · exact q1.elim

/-! ### a call of any kind -/
theorem nil_of {α : Type} {l : List α} (h : l.isEmpty = true) : l = [] := List.isEmpty_iff.mp h
theorem pe_callAny (C : Cok ct k fa ca Φ hot W η X) {ce : Expr → Ex} (ih : ∀ e, PE X e (sE X fa ca Φ W η (ce e))) {f : Expr} {as : List Expr} {kws : List Keyword} {p : Pos} : PE X (.Call f as kws p) (sE X fa ca Φ W η (callE ct X.N hot X.env.scope ce f as kws p)) := by
  unfold callE
  split
  · rename_i x px
    split
    · exact pe_bad rfl
    · rename_i hodd
      have ho : odd x = false := by simpa using hodd
      split
      · rename_i hv
        split
        · exact pe_bad rfl
        · rename_i hh
          simp only [not_or, Bool.not_eq_false, Bool.not_eq_true] at hh
          obtain ⟨h1, h2, h3, h4⟩ := hh
          subst h1
          obtain rfl := nil_of h4
          split
          · rename_i i hi
            exact pe_callvS C ih ho hv (ixOf_get hi) h2 h3
          · exact pe_bad rfl
      · split
        · rename_i hg
          split
          · rename_i hf
            split
            · exact pe_bad rfl
            · rename_i hh
              simp only [not_or, Bool.not_eq_false, Bool.not_eq_true] at hh
              obtain ⟨h1, h2, h3, h4⟩ := hh
              subst h1
              obtain rfl := nil_of h4
              exact pe_callS' C ih ho hg hf h2 h3
          · split
            · rename_i hb
              split
              · rename_i hx
                subst hx
                split
                · rename_i hk
                  obtain rfl := nil_of hk
                  exact pe_isiS C ih hg
                · exact pe_bad rfl
              · split
                · exact pe_bad rfl
                · rename_i hh
                  simp only [not_or, Bool.not_eq_false, Bool.not_eq_true] at hh
                  obtain ⟨h1, h2, h3⟩ := hh
                  subst h1
                  split
                  · rename_i hr
                    obtain ⟨rfl, hr⟩ := hr
                    exact pe_sortedRS C ih hg hb h2 h3 hr
                  · split
                    · rename_i b hbi
                      split
                      · rename_i hk
                        obtain rfl := nil_of hk
                        exact pe_biS C ih ho hg hb h2 h3 hbi
                      · exact pe_bad rfl
                    · exact pe_bad rfl
            · exact pe_bad rfl
        · exact pe_bad rfl
  · rename_i o m ap
    split
    · exact pe_bad rfl
    · rename_i hh
      simp only [not_or, Bool.not_eq_false, Bool.not_eq_true] at hh
      obtain ⟨h1, h2, h3, h4, h5⟩ := hh
      obtain rfl := nil_of h2
      split
      · rename_i m' hm
        exact pe_meS ih h4 h5 h3 hm
      · split
        · rename_i m' hm
          exact pe_tmS ih h4 h5 h3 hm
        · exact pe_bad rfl
  · exact pe_bad rfl
end
end MP

/-! What is walked; comprehensions; all expressions. -/
namespace MP
open PySem PySem.Spec PyProof.Rows L2

/-- the iterator walks the items -/
structure JOk (K : PySem.W.Frag) (fa : Str → Option Addr) (J : It) (w : Option Nat) (xs : List D) (H1 : Hp) (α1 : List Addr) : Prop where
  go : ∀ i H α L, RHp K fa H α L → Ext H1 α1 H α → seen w xs L → i < xs.length → J.go i H
  yld : ∀ i H α L x H', RHp K fa H α L → Ext H1 α1 H α → seen w xs L → i < xs.length → J.yld i H x H' → H' = H ∧ ∃ d, xs[i]? = some d ∧ RV K fa H α d x
  stop : ∀ i H α L, RHp K fa H α L → Ext H1 α1 H α → seen w xs L → xs.length ≤ i → J.stop i H
def PostI (K : PySem.W.Frag) (fa ca : Str → Option Addr) (W : WX) (σ : L2.St) (r : R D) (H : Hp) (α : List Addr) (Q : It → Hp → Prop) : Prop := match r with
  | .ok d L => ∃ w xs, items d L = some (w, xs) ∧ ∀ J H' α', Ext H α H' α' → RHp K fa H' α' L → JOk K fa J w xs H' α' → Q J H'
  | .exc c L => ∀ C H' α', ca c = some C → Ext H α H' α' → RHp K fa H' α' L → W (.ref C) none σ H'
  | .bad => False
def semI (K : PySem.W.Frag) (fa ca : Str → Option Addr) (W : WX) (η : Option (Addr × Str)) (ev : Env → Hd → R D) : TI := fun σ H Q => ∃ ρ L α, REnv K fa η H α ρ σ ∧ RHp K fa H α L ∧ PostI K fa ca W σ (ev ρ L) H α Q

section
variable {X : Cx} {ct : CT} {k : Nat} {fa ca : Str → Option Addr} {Φ : Str → List D → Hd → R D} {hot : Bool} {W : WX} {η : Option (Addr × Str)} {tg : Expr}
theorem PostI.from {K : PySem.W.Frag} {H H' : Hp} {α α' : List Addr} {σ : L2.St} {r : R D} {Q : It → Hp → Prop} (hn : 0 < α.length) (e : Ext H α H' α') (h : PostI K fa ca W σ r H α Q) : PostI K fa ca W σ r H' α' Q := by
  cases r with
  | ok d L =>
    obtain ⟨w, xs, hi, h⟩ := h
    exact ⟨w, xs, hi, fun J H2 α2 e2 => h J H2 α2 (e.trans hn e2)⟩
  | exc c L => exact fun C H2 α2 hc e2 => h C H2 α2 hc (e.trans hn e2)
  | bad => exact h
theorem piImp {it : Expr} {t u : TI} (h : PI X tg it t) (i : ∀ σ H Q, u σ H Q → t σ H Q) : PI X tg it u := ⟨fun pins s σ H Q I q => h.run pins s σ H Q I (i σ H Q q)⟩
theorem piOr {it : Expr} {t u : TI} (h : PI X tg it t) (h' : PI X tg it u) : PI X tg it (fun σ H Q => t σ H Q ∨ u σ H Q) := ⟨fun pins s σ H Q I q => by
  rcases q with q | q
  · exact h.run pins s σ H Q I q
  · exact h'.run pins s σ H Q I q⟩
theorem pi_bad {it : Expr} {m : Ex} (h : m = .bad) : PI X tg it (semI X.K fa ca W η (evE Φ m)) := ⟨fun _ _ _ _ _ _ q => by
  subst h
  obtain ⟨ρ, L, α, _, _, q⟩ := q
  exact q.elim⟩
theorem sqL_inj {K : PySem.W.Frag} {H : Hp} {a : Addr} {vs : List V} (h : H a = some (.lst vs)) : ∀ us, SqL K H a us → H a = some (.lst vs) := fun _ _ => h
/-- a list that stands as it did -/
theorem jok_list {K : PySem.W.Frag} {H1 : Hp} {α1 : List Addr} {n : Nat} {a : Addr} {xs : List D} (ha : α1[n]? = some a) : JOk K fa (Itl K a) (some n) xs H1 α1 := by
  have at_ : ∀ {H α L}, RHp K fa H α L → Ext H1 α1 H α → seen (some n) xs L → ∃ vs, RVs K fa H α xs vs ∧ SqL K H a vs := fun {H α L} p e s => by
    obtain ⟨β, rfl, _⟩ := e.app
    have ha' : (α1 ++ β)[n]? = some a := by
      rw [List.getElem?_append_left (List.getElem?_eq_some_iff.mp ha).1]
      exact ha
    exact p.seq ha' s
  refine ⟨fun i H α L p e s hi => ?_, fun i H α L x H' p e s hi y => ?_, fun i H α L p e s hi => ?_⟩
  · obtain ⟨vs, r, q⟩ := at_ p e s
    rw [r.length] at hi
    exact ⟨vs, vs[i], q, by simp [hi]⟩
  · obtain ⟨vs, r, q⟩ := at_ p e s
    obtain ⟨rfl, y⟩ := y
    have hx := y vs q
    obtain ⟨v, hv, rv⟩ := r.get (List.getElem?_eq_getElem hi)
    rw [hx] at hv
    cases hv
    exact ⟨rfl, _, List.getElem?_eq_getElem hi, rv⟩
  · obtain ⟨vs, r, q⟩ := at_ p e s
    rw [r.length] at hi
    exact ⟨vs, q, hi⟩
theorem jok_tup {K : PySem.W.Frag} {H1 : Hp} {α1 : List Addr} {L1 : Hd} {a : Addr} {xs : List D} {vs : List V} (p1 : RHp K fa H1 α1 L1) (h : SqT K H1 a vs) (r : RVs K fa H1 α1 xs vs) : JOk K fa (Itt K a) none xs H1 α1 := by
  refine ⟨fun i H α L p e s hi => ?_, fun i H α L x H' p e s hi y => ?_, fun i H α L p e s hi => ?_⟩
  · rw [r.length] at hi
    exact ⟨vs, vs[i], sqtExt h e p1.tl, by simp [hi]⟩
  · obtain ⟨rfl, y⟩ := y
    have hx := y vs (sqtExt h e p1.tl)
    obtain ⟨v, hv, rv⟩ := r.get (List.getElem?_eq_getElem hi)
    rw [hx] at hv
    cases hv
    exact ⟨rfl, _, List.getElem?_eq_getElem hi, rv.ext e p1.tl⟩
  · rw [r.length] at hi
    exact ⟨vs, sqtExt h e p1.tl, hi⟩
theorem jok_revT {K : PySem.W.Frag} {H1 : Hp} {α1 : List Addr} {L1 : Hd} {a : Addr} {xs : List D} {vs : List V} (p1 : RHp K fa H1 α1 L1) (h : SqT K H1 a vs) (r : RVs K fa H1 α1 xs vs) : JOk K fa (RT.ItvT K a vs.length) none xs.reverse H1 α1 := by
  have hl := r.length
  have gt : ∀ {i : Nat}, i < xs.reverse.length → xs.reverse[i]? = xs[xs.length - 1 - i]? := fun {i} hi => by
    rw [List.length_reverse] at hi
    exact List.getElem?_reverse hi
  refine ⟨fun i H α L p e s hi => ?_, fun i H α L x H' p e s hi y => ?_, fun i H α L p e s hi => ?_⟩
  · rw [List.length_reverse] at hi
    have hi' : vs.length - 1 - i < vs.length := by omega
    exact ⟨by omega, vs, vs[vs.length - 1 - i], sqtExt h e p1.tl, by simp [hi']⟩
  · obtain ⟨rfl, y⟩ := y
    have hx := y vs (sqtExt h e p1.tl)
    have g := gt hi
    rw [List.length_reverse] at hi
    have hi' : xs.length - 1 - i < xs.length := by omega
    obtain ⟨v, hv, rv⟩ := r.get (List.getElem?_eq_getElem hi')
    rw [hl] at hv
    rw [hx] at hv
    cases hv
    exact ⟨rfl, _, by rw [g]; exact List.getElem?_eq_getElem hi', rv.ext e p1.tl⟩
  · rw [List.length_reverse] at hi
    show vs.length ≤ i
    omega
theorem steps_len (lo c : Int) : ∀ n, (steps lo c n).length = n := by
  intro n
  induction n generalizing lo with
  | zero => rfl
  | succ n ih =>
    show (steps (lo + c) c n).length + 1 = n + 1
    rw [ih]
theorem steps_get (c : Int) : ∀ (n i : Nat) (lo : Int), i < n → (steps lo c n)[i]? = some (.int (lo + (i : Nat) * c))
  | 0, _, _, h => absurd h (Nat.not_lt_zero _)
  | n + 1, 0, lo, _ => by
    show some (D.int lo) = _
    congr
    simp
  | n + 1, i + 1, lo, h => by
    have h2 : i < n := by omega
    show (steps (lo + c) c n)[i]? = _
    rw [steps_get c n i (lo + c) h2]
    congr 2
    rw [show ((i + 1 : Nat) : Int) = (i : Int) + 1 from rfl, Int.add_mul]
    omega
theorem jok_steps {K : PySem.W.Frag} {H1 : Hp} {α1 : List Addr} {lo c : Int} {n : Nat} : JOk K fa (Itc lo c n) none (steps lo c n) H1 α1 := by
  refine ⟨fun i H α L p e s hi => ?_, fun i H α L x H' p e s hi y => ?_, fun i H α L p e s hi => ?_⟩
  · rw [steps_len] at hi
    exact hi
  · rw [steps_len] at hi
    obtain ⟨rfl, rfl⟩ := y
    exact ⟨rfl, _, steps_get c n i lo hi, .int _⟩
  · rw [steps_len] at hi
    exact hi
theorem jok_range {K : PySem.W.Frag} {H1 : Hp} {α1 : List Addr} {lo : Int} {n : Nat} : JOk K fa (Itr lo n) none (steps lo 1 n) H1 α1 := by
  refine ⟨fun i H α L p e s hi => ?_, fun i H α L x H' p e s hi y => ?_, fun i H α L p e s hi => ?_⟩
  · rw [steps_len] at hi
    exact hi
  · rw [steps_len] at hi
    obtain ⟨rfl, rfl⟩ := y
    refine ⟨rfl, _, steps_get 1 n i lo hi, ?_⟩
    rw [Int.mul_one]
    exact .int _
  · rw [steps_len] at hi
    exact hi
theorem jok_str {K : PySem.W.Frag} {H1 : Hp} {α1 : List Addr} {z : Str} : JOk K fa (Its z) none (z.cps.toList.map fun c => D.str ⟨#[c]⟩) H1 α1 := by
  refine ⟨fun i H α L p e s hi => ?_, fun i H α L x H' p e s hi y => ?_, fun i H α L p e s hi => ?_⟩
  · show i < z.cps.size
    simpa using hi
  · obtain ⟨rfl, c, hc, rfl⟩ := y
    refine ⟨rfl, .str ⟨#[c]⟩, ?_, .str _⟩
    rw [List.getElem?_map, Array.getElem?_toList, hc]
    rfl
  · show z.cps.size ≤ i
    simpa using hi
/-- a value that is walked -/
theorem pi_val {it : Expr} {m : Ex} (h : PE X it (sE X fa ca Φ W η m)) : PI X tg it (semI X.K fa ca W η (evE Φ m)) := by
  refine piImp (piOr (pi_list h) (piOr (pi_tup h) (pi_str h))) fun σ H Q q => ?_
  obtain ⟨ρ, L, α, re, rp, q⟩ := q
  cases hr : evE Φ m ρ L with
  | ok d L1 =>
    rw [hr] at q
    obtain ⟨w, xs, hi, q⟩ := q
    cases d with
    | tup ds =>
      cases hi
      refine .inr (.inl ⟨ρ, L, α, re, rp, ?_⟩)
      rw [hr]
      intro v H1 α1 e1 p1 r1
      cases r1 with
      | tup h1 r1 => exact ⟨_, rfl, ⟨_, h1⟩, q _ _ _ e1 p1 (jok_tup p1 h1 r1)⟩
    | ref n =>
      refine .inl ⟨ρ, L, α, re, rp, ?_⟩
      rw [hr]
      intro v H1 α1 e1 p1 r1
      cases r1 with
      | ref h1 =>
        unfold items at hi
        dsimp only at hi
        cases hg : getL L1 n with
        | none =>
          rw [hg] at hi
          cases hi
        | some ys =>
          rw [hg] at hi
          cases hi
          obtain ⟨vs, _, hq⟩ := p1.seq h1 hg
          exact ⟨_, rfl, ⟨vs, hq⟩, q _ _ _ e1 p1 (jok_list h1)⟩
    | str z =>
      cases hi
      refine .inr (.inr ⟨ρ, L, α, re, rp, ?_⟩)
      rw [hr]
      intro v H1 α1 e1 p1 r1
      cases r1
      exact ⟨_, rfl, q _ _ _ e1 p1 jok_str⟩
    | _ => cases hi
  | exc c L1 =>
    rw [hr] at q
    refine .inl ⟨ρ, L, α, re, rp, ?_⟩
    rw [hr]
    exact q
  | bad =>
    rw [hr] at q
    exact q.elim
theorem smallB {i : Int} (h : small i) : -(2 ^ 62) ≤ i ∧ i < 2 ^ 62 := by
  unfold small at h
  constructor <;> omega
theorem PostI.args {K : PySem.W.Frag} {H : Hp} {α : List Addr} {σ : L2.St} {r : R D} {f : List D → Hd → R D} {Q : It → Hp → Prop} {Q' : List V → Hp → Prop} (hn : 0 < α.length) (h : PostI K fa ca W σ (r.bind fun d L => match d with | .tup ds => f ds L | _ => .bad) H α Q)
    (k : ∀ ds L vs H' α', r = .ok (.tup ds) L → Ext H α H' α' → RHp K fa H' α' L → RVs K fa H' α' ds vs → PostI K fa ca W σ (f ds L) H' α' Q → Q' vs H') : PostA K fa ca W σ r H α Q' := by
  cases r with
  | ok d L =>
    cases d with
    | tup ds => exact ⟨ds, rfl, fun vs H' α' e p rv => k ds L vs H' α' rfl e p rv (PostI.from hn e (show PostI K fa ca W σ (f ds L) H α Q from h))⟩
    | _ => exact h.elim
  | exc c L => exact h
  | bad => exact h
theorem PostI.first {K : PySem.W.Frag} {H : Hp} {α : List Addr} {σ : L2.St} {r : R D} {f : D → Hd → R D} {Q : It → Hp → Prop} {Q' : VK} (hn : 0 < α.length) (h : PostI K fa ca W σ (r.bind f) H α Q)
    (k : ∀ d L v H' α', r = .ok d L → Ext H α H' α' → RHp K fa H' α' L → RV K fa H' α' d v → PostI K fa ca W σ (f d L) H' α' Q → Q' v H') : Post K fa ca W σ r H α Q' := by
  cases r with
  | ok d L => exact fun v H' α' e p rv => k d L v H' α' rfl e p rv (PostI.from hn e h)
  | exc c L => exact h
  | bad => exact h
theorem compA_len {ce : Expr → Ex} : ∀ {es : List Expr} {ρ : Env} {L L1 : Hd} {ds : List D}, evE Φ (compA ce es) ρ L = .ok (.tup ds) L1 → ds.length = es.length
  | [], ρ, L, L1, ds, h => by
    cases h
    rfl
  | e :: es, ρ, L, L1, ds, h => by
    have h' : ((evE Φ (ce e) ρ L).bind fun x L => (evE Φ (compA ce es) ρ L).bind fun y L => (match y with | .tup ys => .ok (.tup (x :: ys)) L | _ => .bad)) = R.ok (D.tup ds) L1 := h
    cases h1 : evE Φ (ce e) ρ L with
    | ok d L2 =>
      rw [h1, R.bind_ok] at h'
      cases h2 : evE Φ (compA ce es) ρ L2 with
      | ok d2 L3 =>
        rw [h2, R.bind_ok] at h'
        cases d2 with
        | tup ys =>
          cases h'
          have := compA_len h2
          simp [this]
        | _ => cases h'
      | exc c L3 =>
        rw [h2] at h'
        cases h'
      | bad =>
        rw [h2] at h'
        cases h'
    | exc c L2 =>
      rw [h1] at h'
      cases h'
    | bad =>
      rw [h1] at h'
      cases h'
theorem pi_rngS (C : Cok ct k fa ca Φ hot W η X) {ce : Expr → Ex} (ih : ∀ e, PE X e (sE X fa ca Φ W η (ce e))) {p pos : Pos} {as : List Expr} (hg : isGl X.env.scope "range" = true) (hb : ct.bt.contains "range" = true) (hs : noStar as = true) (h0 : 0 < as.length) (h3 : as.length ≤ 3) :
    PI X tg (.Call (.Name "range" p) as [] pos) (semI X.K fa ca W η (evE Φ (.rng (compA ce as)))) := by
  have hm := C.gl.bt _ hb
  have hs' := hs
  match as, h0, h3 with
  | [a], _, _ =>
    unfold noStar at hs'
    simp only [List.all_cons, List.all_nil, Bool.and_true] at hs'
    refine piImp (pi_range1 (isGl_gl hg) hm (pa_sem ih hs) (by rw [star_eq hs']; rfl)) fun σ H Q q => ?_
    obtain ⟨ρ, L, α, re, rp, q⟩ := q
    unfold evE at q
    refine ⟨ρ, L, α, re, rp, PostI.args rp.ne q fun ds L1 vs H1 α1 e0 e1 p1 r1 q1 => ?_⟩
    have hl := compA_len (Φ := Φ) (ce := ce) (es := [a]) (ρ := ρ) (L := L) e0
    unfold rngop at q1
    split at q1
    · obtain ⟨v, rfl, rv⟩ := r1.one
      cases rv
      split at q1
      · rename_i hsm
        obtain ⟨w, xs, hi, q1⟩ := q1
        cases hi
        have hb2 := smallB hsm
        exact ⟨_, rfl, hb2.1, hb2.2, q1 _ _ _ Ext.refl p1 jok_range⟩
      · exact q1.elim
    · cases hl
    · cases hl
    · exact q1.elim
  | [a, b], _, _ =>
    unfold noStar at hs'
    simp only [List.all_cons, List.all_nil, Bool.and_true, Bool.and_eq_true] at hs'
    refine piImp (pi_range2 (isGl_gl hg) hm (pa_sem ih hs) (by rw [star_eq hs'.1, star_eq hs'.2]; rfl) (by rw [star_eq hs'.2]; rfl)) fun σ H Q q => ?_
    obtain ⟨ρ, L, α, re, rp, q⟩ := q
    unfold evE at q
    refine ⟨ρ, L, α, re, rp, PostI.args rp.ne q fun ds L1 vs H1 α1 e0 e1 p1 r1 q1 => ?_⟩
    have hl := compA_len (Φ := Φ) (ce := ce) (es := [a, b]) (ρ := ρ) (L := L) e0
    unfold rngop at q1
    split at q1
    · cases hl
    · obtain ⟨v, w, rfl, rv, rw_⟩ := r1.two
      cases rv; cases rw_
      split at q1
      · rename_i hsm
        obtain ⟨w, xs, hi, q1⟩ := q1
        cases hi
        have hb1 := smallB hsm.1
        have hb2 := smallB hsm.2
        exact ⟨_, _, rfl, ⟨hb1.1, hb1.2, hb2.1, hb2.2⟩, q1 _ _ _ Ext.refl p1 jok_range⟩
      · exact q1.elim
    · cases hl
    · exact q1.elim
  | [a, b, c], _, _ =>
    unfold noStar at hs'
    simp only [List.all_cons, List.all_nil, Bool.and_true, Bool.and_eq_true] at hs'
    refine piImp (pi_range3 (isGl_gl hg) hm (pa_sem ih hs) (star_eq hs'.1) (star_any (by unfold noStar; simp [hs'.2]))) fun σ H Q q => ?_
    obtain ⟨ρ, L, α, re, rp, q⟩ := q
    unfold evE at q
    refine ⟨ρ, L, α, re, rp, PostI.args rp.ne q fun ds L1 vs H1 α1 e0 e1 p1 r1 q1 => ?_⟩
    have hl := compA_len (Φ := Φ) (ce := ce) (es := [a, b, c]) (ρ := ρ) (L := L) e0
    unfold rngop at q1
    split at q1
    · cases hl
    · cases hl
    · cases r1 with
      | cons r1 t1 =>
        obtain ⟨v, w, rfl, rv, rw_⟩ := t1.two
        cases r1; cases rv; cases rw_
        split at q1
        · rename_i hsm
          obtain ⟨w, xs, hi, q1⟩ := q1
          cases hi
          refine ⟨_, _, _, _, rfl, ⟨hsm.1, hsm.2.1, hsm.2.2.1, ?_⟩, q1 _ _ _ Ext.refl p1 jok_steps⟩
          have := hsm.2.2.2
          omega
        · exact q1.elim
    · exact q1.elim
end
end MP

/-! Comprehensions; all expressions. -/
namespace MP
open PySem PySem.Spec PyProof.Rows L2

section
variable {K : PySem.W.Frag} {fa : Str → Option Addr} {H H' : Hp} {α α' : List Addr} {L : Hd}
mutual
theorem RV.mono (ha : ∀ (n : Nat) (a : Addr), α[n]? = some a → α'[n]? = some a) (ht : ∀ a vs, SqT K H a vs → SqT K H' a vs) : ∀ {d : D} {v : V}, RV K fa H α d v → RV K fa H' α' d v
  | _, _, .non => .non
  | _, _, .bl b => .bl b
  | _, _, .int i => .int i
  | _, _, .str x => .str x
  | _, _, .tup h r => .tup (ht _ _ h) (RVs.mono ha ht r)
  | _, _, .ref h => .ref (ha _ _ h)
  | _, _, .fn h => .fn h
theorem RVs.mono (ha : ∀ (n : Nat) (a : Addr), α[n]? = some a → α'[n]? = some a) (ht : ∀ a vs, SqT K H a vs → SqT K H' a vs) : ∀ {ds : List D} {vs : List V}, RVs K fa H α ds vs → RVs K fa H' α' ds vs
  | _, _, .nil => .nil
  | _, _, .cons r t => .cons (RV.mono ha ht r) (RVs.mono ha ht t)
end
theorem app_get {β : List Addr} : ∀ (n : Nat) (a : Addr), α[n]? = some a → (α ++ β)[n]? = some a := fun n a h => by
  rw [List.getElem?_append_left (List.getElem?_eq_some_iff.mp h).1]
  exact h
theorem sqt_upd {D : Addr} {vs us : List V} (hD : H D = some (.lst us)) : ∀ a ws, SqT K H a ws → SqT K (upd H D (.lst vs)) a ws := fun a ws h => by
  rcases h with (h | ⟨o, h⟩) | h
  · refine .inl (.inl ?_)
    rw [upd_ne (ne_of h hD fun z => nomatch z)]
    exact h
  · refine .inl (.inr ⟨o, ?_⟩)
    rw [upd_ne (ne_of h hD fun z => nomatch z)]
    exact h
  · exact .inr h
/-- a list of no concern is written -/
theorem RHp.other {D : Addr} {vs us : List V} (p : RHp K fa H α L) (hD : H D = some (.lst us)) (hn : D ∉ α.tail) : RHp K fa (upd H D (.lst vs)) α L := by
  refine ⟨p.len, p.ne, p.nd, fun a xs h1 h2 => ?_, fun n a xs h1 h2 => ?_⟩
  · obtain ⟨ws, r, f⟩ := p.zero a xs h1 h2
    refine ⟨ws, r.mono (fun _ _ h => h) (sqt_upd hD), ?_⟩
    rcases f with ⟨o, f⟩ | f
    · refine .inl ⟨o, ?_⟩
      rw [upd_ne (ne_of f hD fun z => nomatch z)]
      exact f
    · exact .inr f
  · obtain ⟨ws, r, f⟩ := p.lst n a xs h1 h2
    refine ⟨ws, r.mono (fun _ _ h => h) (sqt_upd hD), ?_⟩
    rw [upd_ne fun e => hn (by rw [← e]; exact mem_tail h1)]
    exact f
/-- a list that stands becomes ours -/
theorem RHp.addL {D : Addr} {vs : List V} {xs : List MP.D} (p : RHp K fa H α L) (hD : H D = some (.lst vs)) (hn : D ∉ α.tail) (r : RVs K fa H α xs vs) : RHp K fa H (α ++ [D]) (L ++ [.lst xs]) := by
  refine ⟨by simp [p.len], by simp, ?_, fun a ys h1 h2 => ?_, fun n a ys h1 h2 => ?_⟩
  · rw [tail_app p.ne, List.nodup_append]
    refine ⟨p.nd, by simp, fun a ha b hb => ?_⟩
    have : b = D := by simpa using hb
    subst this
    intro q
    subst q
    exact hn ha
  · have hl : 0 < L.length := by rw [← p.len]; exact p.ne
    rw [List.getElem?_append_left p.ne] at h1
    rw [List.getElem?_append_left hl] at h2
    obtain ⟨us, r, f⟩ := p.zero a ys h1 h2
    exact ⟨us, r.mono app_get fun _ _ h => h, f⟩
  · by_cases hn : n + 1 < α.length
    · rw [List.getElem?_append_left hn] at h1
      rw [List.getElem?_append_left (by rw [← p.len]; exact hn)] at h2
      obtain ⟨us, r, f⟩ := p.lst n a ys h1 h2
      exact ⟨us, r.mono app_get fun _ _ h => h, f⟩
    · have hm : n + 1 = α.length := by
        obtain ⟨q, _⟩ := List.getElem?_eq_some_iff.mp h1
        simp at q
        omega
      rw [hm, List.getElem?_append_right (Nat.le_refl _)] at h1
      rw [hm, p.len, List.getElem?_append_right (Nat.le_refl _)] at h2
      simp at h1 h2
      subst h1 h2
      exact ⟨vs, r.mono app_get (fun _ _ h => h), hD⟩
theorem Ext.upd {H1 : Hp} {α1 : List Addr} {D : Addr} {o : HO} (e : Ext H1 α1 H α) (hD : H1 D = none) : Ext H1 α1 (upd H D o) α := by
  refine ⟨e.app, fun b u h hb => ?_, fun b h => ?_⟩
  · rw [upd_ne (ne_of_none h hD)]
    exact e.keep b u h hb
  · by_cases hb : b = D
    · rw [hb]
      exact hD
    · rw [upd_ne hb] at h
      exact e.there b h
theorem Ext.addL {H1 : Hp} {α1 : List Addr} {D : Addr} (e : Ext H1 α1 H α) (hD : H1 D = none) : Ext H1 α1 H (α ++ [D]) := by
  obtain ⟨β, rfl, h⟩ := e.app
  refine ⟨⟨β ++ [D], by simp, fun b hb => ?_⟩, e.keep, e.there⟩
  rcases List.mem_append.mp hb with hb | hb
  · exact h b hb
  · have : b = D := by simpa using hb
    rw [this]
    exact hD
theorem Ext.notIn {H1 : Hp} {α1 : List Addr} {D : Addr} {o : HO} (e : Ext H1 α1 H α) (hn : 0 < α1.length) (hD : H1 D = some o) (hD2 : D ∉ α1.tail) : D ∉ α.tail ∧ H D = some o := by
  obtain ⟨β, rfl, h⟩ := e.app
  refine ⟨?_, e.keep D o hD hD2⟩
  rw [tail_app hn]
  intro hm
  rcases List.mem_append.mp hm with hm | hm
  · exact hD2 hm
  · rw [h D hm] at hD
    cases hD
end

section
variable {X : Cx} {ct : CT} {k : Nat} {fa ca : Str → Option Addr} {Φ : Str → List D → Hd → R D} {hot : Bool} {W : WX} {η : Option (Addr × Str)} {tg : Expr}
abbrev W0 : WX := fun _ _ _ _ => False
theorem wipe1 (σ : L2.St) (s : Nat) : wipe σ [s] = σ.set s none := rfl
open Classical in
/-- the comprehension's reading -/
theorem lc_read {K : PySem.W.Frag} {s : Nat} {mi mc me : Ex} {σ : L2.St} {H : Hp} {Q : VK} (q : semE K fa ca W η (evE Φ (.lc s mi mc me)) σ H Q) :
    tLc (semI K fa ca W η (evE Φ mi)) (gName s) (semT K fa ca W0 η (evE Φ mc)) (semE K fa ca W0 η (evE Φ me)) [s] σ H Q := by
  obtain ⟨ρ, L, α, re, rp, q⟩ := q
  unfold evE at q
  refine ⟨ρ, L, α, re, rp, ?_⟩
  cases hr : evE Φ mi ρ L with
  | exc c L1 =>
    rw [hr] at q
    exact q
  | bad =>
    rw [hr] at q
    exact q
  | ok d L1 =>
    rw [hr, R.bind_ok] at q
    cases hi : items d L1 with
    | none =>
      rw [hi] at q
      exact q.elim
    | some wx =>
      obtain ⟨w, xs⟩ := wx
      rw [hi] at q
      refine ⟨w, xs, hi, fun J H1 α1 e1 p1 jok D hD => ?_⟩
      have q1 := Post.from rp.ne e1 q
      have re1 := re.ext e1 rp
      -- the turns
      refine ⟨fun i m H2 => m = xs.length - i ∧ i ≤ xs.length ∧ ∃ L2 α2 acc accV, RHp K fa H2 α2 L2 ∧ Ext H1 α1 H2 α2 ∧ H2 D = some (.lst accV) ∧ D ∉ α2.tail ∧ RVs K fa H2 α2 acc accV ∧ acc.length ≤ i ∧
        Post K fa ca W σ ((lcGo (fun x L => evE Φ mc (ρ.set s (some x)) L) (fun x L => evE Φ me (ρ.set s (some x)) L) w xs (xs.drop i) L2).bind fun ys L => alloc (acc ++ ys) L) H1 α1 Q,
        ⟨xs.length, by simp, Nat.zero_le _, L1, α1, [], [], p1.new hD, Ext.new hD, upd_same, ?_, .nil, by simp, by simpa using q1⟩, ?_⟩
      · intro hm
        obtain ⟨us, z⟩ := p1.tl D hm
        rw [hD] at z
        cases z
      rintro i m H2 ⟨rfl, hle, L2, α2, acc, accV, p2, e2, hD2, hn2, ra, hal, q2⟩
      by_cases hlt : i < xs.length
      · have hdrop : xs.drop i = xs[i] :: xs.drop (i + 1) := List.drop_eq_getElem_cons hlt
        rw [hdrop] at q2
        unfold lcGo at q2
        by_cases hs : seen w xs L2
        · rw [if_pos hs] at q2
          refine .inr ⟨jok.go i H2 α2 L2 p2 e2 hs hlt, fun H3 => ∃ m, m < xs.length - i ∧ m = xs.length - (i + 1) ∧ i + 1 ≤ xs.length ∧ ∃ L2 α2 acc accV, RHp K fa H3 α2 L2 ∧ Ext H1 α1 H3 α2 ∧ H3 D = some (.lst accV) ∧ D ∉ α2.tail ∧ RVs K fa H3 α2 acc accV ∧ acc.length ≤ i + 1 ∧
            Post K fa ca W σ ((lcGo (fun x L => evE Φ mc (ρ.set s (some x)) L) (fun x L => evE Φ me (ρ.set s (some x)) L) w xs (xs.drop (i + 1)) L2).bind fun ys L => alloc (acc ++ ys) L) H1 α1 Q, fun H3 h => ?_, fun x H3 hy => ?_⟩
          · obtain ⟨m, h1, h2, h3, h4⟩ := h
            exact ⟨m, h1, h2, h3, h4⟩
          · obtain ⟨rfl, d0, hd0, rx⟩ := jok.yld i H2 α2 L2 x H3 p2 e2 hs hlt hy
            rw [List.getElem?_eq_getElem hlt] at hd0
            cases hd0
            show wipe ((wipe σ [s]).set s (some x)) [s] = wipe σ [s] ∧ _
            refine ⟨by rw [wipe1, wipe1, List.set_set, List.set_set], ?_⟩
            have re2 : REnv K fa η H3 α2 (ρ.set s (some xs[i])) ((wipe σ [s]).set s (some x)) := by
              rw [wipe1, List.set_set]
              exact (re1.ext e2 p1).set rx
            refine ⟨_, L2, α2, re2, p2, ?_⟩
            -- the test
            cases hc : evE Φ mc (ρ.set s (some xs[i])) L2 with
            | exc c L3 =>
              rw [hc] at q2
              exact q2.elim
            | bad =>
              rw [hc] at q2
              exact q2.elim
            | ok t L3 =>
              rw [hc] at q2
              cases t with
              | bl b =>
                refine ⟨b, rfl, fun H4 α4 e4 p4 => ?_⟩
                have e14 := e2.trans p1.ne e4
                obtain ⟨hn4, hD4⟩ := e4.notIn p2.ne hD2 hn2
                have ra4 := ra.ext e4 p2.tl
                cases b with
                | false =>
                  exact iteF ⟨xs.length - (i + 1), by omega, rfl, hlt, L3, α4, acc, accV, p4, e14, hD4, hn4, ra4, by omega, q2⟩
                | true =>
                  refine iteT ⟨_, L3, α4, re2.ext e4 p2, p4, ?_⟩
                  dsimp only at q2
                  cases he : evE Φ me (ρ.set s (some xs[i])) L3 with
                  | exc c L5 =>
                    rw [he] at q2
                    exact q2.elim
                  | bad =>
                    rw [he] at q2
                    exact q2.elim
                  | ok y L5 =>
                    rw [he] at q2
                    intro v H5 α5 e5 p5 ry
                    obtain ⟨hn5, hD5⟩ := e5.notIn p4.ne hD4 hn4
                    have ra5 := ra4.ext e5 p4.tl
                    have hlen := ra5.length
                    -- how long the list may be
                    have q3 : Post K fa ca W σ ((lcGo (fun x L => evE Φ mc (ρ.set s (some x)) L) (fun x L => evE Φ me (ρ.set s (some x)) L) w xs (xs.drop (i + 1)) L5).bind fun ys L => alloc (acc ++ y :: ys) L) H1 α1 Q := by
                      dsimp only at q2
                      cases hg : lcGo (fun x L => evE Φ mc (ρ.set s (some x)) L) (fun x L => evE Φ me (ρ.set s (some x)) L) w xs (xs.drop (i + 1)) L5 with
                      | ok ys L6 =>
                        rw [hg] at q2
                        exact q2
                      | exc c L6 =>
                        rw [hg] at q2
                        exact q2.elim
                      | bad =>
                        rw [hg] at q2
                        exact q2.elim
                    have hshort : acc.length < sizeLine := by
                      cases hg : lcGo (fun x L => evE Φ mc (ρ.set s (some x)) L) (fun x L => evE Φ me (ρ.set s (some x)) L) w xs (xs.drop (i + 1)) L5 with
                      | ok ys L6 =>
                        rw [hg] at q3
                        have hl := alloc_lim (fa := fa) (Post.v (alloc_calm _ _) q3)
                        rw [List.length_append, List.length_cons] at hl
                        exact limLt (by omega)
                      | exc c L6 =>
                        -- no exception leaves the turns
                        have : ∀ (l : List MP.D) (L : Hd) c L', lcGo (fun x L => evE Φ mc (ρ.set s (some x)) L) (fun x L => evE Φ me (ρ.set s (some x)) L) w xs l L ≠ .exc c L' := by
                          intro l
                          induction l with
                          | nil =>
                            intro L c L' h
                            unfold lcGo at h
                            split at h <;> cases h
                          | cons x l ihl =>
                            intro L c L' h
                            unfold lcGo at h
                            repeat' split at h
                            all_goals first
                              | exact ihl _ _ _ h
                              | cases h
                        exact absurd hg (this _ _ _ _)
                      | bad =>
                        rw [hg] at q3
                        exact q3.elim
                    refine ⟨accV, hD5, by rw [← hlen]; exact hshort, ?_⟩
                    have e15 := e14.trans p1.ne e5
                    refine ⟨xs.length - (i + 1), by omega, rfl, hlt, L5, α5, acc ++ [y], accV ++ [v], p5.other hD5 hn5, e15.upd hD, upd_same, hn5, ?_, by simp; omega, ?_⟩
                    · exact (ra5.append (.cons ry .nil)).mono (fun _ _ h => h) (sqt_upd hD5)
                    · simpa using q3
              | _ => exact q2.elim
        · rw [if_neg hs] at q2
          exact q2.elim
      · have hi2 : i = xs.length := by omega
        rw [hi2, List.drop_length] at q2
        unfold lcGo at q2
        by_cases hs : seen w xs L2
        · rw [if_pos hs, R.bind_ok, List.append_nil] at q2
          refine .inl ⟨jok.stop i H2 α2 L2 p2 e2 hs (by omega), ?_⟩
          have q3 := Post.v (alloc_calm _ _) q2
          have hl := alloc_lim q3
          unfold alloc at q3
          rw [if_pos hl] at q3
          refine q3 _ _ _ (e2.addL hD) (p2.addL hD2 hn2 ra) (.ref ?_)
          rw [← p2.len, List.getElem?_append_right (Nat.le_refl _)]
          simp
        · rw [if_neg hs] at q2
          exact q2.elim
end
end MP

/-! All expressions, all tests. -/
namespace MP
open PySem PySem.Spec PyProof.Rows L2

section
variable {X : Cx} {ct : CT} {k : Nat} {fa ca : Str → Option Addr} {Φ : Str → List D → Hd → R D} {hot : Bool} {W : WX} {η : Option (Addr × Str)} {tg : Expr}
theorem pi_revS (C : Cok ct k fa ca Φ hot W η X) {e : Expr} {m : Ex} (h : PE X e (sE X fa ca Φ W η m)) {p pos : Pos} (hg : isGl X.env.scope "reversed" = true) (hb : ct.bt.contains "reversed" = true) (hs : noStar1 e = true) :
    PI X tg (.Call (.Name "reversed" p) [e] [] pos) (semI X.K fa ca W η (evE Φ (.rev m))) := by
  refine piImp (RT.pi_revA (isGl_gl hg) (C.gl.bt _ hb) h (star_eq hs)) fun σ H Q q => ?_
  obtain ⟨ρ, L, α, re, rp, q⟩ := q
  unfold evE at q
  refine ⟨ρ, L, α, re, rp, PostI.first rp.ne q fun d L1 v H1 α1 e0 e1 p1 r1 q1 => ?_⟩
  cases r1 with
  | tup h1 r1 =>
    obtain ⟨w, xs, hi, q1⟩ := q1
    cases hi
    exact ⟨_, _, rfl, .inr ⟨h1, q1 _ _ _ Ext.refl p1 (jok_revT p1 h1 r1)⟩⟩
  | _ => exact q1.elim
theorem pi_iterE (C : Cok ct k fa ca Φ hot W η X) {ce : Expr → Ex} (ih : ∀ e, PE X e (sE X fa ca Φ W η (ce e))) (it : Expr) : PI X tg it (semI X.K fa ca W η (evE Φ (iterE ct X.env.scope ce it))) := by
  unfold iterE
  split
  · rename_i x px as kws p
    split
    · rename_i h
      obtain ⟨h1, h2, h3, rfl⟩ := h
      split
      · rename_i h
        obtain ⟨h4, h5, h6, h7⟩ := h
        obtain rfl := nil_of h5
        exact pi_rngS C ih h1 h3 h4 h6 h7
      · exact pi_bad rfl
    · split
      · rename_i h
        obtain ⟨h1, h2, h3, rfl⟩ := h
        split
        · rename_i a
          split
          · rename_i h
            obtain ⟨h4, h5⟩ := h
            obtain rfl := nil_of h5
            exact pi_revS C (ih a) h1 h3 h4
          · exact pi_bad rfl
        · exact pi_bad rfl
      · exact pi_val (ih _)
  · exact pi_bad rfl
  · exact pi_val (ih _)
theorem fold_ok {it : Expr} {env : PySem.Env} (h : noSet it = true) : ∀ x, foldedSetIterable it env x = pure x := fun x => by
  cases it <;> first | rfl | cases h
theorem iterE_set {sc : Scope} {ce : Expr → Ex} {it : Expr} (h : noSet it = false) : iterE ct sc ce it = .bad := by
  cases it <;> first | rfl | cases h
theorem Cok.blk (C : Cok ct k fa ca Φ false W η X) (s : Shared) (H : Hp) (scope : Scope) (Cc : Addr) (cl : List (Str × Addr)) (fp : List Addr) : Cok ct k fa ca Φ false W0 η (X.blk s H scope (compEnvC scope cl Cc X.env) fp) :=
  ⟨C.nd, takes0, C.calm, C.room, C.units, C.gl, fun a c h => absurd (C.isE a c h).1 Bool.false_ne_true⟩
/-- a comprehension, by its parts -/
theorem lc_parts (C : Cok ct k fa ca Φ false W η X) {n : Nat} (ihE : ∀ (X : Cx) (W : WX), Cok ct k fa ca Φ false W η X → ∀ e, PE X e (sE X fa ca Φ W η (compE ct X.N false n X.env.scope e)))
    (ihT : ∀ (X : Cx) (W : WX), Cok ct k fa ca Φ false W η X → ∀ e, PT X e (sT X fa ca Φ W η (compE ct X.N false n X.env.scope e)))
    {y : Str} {py : Pos} {elt : Expr} {ifs : List Expr} {scope : Scope} {i : Nat} {mc : Ex} (hi : ixOf X.N y = some i) (hb : blkC X.N X.env.scope scope [(y, i)] = true) (hl : isLoc (relS scope X.env.scope) y = true)
    (hc : (ifs = [] ∧ mc = .bl true) ∨ ∃ c, ifs = [c] ∧ mc = compE ct X.N false n (relS scope X.env.scope) c) :
    (∀ (s : Shared) (H : Hp) (Cc : Addr) (cl : List (Str × Addr)) (fp : List Addr), PG (X.blk s H scope (compEnvC scope cl Cc X.env) fp) (.Name y py) (gName i)) ∧
    (∀ (s : Shared) (H : Hp) (Cc : Addr) (cl : List (Str × Addr)) (fp : List Addr), PTs (X.blk s H scope (compEnvC scope cl Cc X.env) fp) ifs (semT X.K fa ca W0 η (evE Φ mc))) ∧
    (∀ (s : Shared) (H : Hp) (Cc : Addr) (cl : List (Str × Addr)) (fp : List Addr), PE (X.blk s H scope (compEnvC scope cl Cc X.env) fp) elt (semE X.K fa ca W0 η (evE Φ (compE ct X.N false n (relS scope X.env.scope) elt)))) := by
  refine ⟨fun s H Cc cl fp => ?_, fun s H Cc cl fp => ?_, fun s H Cc cl fp => ?_⟩
  · exact pg_name (X := X.blk s H scope (compEnvC scope cl Cc X.env) fp) C.nd (ixOf_get hi) (.inl (isLoc_loc hl)) (.inr (isLoc_loc hl))
  · rcases hc with ⟨rfl, rfl⟩ | ⟨c, rfl, rfl⟩
    · refine ⟨fun pins s1 σ H1 Q I q => pts_nil.run pins s1 σ H1 Q I ?_⟩
      obtain ⟨ρ, L, α, re, rp, b, eb, q⟩ := q
      cases eb
      exact q H1 α Ext.refl rp
    · exact pts_one (ihT (X.blk s H scope (compEnvC scope cl Cc X.env) fp) W0 (C.blk s H scope Cc cl fp) c)
  · exact ihE (X.blk s H scope (compEnvC scope cl Cc X.env) fp) W0 (C.blk s H scope Cc cl fp) elt
theorem pt_other {e : Expr} {m : Ex} (h : PE X e (sE X fa ca Φ W η m)) (he : ∀ whole, isTrue e X.env whole = (do let v ← whole; standAt e.pos; holding [v] (truthy v))) : PT X e (sT X fa ca Φ W η m) :=
  ptImp (pt_val h he) fun σ H Q q => semT_val q
theorem pt_cmpS (C : Cok ct k fa ca Φ hot W η X) {op : CmpOp} {a b : Expr} {ma mb : Ex} {pos : Pos} (ha : PE X a (sE X fa ca Φ W η ma)) (hb : PE X b (sE X fa ca Φ W η mb)) : PT X (.Compare a [op] [b] pos) (sT X fa ca Φ W η (cmpE op ma mb b)) := by
  unfold cmpE
  split
  · rename_i o ho
    split
    · rename_i hs
      rw [copOf_to ho]
      exact ptImp (pt_cmpR (op_cmp C.units o) ha hb (noSet_marks hs)) fun σ H Q q => sem2 (fun _ _ _ => cmpop_calm _ _ _ _) (semT_val q)
    · exact pt_bad rfl
  · split
    · split
      · rename_i hn
        unfold isNone at hn
        split at hn
        · refine ptImp (pt_cmp (pc_isN ha) rfl) fun σ H Q q => ?_
          obtain ⟨ρ, L, α, re, rp, q⟩ := semT_val q
          refine ⟨ρ, L, α, re, rp, q.first rp.ne fun d L1 v H1 α1 e0 e1 p1 r1 q1 => ?_⟩
          have q2 := q1 _ H1 α1 Ext.refl p1 (.bl _)
          cases r1 <;> exact q2
        · cases hn
      · exact pt_bad rfl
    · split
      · rename_i hn
        unfold isNone at hn
        split at hn
        · refine ptImp (pt_cmp (pc_notN ha) rfl) fun σ H Q q => ?_
          obtain ⟨ρ, L, α, re, rp, q⟩ := semT_val q
          refine ⟨ρ, L, α, re, rp, q.first rp.ne fun d L1 v H1 α1 e0 e1 p1 r1 q1 => ?_⟩
          have q2 := q1 _ H1 α1 Ext.refl p1 (.bl _)
          cases r1 <;> exact q2
        · cases hn
      · exact pt_bad rfl
    · exact pt_bad rfl
/-- THE RULE for expressions and tests -/
theorem snd_E : ∀ (n : Nat) (hot : Bool) (W : WX) (X : Cx), Cok ct k fa ca Φ hot W η X → (∀ e, PE X e (sE X fa ca Φ W η (compE ct X.N hot n X.env.scope e))) ∧ ∀ e, PT X e (sT X fa ca Φ W η (compE ct X.N hot n X.env.scope e))
  | 0, hot, W, X, C => ⟨fun e => pe_bad rfl, fun e => pt_bad rfl⟩
  | n + 1, hot, W, X, C => by
    have ihE := (snd_E n hot W X C).1
    have ihT := (snd_E n hot W X C).2
    have hE : ∀ e, PE X e (sE X fa ca Φ W η (compE ct X.N hot (n + 1) X.env.scope e)) := fun e => by
      unfold compE
      split
      · split
        · exact peImp pe_non fun σ H Q q => by
            obtain ⟨ρ, L, α, re, rp, q⟩ := q
            exact q _ H α Ext.refl rp .non
        · exact peImp pe_bl fun σ H Q q => by
            obtain ⟨ρ, L, α, re, rp, q⟩ := q
            exact q _ H α Ext.refl rp (.bl _)
        · exact peImp pe_int fun σ H Q q => by
            obtain ⟨ρ, L, α, re, rp, q⟩ := q
            exact q _ H α Ext.refl rp (.int _)
        · exact peImp pe_str fun σ H Q q => by
            obtain ⟨ρ, L, α, re, rp, q⟩ := q
            exact q _ H α Ext.refl rp (.str _)
        · exact pe_bad rfl
      · exact pe_nameS C
      · split
        · rename_i hs
          refine peImp (pe_tup (pa_sem ihE hs)) fun σ H Q q => ?_
          obtain ⟨ρ, L, α, re, rp, q⟩ := q
          unfold evE at q
          refine ⟨ρ, L, α, re, rp, Post.args rp.ne q (fun d L hd => by cases d <;> first | rfl | exact absurd rfl (hd _)) fun ds L1 vs H1 α1 e0 e1 p1 r1 q1 => ?_⟩
          dsimp only at q1
          split at q1
          · rename_i hl
            rw [r1.length] at hl
            exact ⟨limLe hl, fun t ht => q1 _ _ _ (Ext.new ht) (p1.new ht) (.tup (SqT.of upd_same) (r1.ext (Ext.new ht) p1.tl))⟩
          · exact q1.elim
        · exact pe_bad rfl
      · split
        · rename_i hs
          refine peImp (pe_lst (pa_sem ihE hs)) fun σ H Q q => ?_
          obtain ⟨ρ, L, α, re, rp, q⟩ := q
          unfold evE at q
          refine ⟨ρ, L, α, re, rp, Post.args rp.ne q (fun d L hd => by cases d <;> first | rfl | exact absurd rfl (hd _)) fun ds L1 vs H1 α1 e0 e1 p1 r1 q1 => ?_⟩
          have q2 := Post.v (alloc_calm _ _) q1
          have hl := alloc_lim q2
          rw [r1.length] at hl
          exact ⟨limLe hl, alloc_post p1 r1 q2⟩
        · exact pe_bad rfl
      · split
        · rename_i o ho
          rw [bopOf_to ho]
          exact peImp (pe_op (op_bin o) (ihE _) (ihE _)) fun σ H Q q => sem2 (fun _ _ _ => binop_calm _ _ _ _) q
        · exact pe_bad rfl
      · split
        · exact peImp (pe_un (un_negS (fa := fa)) (ihE _)) fun σ H Q q => sem1 (fun x L c L' e => by
            split at e <;> cases e) q
        · refine peImp (pe_not (ihE _)) fun σ H Q q => ?_
          obtain ⟨ρ, L, α, re, rp, q⟩ := q
          unfold evE at q
          refine ⟨ρ, L, α, re, rp, Post.test rp.ne q (fun L1 H1 α1 e0 e1 p1 q1 => ?_) fun L1 H1 α1 e0 e1 p1 q1 => ?_⟩
          · exact ⟨true, rfl, q1 _ H1 α1 Ext.refl p1 (.bl _)⟩
          · exact ⟨false, rfl, q1 _ H1 α1 Ext.refl p1 (.bl _)⟩
        · exact pe_bad rfl
      · exact pe_boolS ihE
      · split
        · exact pe_cmpS C (ihE _) (ihE _)
        · exact pe_bad rfl
      · split
        · split
          · exact pe_slS ihE
          · exact pe_bad rfl
        · rename_i hne
          exact pe_ixS (ihE _) (ihE _) fun lo hi st p e => hne lo hi st p e
      · exact pe_callAny C ihE
      · split
        · exact pe_bad rfl
        · rename_i hh
          have hh' : hot = false := by simpa using hh
          subst hh'
          split
          · rename_i elt scope p gs y py it ifs
            split
            · rename_i i hi
              split
              · rename_i h
                obtain ⟨hb, hl⟩ := h
                by_cases hset : noSet it = true
                · have key : ∀ mc, ((ifs = [] ∧ mc = .bl true) ∨ ∃ c, ifs = [c] ∧ mc = compE ct X.N false n (relS scope X.env.scope) c) →
                      PE X (.ListComp elt [⟨.Name y py, it, ifs, 0⟩] scope p) (sE X fa ca Φ W η (.lc i (iterE ct X.env.scope (compE ct X.N false n X.env.scope) it) mc (compE ct X.N false n (relS scope X.env.scope) elt))) := fun mc hc => by
                    obtain ⟨hg, ht, he⟩ := lc_parts (py := py) (elt := elt) C (fun X W C => (snd_E n false W X C).1) (fun X W C => (snd_E n false W X C).2) hi hb hl hc
                    exact peImp (pe_lc (C.calm rfl) C.nd (pi_iterE C ihE it) (blkOk_by hb) hg ht he (fold_ok hset)) fun σ H Q q => lc_read q
                  split
                  · exact key _ (.inl ⟨rfl, rfl⟩)
                  · exact key _ (.inr ⟨_, rfl, rfl⟩)
                  · exact pe_bad rfl
                · rw [iterE_set (by simpa using hset)]
                  split
                  all_goals first
                    | exact pe_bad rfl
                    | (refine ⟨fun pins s σ H Q I q => ?_⟩
                       obtain ⟨ρ, L, α, re, rp, q⟩ := q
                       exact q.elim)
              · exact pe_bad rfl
            · exact pe_bad rfl
          · exact pe_bad rfl
      · exact pe_bad rfl
    refine ⟨hE, fun e => ?_⟩
    cases e with
    | BoolOp op es pos => exact (pw_boolS ihT).pt
    | UnaryOp op a pos =>
      cases op with
      | Not =>
        refine ptImp (pt_not (ihT a)) fun σ H Q q => ?_
        obtain ⟨ρ, L, α, re, rp, q⟩ := q
        refine ⟨ρ, L, α, re, rp, PostT.test rp.ne q (fun L1 H1 α1 e0 e1 p1 q1 => ?_) fun L1 H1 α1 e0 e1 p1 q1 => ?_⟩
        · obtain ⟨b, eb, q1⟩ := q1
          cases eb
          exact q1 H1 α1 Ext.refl p1
        · obtain ⟨b, eb, q1⟩ := q1
          cases eb
          exact q1 H1 α1 Ext.refl p1
      | _ => exact pt_other (hE _) (fun _ => rfl)
    | IfExp a b c pos => exact pt_bad rfl
    | Compare a ops bs pos =>
      match ops, bs with
      | [op], [b] =>
        exact pt_cmpS C (ihE _) (ihE _)
      | [], _ => exact pt_bad rfl
      | [_], [] => exact pt_bad rfl
      | [_], _ :: _ :: _ => exact pt_bad rfl
      | _ :: _ :: _, [] => exact pt_bad rfl
      | _ :: _ :: _, _ :: _ => exact pt_bad rfl
    | _ => exact pt_other (hE _) (fun _ => rfl)
end
end MP

/-! Statements. -/
namespace MP
open PySem PySem.Spec PyProof.Rows L2

def PostS (K : PySem.W.Frag) (fa ca : Str → Option Addr) (W : WX) (η : Option (Addr × Str)) (o : O) (H : Hp) (α : List Addr) (D : Ends) : Prop := match o with
  | .nx ρ L => ∀ σ' H' α', Ext H α H' α' → REnv K fa η H' α' ρ σ' → RHp K fa H' α' L → D.nx σ' H'
  | .bk ρ L => ∀ σ' H' α', Ext H α H' α' → REnv K fa η H' α' ρ σ' → RHp K fa H' α' L → D.bk σ' H'
  | .ct ρ L => ∀ σ' H' α', Ext H α H' α' → REnv K fa η H' α' ρ σ' → RHp K fa H' α' L → D.ct σ' H'
  | .rt d L => ∀ v H' α', Ext H α H' α' → RHp K fa H' α' L → RV K fa H' α' d v → D.rt v H'
  | .ex c ρ L => ∀ C σ' H' α', ca c = some C → Ext H α H' α' → REnv K fa η H' α' ρ σ' → RHp K fa H' α' L → W (.ref C) none σ' H'
  | .bad => False
def semS (K : PySem.W.Frag) (fa ca : Str → Option Addr) (W : WX) (η : Option (Addr × Str)) (f : Env → Hd → O) : TS := fun D σ H => ∃ ρ L α, REnv K fa η H α ρ σ ∧ RHp K fa H α L ∧ PostS K fa ca W η (f ρ L) H α D
/-- the context of a statement -/
structure Sok (ct : CT) (k : Nat) (fa ca : Str → Option Addr) (Φ : Str → List D → Hd → R D) (hot : Bool) (W : WX) (η : Option (Addr × Str)) (X : Cx) : Prop where
  c : Cok ct k fa ca Φ hot W η X
  po : PassesOwn (model X.prog X.w) X.A X.env X.xe
  stk : X.stack = X.env :: X.outer
  frm : X.env.frame = some X.env.locals
  fnm : ∀ x, X.fn x = true
section
variable {K : PySem.W.Frag} {fa ca : Str → Option Addr} {W : WX} {η : Option (Addr × Str)} {H H' : Hp} {α α' : List Addr} {D : Ends}
theorem PostS.from {o : O} (hn : 0 < α.length) (e : Ext H α H' α') (h : PostS K fa ca W η o H α D) : PostS K fa ca W η o H' α' D := by
  cases o with
  | nx ρ L => exact fun σ H2 α2 e2 => h σ H2 α2 (e.trans hn e2)
  | bk ρ L => exact fun σ H2 α2 e2 => h σ H2 α2 (e.trans hn e2)
  | ct ρ L => exact fun σ H2 α2 e2 => h σ H2 α2 (e.trans hn e2)
  | rt d L => exact fun v H2 α2 e2 => h v H2 α2 (e.trans hn e2)
  | ex c ρ L => exact fun C σ H2 α2 hc e2 => h C σ H2 α2 hc (e.trans hn e2)
  | bad => exact h
/-- a value first -/
theorem PostS.val {L : Hd} {ρ : Env} {σ : L2.St} {r : R MP.D} {f : MP.D → Hd → O} {Q : VK} (re : REnv K fa η H α ρ σ) (rp : RHp K fa H α L) (h : PostS K fa ca W η (r.on ρ f) H α D)
    (k : ∀ d L v H' α', r = .ok d L → Ext H α H' α' → RHp K fa H' α' L → RV K fa H' α' d v → PostS K fa ca W η (f d L) H' α' D → Q v H') : Post K fa ca W σ r H α Q := by
  cases r with
  | ok d L1 => exact fun v H' α' e p rv => k d L1 v H' α' rfl e p rv (PostS.from rp.ne e h)
  | exc c L1 => exact fun C H' α' hc e p => h C σ H' α' hc e (re.ext e rp) p
  | bad => exact h
/-- a test first -/
theorem PostS.test {L : Hd} {ρ : Env} {σ : L2.St} {r : R MP.D} {t f : Hd → O} {Q : Bool → Hp → Prop} (re : REnv K fa η H α ρ σ) (rp : RHp K fa H α L) (h : PostS K fa ca W η (r.on ρ fun d L => ifB d (t L) (f L)) H α D)
    (k1 : ∀ L H' α', Ext H α H' α' → RHp K fa H' α' L → PostS K fa ca W η (t L) H' α' D → Q true H')
    (k0 : ∀ L H' α', Ext H α H' α' → RHp K fa H' α' L → PostS K fa ca W η (f L) H' α' D → Q false H') : PostT K fa ca W σ r H α Q := by
  cases r with
  | ok d L1 =>
    cases d with
    | bl b =>
      refine ⟨b, rfl, fun H' α' e p => ?_⟩
      cases b with
      | true => exact k1 L1 H' α' e p (PostS.from rp.ne e (show PostS K fa ca W η (t L1) H α D from h))
      | false => exact k0 L1 H' α' e p (PostS.from rp.ne e (show PostS K fa ca W η (f L1) H α D from h))
    | _ => exact h.elim
  | exc c L1 => exact fun C H' α' hc e p => h C σ H' α' hc e (re.ext e rp) p
  | bad => exact h
end
section
variable {X : Cx} {ct : CT} {k : Nat} {fa ca : Str → Option Addr} {Φ : Str → List D → Hd → R D} {hot : Bool} {W : WX} {η : Option (Addr × Str)}
abbrev sS (X : Cx) (fa ca : Str → Option Addr) (Φ : Str → List D → Hd → R D) (W : WX) (η : Option (Addr × Str)) (m : Sm) : TS := semS X.K fa ca W η (run Φ m)
theorem psImp {s : Stmt} {t u : TS} (h : PS X s t) (i : ∀ D σ H, u D σ H → t D σ H) : PS X s u := ⟨fun pins s σ H D I q => h.run pins s σ H D I (i D σ H q)⟩
theorem pssImp {s : List Stmt} {t u : TS} (h : PSs X s t) (i : ∀ D σ H, u D σ H → t D σ H) : PSs X s u := ⟨fun pins s σ H D I q => h.run pins s σ H D I (i D σ H q)⟩
theorem ps_bad {s : Stmt} {m : Sm} (h : m = .bad) : PS X s (sS X fa ca Φ W η m) := ⟨fun _ _ _ _ _ _ q => by
  subst h
  obtain ⟨ρ, L, α, _, _, q⟩ := q
  exact q.elim⟩
/-- a block -/
theorem pss_sem {f : Stmt → Sm} (ih : ∀ s, PS X s (sS X fa ca Φ W η (f s))) : ∀ {ss : List Stmt}, PSs X ss (sS X fa ca Φ W η (compB f ss))
  | [] => pssImp pss_nil fun D σ H q => by
    obtain ⟨ρ, L, α, re, rp, q⟩ := q
    exact q σ H α Ext.refl re rp
  | s :: ss => by
    refine pssImp (pss_cons (ih s) (pss_sem ih)) fun D σ H q => ?_
    obtain ⟨ρ, L, α, re, rp, q⟩ := q
    refine ⟨ρ, L, α, re, rp, ?_⟩
    have q' : PostS X.K fa ca W η ((run Φ (f s) ρ L).then fun ρ L => run Φ (compB f ss) ρ L) H α D := q
    cases hr : run Φ (f s) ρ L with
    | nx ρ' L' =>
      rw [hr] at q'
      exact fun σ' H' α' e re' rp' => ⟨ρ', L', α', re', rp', PostS.from rp.ne e q'⟩
    | _ =>
      rw [hr] at q'
      exact q'
theorem swaps_no {e : Expr} {tg : Option Expr} {n : Nat} {env : PySem.Env} (h : noComp e = true) : swapsWith e tg n env = pure false := by
  cases e <;> first | rfl | cases h
theorem swaps_sub {e o i : Expr} {n : Nat} {env : PySem.Env} {p : Pos} : swapsWithSole [.Subscript o i p] e n env = pure false := by
  cases e <;> rfl
theorem stores_sub {e o i : Expr} {env : PySem.Env} {p : Pos} : swappedStores [.Subscript o i p] e env = pure none := rfl
/-- while -/
theorem wh_read {c : Ex} {b : Sm} {D : Ends} {σ : L2.St} {H : Hp} {K : PySem.W.Frag} (q : semS K fa ca W η (run Φ (.wh c b)) D σ H) : tWhile (semT K fa ca W η (evE Φ c)) (semS K fa ca W η (run Φ b)) D σ H := by
  obtain ⟨ρ, L, α, re, rp, q⟩ := q
  unfold run whL at q
  split at q
  · rename_i hex
    refine ⟨fun m σ H => ∃ ρ L α, REnv K fa η H α ρ σ ∧ RHp K fa H α L ∧ PostS K fa ca W η (whN (fun ρ L => evE Φ c ρ L) (fun ρ L => run Φ b ρ L) m ρ L) H α D, ⟨_, ρ, L, α, re, rp, q⟩, ?_⟩
    rintro m σ1 H1 ⟨ρ1, L1, α1, re1, rp1, q1⟩
    cases m with
    | zero => exact q1.elim
    | succ m =>
      refine ⟨ρ1, L1, α1, re1, rp1, PostS.test re1 rp1 q1 (fun L2 H2 α2 e2 p2 q2 => ?_) fun L2 H2 α2 e2 p2 q2 => ?_⟩
      · rw [if_pos rfl]
        refine ⟨fun σ H => ∃ ρ L α, REnv K fa η H α ρ σ ∧ RHp K fa H α L ∧ PostS K fa ca W η (whN (fun ρ L => evE Φ c ρ L) (fun ρ L => run Φ b ρ L) m ρ L) H α D, fun σ' H' h => ⟨m, Nat.lt_succ_self m, h⟩, ?_⟩
        refine ⟨ρ1, L2, α2, re1.ext e2 rp1, p2, ?_⟩
        replace q2 : PostS K fa ca W η ((run Φ b ρ1 L2).turn fun ρ L => whN (fun ρ L => evE Φ c ρ L) (fun ρ L => run Φ b ρ L) m ρ L) H2 α2 D := q2
        cases hr : run Φ b ρ1 L2 with
        | nx ρ' L' =>
          rw [hr] at q2
          exact fun σ' H' α' e re' rp' => ⟨ρ', L', α', re', rp', PostS.from p2.ne e q2⟩
        | ct ρ' L' =>
          rw [hr] at q2
          exact fun σ' H' α' e re' rp' => ⟨ρ', L', α', re', rp', PostS.from p2.ne e q2⟩
        | _ =>
          rw [hr] at q2
          exact q2
      · rw [if_neg Bool.false_ne_true]
        exact q2 σ1 H2 α2 Ext.refl (re1.ext e2 rp1) p2
  · exact q.elim
open Classical in
/-- for -/
theorem for_read {s : Nat} {it : Ex} {b : Sm} {D : Ends} {σ : L2.St} {H : Hp} {K : PySem.W.Frag} (q : semS K fa ca W η (run Φ (.for_ s it b)) D σ H) : tFor (semI K fa ca W η (evE Φ it)) (gName s) (semS K fa ca W η (run Φ b)) D σ H := by
  obtain ⟨ρ, L, α, re, rp, q⟩ := q
  unfold run at q
  refine ⟨ρ, L, α, re, rp, ?_⟩
  cases hr : evE Φ it ρ L with
  | exc c L1 =>
    rw [hr] at q
    exact fun C H' α' hc e p => q C σ H' α' hc e (re.ext e rp) p
  | bad =>
    rw [hr] at q
    exact q
  | ok d L1 =>
    rw [hr, R.on_ok] at q
    cases hi : items d L1 with
    | none =>
      rw [hi] at q
      exact q.elim
    | some wx =>
      obtain ⟨w, xs⟩ := wx
      rw [hi] at q
      refine ⟨w, xs, hi, fun J H1 α1 e1 p1 jok => ?_⟩
      have q1 := PostS.from rp.ne e1 q
      have re1 := re.ext e1 rp
      refine ⟨fun i m σ2 H2 => m = xs.length - i ∧ i ≤ xs.length ∧ ∃ ρ2 L2 α2, REnv K fa η H2 α2 ρ2 σ2 ∧ RHp K fa H2 α2 L2 ∧ Ext H1 α1 H2 α2 ∧ PostS K fa ca W η (forGo (fun ρ L => run Φ b ρ L) s w xs (xs.drop i) ρ2 L2) H2 α2 D,
        ⟨xs.length, by simp, Nat.zero_le _, ρ, L1, α1, re1, p1, Ext.refl, q1⟩, ?_⟩
      rintro i m σ2 H2 ⟨rfl, hle, ρ2, L2, α2, re2, p2, e2, q2⟩
      by_cases hlt : i < xs.length
      · have hdrop : xs.drop i = xs[i] :: xs.drop (i + 1) := List.drop_eq_getElem_cons hlt
        rw [hdrop] at q2
        unfold forGo at q2
        by_cases hs : seen w xs L2
        · rw [if_pos hs] at q2
          refine .inr ⟨jok.go i H2 α2 L2 p2 e2 hs hlt, fun σ3 H3 => ∃ ρ3 L3 α3, REnv K fa η H3 α3 ρ3 σ3 ∧ RHp K fa H3 α3 L3 ∧ Ext H1 α1 H3 α3 ∧ PostS K fa ca W η (forGo (fun ρ L => run Φ b ρ L) s w xs (xs.drop (i + 1)) ρ3 L3) H3 α3 D,
            fun σ3 H3 h => ⟨xs.length - (i + 1), by omega, rfl, hlt, h⟩, fun x H3 hy => ?_⟩
          obtain ⟨rfl, d0, hd0, rx⟩ := jok.yld i H2 α2 L2 x H3 p2 e2 hs hlt hy
          rw [List.getElem?_eq_getElem hlt] at hd0
          cases hd0
          refine ⟨ρ2.set s (some xs[i]), L2, α2, re2.set rx, p2, ?_⟩
          replace q2 : PostS K fa ca W η ((run Φ b (ρ2.set s (some xs[i])) L2).turn fun ρ L => forGo (fun ρ L => run Φ b ρ L) s w xs (xs.drop (i + 1)) ρ L) H3 α2 D := q2
          cases hr2 : run Φ b (ρ2.set s (some xs[i])) L2 with
          | nx ρ' L' =>
            rw [hr2] at q2
            exact fun σ' H' α' e re' rp' => ⟨ρ', L', α', re', rp', e2.trans p1.ne e, PostS.from p2.ne e q2⟩
          | ct ρ' L' =>
            rw [hr2] at q2
            exact fun σ' H' α' e re' rp' => ⟨ρ', L', α', re', rp', e2.trans p1.ne e, PostS.from p2.ne e q2⟩
          | _ =>
            rw [hr2] at q2
            exact q2
        · rw [if_neg hs] at q2
          exact q2.elim
      · have hi2 : i = xs.length := by omega
        rw [hi2, List.drop_length] at q2
        unfold forGo at q2
        by_cases hs : seen w xs L2
        · rw [if_pos hs] at q2
          exact .inl ⟨jok.stop i H2 α2 L2 p2 e2 hs (by omega), q2 σ2 H2 α2 Ext.refl re2 p2⟩
        · rw [if_neg hs] at q2
          exact q2.elim
end
end MP

/-! All statements. -/
namespace MP
open PySem PySem.Spec PyProof.Rows L2

section
variable {X : Cx} {ct : CT} {k : Nat} {fa ca : Str → Option Addr} {Φ : Str → List D → Hd → R D} {hot : Bool} {W : WX} {η : Option (Addr × Str)}
theorem Sok.tr (S : Sok ct k fa ca Φ false W η X) {pn : List (Addr × Obj)} {xe : Value → Shared → Prop} {W' : WX} (tk : Takes (X.tr pn xe) W') (po : PassesOwn (model X.prog X.w) X.A X.env xe) : Sok ct k fa ca Φ false W' η (X.tr pn xe) :=
  ⟨⟨S.c.nd, tk, S.c.calm, S.c.room, S.c.units, S.c.gl, fun a c h => absurd (S.c.isE a c h).1 Bool.false_ne_true⟩, po, S.stk, S.frm, S.fnm⟩
theorem Sok.su (S : Sok ct k fa ca Φ false W η X) {a : Addr} {oe : Obj} {C : Addr} {c : Str} {pn : List (Addr × Obj)} (hc : ca c = some C) (hz : Zc (.ref C) none oe) (hf : ∃ vs, oe.data = .fields vs) :
    Sok ct k fa ca Φ true W0 (some (a, c)) (X.suite a ((a, oe) :: pn)) :=
  ⟨⟨S.c.nd, takes0, fun h => absurd h (by decide), fun h => absurd h (by decide), S.c.units, S.c.gl, fun a' c' h => by
    cases h
    exact ⟨rfl, C, hc, call_isE (S.c.gl.rs c C hc).2.2.2.2.2 hz hf⟩⟩, PassesOwn.never, S.stk, S.frm, S.fnm⟩
theorem REnv.eta {K : PySem.W.Frag} {H : Hp} {α : List Addr} {ρ : Env} {σ : L2.St} {η' : Option (Addr × Str)} (h : REnv K fa none H α ρ σ) : REnv K fa η' H α ρ σ := ⟨h.1, h.2.1, fun i c e => by
  obtain ⟨a, z, _⟩ := h.2.2 i c e
  cases z⟩
theorem REnv.setExc {K : PySem.W.Frag} {H : Hp} {α : List Addr} {ρ : Env} {σ : L2.St} {a : Addr} {c : Str} {i : Nat} (h : REnv K fa none H α ρ σ) : REnv K fa (some (a, c)) H α (ρ.set i (some (.exc c))) (σ.set i (some (.ref a))) := by
  refine ⟨by simp [h.1], fun j e h1 h2 => ?_, fun j c' h1 => ?_⟩
  · by_cases hj : i = j
    · subst hj
      by_cases hl : i < ρ.length
      · rw [List.getElem?_set_self hl] at h1
        cases h1
        exact absurd rfl (h2 c)
      · rw [List.getElem?_eq_none (by simpa using hl)] at h1
        cases h1
    · rw [List.getElem?_set_ne hj] at h1 ⊢
      exact h.2.1 j e h1 h2
  · by_cases hj : i = j
    · subst hj
      by_cases hl : i < ρ.length
      · rw [List.getElem?_set_self hl] at h1
        cases h1
        exact ⟨a, rfl, List.getElem?_set_self (by rw [← h.1]; exact hl)⟩
      · rw [List.getElem?_eq_none (by simpa using hl)] at h1
        cases h1
    · rw [List.getElem?_set_ne hj] at h1 ⊢
      obtain ⟨b, z, _⟩ := h.2.2 j c' h1
      cases z
/-- what a suite does with an exception -/
def suN (X : Cx) (fa ca : Str → Option Addr) (Φ : Str → List D → Hd → R D) (m : Sm) : Addr → Value → Option Addr → TS := fun a cls d D σ H => ∃ c C, cls = .ref C ∧ d = none ∧ ca c = some C ∧ semS X.K fa ca W0 none (run Φ m) D σ H
def suA (X : Cx) (fa ca : Str → Option Addr) (Φ : Str → List D → Hd → R D) (m : Sm) : Addr → Value → Option Addr → TS := fun a cls d D σ H => ∃ c C, cls = .ref C ∧ d = none ∧ ca c = some C ∧ semS X.K fa ca W0 (some (a, c)) (run Φ m) D σ H
theorem eta_none (S : Sok ct k fa ca Φ false W η X) : η = none := by
  cases η with
  | none => rfl
  | some p => exact absurd (S.c.isE p.1 p.2 rfl).1 Bool.false_ne_true
theorem Sok.suN (S : Sok ct k fa ca Φ false W η X) {a : Addr} {oe : Obj} {pn : List (Addr × Obj)} : Sok ct k fa ca Φ true W0 none (X.suite a ((a, oe) :: pn)) :=
  ⟨⟨S.c.nd, takes0, fun h => absurd h (by decide), fun h => absurd h (by decide), S.c.units, S.c.gl, fun a' c' h => by cases h⟩, PassesOwn.never, S.stk, S.frm, S.fnm⟩
theorem names_of (S : Sok ct k fa ca Φ false W η X) {c : Str} (hg : isGl X.env.scope c = true) (ho : odd c = false) (hc : ct.cls.contains c = true) (hv : c ≠ "ValueError") : ∃ C, clsV X.mg c = some (.ref C) ∧ Names X c (.ref C) := by
  obtain ⟨C, hC⟩ := S.c.gl.cl c hc
  refine ⟨C, ?_, isGl_gl hg, odd_d ho, .inl hC⟩
  unfold clsV
  rw [if_neg hv]
  exact hC
theorem ps_tryN (S : Sok ct k fa ca Φ false W η X) {b : List Stmt} {s0 : Stmt} {su : List Stmt} {c : Str} {np p pos : Pos} {mb mh : Sm} (hg : isGl X.env.scope c = true) (ho : odd c = false) (hc : ct.cls.contains c = true) (hv : c ≠ "ValueError")
    (ihb : ∀ (W : WX) (pn : List (Addr × Obj)) (xe : Value → Shared → Prop), Sok ct k fa ca Φ false W η (X.tr pn xe) → PSs (X.tr pn xe) b (sS X fa ca Φ W η mb))
    (ihs : ∀ (a : Addr) (oe : Obj) (pn : List (Addr × Obj)), Sok ct k fa ca Φ true W0 none (X.suite a ((a, oe) :: pn)) → PSs (X.suite a ((a, oe) :: pn)) (s0 :: su) (sS X fa ca Φ W0 none mh)) :
    PS X (.Try b [.ExceptHandler (some (.Name c np)) none (s0 :: su) p] [] [] pos) (sS X fa ca Φ W η (.try_ mb c none mh)) := by
  obtain ⟨Cc, hCv, hN⟩ := names_of S hg ho hc hv
  have en := eta_none S
  subst en
  refine psImp (ps_try_only (ts := suN X fa ca Φ mh) S.stk S.frm hN S.c.tk (fun W' pn xe tk po => ihb W' pn xe (S.tr tk po)) (fun a oe cls d pn hz hf => ⟨fun pins s σ H D I q => ?_⟩)) fun D σ H q => ?_
  · obtain ⟨c', C', rfl, rfl, hc', q⟩ := q
    exact (ihs a oe pn S.suN).run pins s σ H D I q
  · obtain ⟨ρ, L, α, re, rp, q⟩ := q
    refine ⟨ρ, L, α, re, rp, ?_⟩
    unfold run at q
    cases hr : run Φ mb ρ L with
    | ex c' ρ' L' =>
      rw [hr] at q
      intro C' σ' H' α' hc' e re' rp'
      obtain ⟨u, hu, _, hx⟩ := S.c.gl.kit c' C' c hc' (.inl hc)
      rw [hCv] at hu
      cases hu
      refine ⟨_, hx, fun hs a na => ?_, fun hs => ?_⟩
      · dsimp only at q
        rw [if_pos hs] at q
        refine ⟨c', C', rfl, rfl, hc', ρ', L', α', re', rp', ?_⟩
        have q' := PostS.from rp.ne e q
        cases hr2 : run Φ mh ρ' L' with
        | ex c2 ρ2 L2 =>
          rw [hr2] at q'
          exact q'.elim
        | _ =>
          rw [hr2] at q'
          exact q'
      · dsimp only at q
        rw [if_neg (by rw [hs]; exact Bool.false_ne_true)] at q
        exact q C' σ' H' α' hc' e re' rp'
    | _ =>
      rw [hr] at q
      exact q
theorem ps_tryA (S : Sok ct k fa ca Φ false W η X) {b : List Stmt} {s0 : Stmt} {su : List Stmt} {c n : Str} {i : Nat} {np p pos : Pos} {mb mh : Sm} (hg : isGl X.env.scope c = true) (ho : odd c = false) (hc : ct.cls.contains c = true) (hv : c ≠ "ValueError")
    (hi : X.N[i]? = some n) (hl : isLoc X.env.scope n = true)
    (ihb : ∀ (W : WX) (pn : List (Addr × Obj)) (xe : Value → Shared → Prop), Sok ct k fa ca Φ false W η (X.tr pn xe) → PSs (X.tr pn xe) b (sS X fa ca Φ W η mb))
    (ihs : ∀ (a : Addr) (oe : Obj) (pn : List (Addr × Obj)) (c : Str), Sok ct k fa ca Φ true W0 (some (a, c)) (X.suite a ((a, oe) :: pn)) → PSs (X.suite a ((a, oe) :: pn)) (s0 :: su) (sS X fa ca Φ W0 (some (a, c)) mh)) :
    PS X (.Try b [.ExceptHandler (some (.Name c np)) (some n) (s0 :: su) p] [] [] pos) (sS X fa ca Φ W η (.try_ mb c (some i) mh)) := by
  obtain ⟨Cc, hCv, hN⟩ := names_of S hg ho hc hv
  have en := eta_none S
  subst en
  refine psImp (ps_try_as (ts := suA X fa ca Φ mh) S.stk S.frm S.c.nd hi (isLoc_loc hl) hN S.c.tk (fun W' pn xe tk po => ihb W' pn xe (S.tr tk po)) (fun a oe cls d pn hz hf => ⟨fun pins s σ H D I q => ?_⟩)) fun D σ H q => ?_
  · obtain ⟨c', C', rfl, rfl, hc', q⟩ := q
    exact (ihs a oe pn c' (S.su hc' hz hf)).run pins s σ H D I q
  · obtain ⟨ρ, L, α, re, rp, q⟩ := q
    refine ⟨ρ, L, α, re, rp, ?_⟩
    unfold run at q
    cases hr : run Φ mb ρ L with
    | ex c' ρ' L' =>
      rw [hr] at q
      intro C' σ' H' α' hc' e re' rp'
      obtain ⟨u, hu, _, hx⟩ := S.c.gl.kit c' C' c hc' (.inl hc)
      rw [hCv] at hu
      cases hu
      refine ⟨_, hx, fun hs a na => ?_, fun hs => ?_⟩
      · dsimp only at q
        rw [if_pos hs] at q
        refine ⟨c', C', rfl, rfl, hc', ρ'.set i (some (.exc c')), L', α', re'.setExc, rp', ?_⟩
        have q' := PostS.from rp.ne e q
        cases hr2 : run Φ mh (ρ'.set i (some (.exc c'))) L' with
        | rt d2 L2 =>
          rw [hr2] at q'
          exact q'
        | _ =>
          rw [hr2] at q'
          exact q'.elim
      · dsimp only at q
        rw [if_neg (by rw [hs]; exact Bool.false_ne_true)] at q
        exact q C' σ' H' α' hc' e re' rp'
    | _ =>
      rw [hr] at q
      exact q
theorem excBaseV : True := trivial
theorem ps_raiseS (S : Sok ct k fa ca Φ false W η X) {e : Expr} {pos : Pos} : PS X (.Raise (some e) none pos) (sS X fa ca Φ W η (raiseE ct X.env.scope e)) := by
  unfold raiseE
  split
  · rename_i c pc m j pm p
    split
    · rename_i h
      obtain ⟨h1, h2, h3⟩ := h
      obtain ⟨C, hC⟩ := S.c.gl.rsd c h3
      obtain ⟨g, xI, kp, bI, tI, _⟩ := S.c.gl.rs c C hC
      refine psImp (ps_raise (S.c.calm rfl) S.c.tk (pmk_own PySem.F.excBase_ValueError xI g kp (raises_own bI tI) (isGl_gl h1) (odd_d h2))) fun D σ H q => ?_
      obtain ⟨ρ, L, α, re, rp, q⟩ := q
      exact q C σ H α hC Ext.refl re rp
    · exact ps_bad rfl
  · exact ps_bad rfl
theorem augOf_spec {o : Operator} {b : Bop} (h : augOf o = some b) : (o = .Add ∧ b = .add) ∨ (o = .Sub ∧ b = .sub) := by
  cases o <;> cases h
  · exact .inl ⟨rfl, rfl⟩
  · exact .inr ⟨rfl, rfl⟩
theorem swaps_cel {e : Expr} {x : Str} {px : Pos} {n : Nat} {env : PySem.Env} (h : isCel env.scope x = true) : swapsWith e (some (.Name x px)) n env = pure false := by
  have hy : env.scope.names.lookup x = some .cell := by
    unfold isCel at h
    split at h
    · assumption
    · cases h
  have ky : env.kindOf x = some .cell := hy
  by_cases hn : noComp e = true
  · exact swaps_no hn
  · cases e <;> first | exact absurd rfl hn | skip
    all_goals
      unfold swapsWith
      simp only [ky]
      cases env.blockKind == .function <;> rfl
theorem sto_eq {sc : Scope} {x : Str} {px : Pos} {e : Expr} (h : compSto sc x px e = true) : ∃ elt g scope p, e = .ListComp elt [g] scope p ∧ isLoc sc x = true ∧ (px.line == p.line) = true ∧ (scope.names.any fun (n, k) => n == x && (k == .local || k == .cell)) = false := by
  unfold compSto at h
  split at h
  · rename_i elt a b c d scope p
    simp only [Bool.and_eq_true, Bool.not_eq_true'] at h
    exact ⟨elt, ⟨a, b, c, d⟩, scope, p, rfl, h.1.1, h.1.2, h.2⟩
  · cases h
/-- a comprehension stored at once -/
theorem ps_setLcS (S : Sok ct k fa ca Φ false W η X) {x : Str} {px spos : Pos} {elt : Expr} {g : Comprehension} {scope : Scope} {p : Pos} {i : Nat} (hi : ixOf X.N x = some i) (hl : isLoc X.env.scope x = true) (hln : (px.line == p.line) = true)
    (ha : (scope.names.any fun (n, k) => n == x && (k == .local || k == .cell)) = false) : PS X (.Assign [.Name x px] (.ListComp elt [g] scope p) spos) (sS X fa ca Φ W η (.set i (compE ct X.N false DEPTH X.env.scope (.ListComp elt [g] scope p)))) := by
  show PS X _ (sS X fa ca Φ W η (.set i (compE ct X.N false (59 + 1) X.env.scope (.ListComp elt [g] scope p))))
  have bad : ∀ {m : Ex}, m = .bad → PS X (.Assign [.Name x px] (.ListComp elt [g] scope p) spos) (sS X fa ca Φ W η (.set i m)) := fun h => ⟨fun _ _ _ _ _ _ q => by
    subst h
    obtain ⟨ρ, L, α, _, _, q⟩ := q
    exact q.elim⟩
  unfold compE
  dsimp only
  rw [if_neg (by decide)]
  split
  · rename_i y py it ifs heq
    cases heq
    split
    · rename_i j hj
      split
      · rename_i h
        obtain ⟨hb, hl2⟩ := h
        by_cases hset : noSet it = true
        · have C := S.c
          have key : ∀ mc, ((ifs = [] ∧ mc = .bl true) ∨ ∃ c, ifs = [c] ∧ mc = compE ct X.N false 59 (relS scope X.env.scope) c) →
              PS X (.Assign [.Name x px] (.ListComp elt [⟨.Name y py, it, ifs, 0⟩] scope p) spos) (sS X fa ca Φ W η (.set i (.lc j (iterE ct X.env.scope (compE ct X.N false 59 X.env.scope) it) mc (compE ct X.N false 59 (relS scope X.env.scope) elt)))) := fun mc hc => by
            obtain ⟨hg, ht, he⟩ := lc_parts (py := py) (elt := elt) C (fun X W C => (snd_E 59 false W X C).1) (fun X W C => (snd_E 59 false W X C).2) hj hb hl2 hc
            have ihE := (snd_E 59 false W X C).1
            have hsw := sw_true (elt := elt) (gs := [⟨.Name y py, it, ifs, 0⟩]) (scope := scope) (pos := p) (py := px) (y := x) (l := spos.line) (env := X.env)
            refine ⟨fun pins s σ H D I q => ?_⟩
            refine (ps_setLc (C.calm rfl) C.nd (ixOf_get hi) (isLoc_loc hl) (sw_true I.ok.kind (isLoc_loc hl) hln ha) (pi_iterE C ihE it) (blkOk_by hb) hg ht he (fold_ok hset)).run pins s σ H D I ?_
            refine lc_read ?_
            obtain ⟨ρ, L, α, re, rp, q⟩ := q
            refine ⟨ρ, L, α, re, rp, PostS.val re rp q fun d L1 v H1 α1 e0 e1 p1 r1 q1 => ?_⟩
            exact q1 _ H1 α1 Ext.refl ((re.ext e1 rp).set r1) p1
          split
          · exact key _ (.inl ⟨rfl, rfl⟩)
          · exact key _ (.inr ⟨_, rfl, rfl⟩)
          · exact bad rfl
        · rw [iterE_set (by simpa using hset)]
          split
          all_goals first
            | exact bad rfl
            | (refine ⟨fun pins s σ H D I q => ?_⟩
               obtain ⟨ρ, L, α, re, rp, q⟩ := q
               exact q.elim)
      · exact bad rfl
    · exact bad rfl
  · exact bad rfl
theorem ps_setixS (S : Sok ct k fa ca Φ hot W η X) {o i e : Expr} {p q : Pos} {mo mi me : Ex} (hs : noSl i = true) (ho : PE X o (sE X fa ca Φ W η mo)) (hi : PE X i (sE X fa ca Φ W η mi)) (he : PE X e (sE X fa ca Φ W η me)) :
    PS X (.Assign [.Subscript o i p] e q) (sS X fa ca Φ W η (.setix mo mi me)) := by
  refine psImp (ps_asg he (pg_sub ho hi set_list (fun v => by cases i <;> first | rfl | cases hs)) swaps_sub rfl rfl) fun D σ H q => ?_
  obtain ⟨ρ, L, α, re, rp, q⟩ := q
  unfold run at q
  refine ⟨ρ, L, α, re, rp, PostS.val re rp q fun d L1 v H1 α1 e0 e1 p1 r1 q1 => ?_⟩
  have re1 := re.ext e1 rp
  refine ⟨ρ, L1, α1, re1, p1, PostS.val re1 p1 q1 fun d2 L2 v2 H2 α2 e0 e2 p2 r2 q2 => ?_⟩
  have re2 := re1.ext e2 p1
  refine ⟨ρ, L2, α2, re2, p2, PostS.val re2 p2 q2 fun d3 L3 v3 H3 α3 e0 e3 p3 r3 q3 => ?_⟩
  have re3 := re2.ext e3 p2
  have r1' := r1.ext (e2.trans p1.ne e3) p1.tl
  have r2' := r2.ext e3 p2.tl
  split at q3
  · rename_i n j
    cases r2' with
    | ref h1 =>
      cases r3
      split at q3
      · exact q3.elim
      · rename_i hn
        split at q3
        · rename_i xs hx
          split at q3
          · rename_i pl hp
            obtain ⟨vs, rs, hH⟩ := p3.mut hn h1 hx
            obtain ⟨p', e'⟩ := p3.set hn h1 (rs.set pl r1')
            exact ⟨_, _, _, pl, rfl, rfl, hH, by rw [← rs.length]; exact hp, q3 σ _ α3 e' (re3.ext e' p3) p'⟩
          · exact q3.elim
        · exact q3.elim
  · exact q3.elim
theorem ps_augS (S : Sok ct k fa ca Φ hot W η X) {x : Str} {px q : Pos} {e : Expr} {op : Operator} {b : Bop} {i : Nat} {me : Ex} (hi : X.N[i]? = some x) (hx : isSto X.env.scope x = true) (hb : augOf op = some b) (he : PE X e (sE X fa ca Φ W η me)) :
    PS X (.AugAssign (.Name x px) op e q) (sS X fa ca Φ W η (.aug i b me)) := by
  have go : ∀ (f : Int → Int → Int), PIp X op (ipI f) → (∀ (a y : Int), augop b a (.int y) = some (f a y)) → (∀ (a : Int) (d : D), (∀ y, d ≠ .int y) → augop b a d = none) → PS X (.AugAssign (.Name x px) op e q) (sS X fa ca Φ W η (.aug i b me)) := fun f hp hf hn => by
    refine psImp (ps_aug S.c.nd hi (isSto_loc hx) he hp (.inl (S.fnm x))) fun D σ H q => ?_
    obtain ⟨ρ, L, α, re, rp, q⟩ := q
    unfold run at q
    split at q
    · rename_i a ha
      obtain ⟨v, hv, rv⟩ := re.2.1 i _ ha fun c z => by cases z
      cases rv
      refine ⟨_, hv, ρ, L, α, re, rp, PostS.val re rp q fun d L1 v H1 α1 e0 e1 p1 r1 q1 => ?_⟩
      by_cases hd : ∃ y, d = .int y
      · obtain ⟨y, rfl⟩ := hd
        rw [hf a y] at q1
        cases r1
        exact ⟨a, y, rfl, rfl, q1 _ H1 α1 Ext.refl ((re.ext e1 rp).set (.int _)) p1⟩
      · rw [hn a d fun y e => hd ⟨y, e⟩] at q1
        exact q1.elim
    · exact q.elim
  rcases augOf_spec hb with ⟨rfl, rfl⟩ | ⟨rfl, rfl⟩
  · exact go _ ip_add (fun a y => rfl) fun a d h => by cases d <;> first | rfl | exact absurd rfl (h _)
  · exact go _ ip_sub (fun a y => rfl) fun a d h => by cases d <;> first | rfl | exact absurd rfl (h _)
end
end MP

/-! Statements, all; defs; a law's end. -/
namespace MP
open PySem PySem.Spec PyProof.Rows L2

section
variable {X : Cx} {ct : CT} {k : Nat} {fa ca : Str → Option Addr} {Φ : Str → List D → Hd → R D} {hot : Bool} {W : WX} {η : Option (Addr × Str)}
/-- THE RULE for statements -/
theorem snd_S : ∀ (n : Nat) (hot : Bool) (W : WX) (η : Option (Addr × Str)) (X : Cx), Sok ct k fa ca Φ hot W η X → ∀ s, PS X s (sS X fa ca Φ W η (compS ct X.N hot n X.env.scope s))
  | 0, hot, W, η, X, S, s => ps_bad rfl
  | n + 1, hot, W, η, X, S, s => by
    have E := (snd_E (η := η) DEPTH hot W X S.c).1
    have T := (snd_E (η := η) DEPTH hot W X S.c).2
    have B : ∀ ss, PSs X ss (sS X fa ca Φ W η (compB (compS ct X.N hot n X.env.scope) ss)) := fun ss => pss_sem (snd_S n hot W η X S)
    unfold compS
    split
    · exact psImp ps_pass fun D σ H q => by
        obtain ⟨ρ, L, α, re, rp, q⟩ := q
        exact q σ H α Ext.refl re rp
    · split
      · rename_i hn
        refine psImp (ps_expr (E _) (swaps_no hn)) fun D σ H q => ?_
        obtain ⟨ρ, L, α, re, rp, q⟩ := q
        unfold run at q
        exact ⟨ρ, L, α, re, rp, PostS.val re rp q fun d L1 v H1 α1 e0 e1 p1 r1 q1 => q1 σ H1 α1 Ext.refl (re.ext e1 rp) p1⟩
      · exact ps_bad rfl
    · split
      · split
        · rename_i h
          obtain ⟨h1, h2, h3⟩ := h
          split
          · rename_i i hi
            rcases h3 with h3 | h3 | h3
            · refine psImp (ps_set S.c.nd (ixOf_get hi) (isSto_loc h2) (E _) (swaps_no h3) (.inl (S.fnm _))) fun D σ H q => ?_
              obtain ⟨ρ, L, α, re, rp, q⟩ := q
              unfold run at q
              exact ⟨ρ, L, α, re, rp, PostS.val re rp q fun d L1 v H1 α1 e0 e1 p1 r1 q1 => q1 _ H1 α1 Ext.refl ((re.ext e1 rp).set r1) p1⟩
            · refine psImp (ps_set S.c.nd (ixOf_get hi) (isSto_loc h2) (E _) (swaps_cel h3) (.inl (S.fnm _))) fun D σ H q => ?_
              obtain ⟨ρ, L, α, re, rp, q⟩ := q
              unfold run at q
              exact ⟨ρ, L, α, re, rp, PostS.val re rp q fun d L1 v H1 α1 e0 e1 p1 r1 q1 => q1 _ H1 α1 Ext.refl ((re.ext e1 rp).set r1) p1⟩
            · obtain ⟨elt, g, scope, p, rfl, hl, hln, ha⟩ := sto_eq h3
              cases hot with
              | false => exact ps_setLcS S hi hl hln ha
              | true => exact ⟨fun _ _ _ _ _ _ q => by
                  obtain ⟨ρ, L, α, _, _, q⟩ := q
                  exact q.elim⟩
          · exact ps_bad rfl
        · exact ps_bad rfl
      · split
        · rename_i hs
          exact ps_setixS S hs (E _) (E _) (E _)
        · exact ps_bad rfl
      · exact ps_bad rfl
    · split
      · split
        · rename_i h
          obtain ⟨h1, h2⟩ := h
          split
          · rename_i i b hi hb
            exact ps_augS S (ixOf_get hi) h2 hb (E _)
          · exact ps_bad rfl
        · exact ps_bad rfl
      · exact ps_bad rfl
    · split
      · refine psImp (ps_ret (E _)) fun D σ H q => ?_
        obtain ⟨ρ, L, α, re, rp, q⟩ := q
        unfold run at q
        exact ⟨ρ, L, α, re, rp, PostS.val re rp q fun d L1 v H1 α1 e0 e1 p1 r1 q1 => q1 _ H1 α1 Ext.refl p1 r1⟩
      · exact psImp ps_retN fun D σ H q => by
          obtain ⟨ρ, L, α, re, rp, q⟩ := q
          exact q _ H α Ext.refl rp .non
    · refine psImp (ps_if (T _) (B _) (B _)) fun D σ H q => ?_
      obtain ⟨ρ, L, α, re, rp, q⟩ := q
      refine ⟨ρ, L, α, re, rp, PostS.test re rp q (fun L1 H1 α1 e1 p1 q1 => ?_) fun L1 H1 α1 e1 p1 q1 => ?_⟩
      · rw [if_pos rfl]
        exact ⟨ρ, L1, α1, re.ext e1 rp, p1, q1⟩
      · rw [if_neg Bool.false_ne_true]
        exact ⟨ρ, L1, α1, re.ext e1 rp, p1, q1⟩
    · split
      · rename_i h
        obtain ⟨rfl, h2⟩ := h
        obtain rfl := nil_of h2
        exact psImp (ps_while S.po (T _) (B _)) fun D σ H q => wh_read q
      · exact ps_bad rfl
    · split
      · rename_i h
        obtain ⟨rfl, h2⟩ := h
        obtain rfl := nil_of h2
        split
        · split
          · rename_i h
            obtain ⟨h1, h2, h3⟩ := h
            split
            · rename_i i hi
              exact psImp (ps_for S.po (S.c.calm rfl) (pi_iterE S.c E _) (pg_name S.c.nd (ixOf_get hi) (isSto_loc h2) (.inl (S.fnm _))) (B _) (fold_ok h3)) fun D σ H q => for_read q
            · exact ps_bad rfl
          · exact ps_bad rfl
        · exact ps_bad rfl
      · exact ps_bad rfl
    · split
      · rename_i h
        subst h
        split
        · exact ps_raiseS S
        · exact ps_bad rfl
      · exact ps_bad rfl
    · exact psImp ps_break fun D σ H q => by
        obtain ⟨ρ, L, α, re, rp, q⟩ := q
        exact q σ H α Ext.refl re rp
    · exact psImp ps_continue fun D σ H q => by
        obtain ⟨ρ, L, α, re, rp, q⟩ := q
        exact q σ H α Ext.refl re rp
    · split
      · rename_i h
        obtain ⟨rfl, h2, h3⟩ := h
        obtain rfl := nil_of h2
        obtain rfl := nil_of h3
        split
        · split
          · rename_i h
            obtain ⟨h4, h5, h6, h7⟩ := h
            split
            · exact ps_tryN S h4 h5 h6 h7 (fun W' pn xe S' => pss_sem (snd_S n false W' η (X.tr pn xe) S')) fun a oe pn S' => pss_sem (snd_S n true W0 none _ S')
            · split
              · rename_i h
                obtain ⟨h8, h9⟩ := h
                split
                · rename_i i hi
                  exact ps_tryA S h4 h5 h6 h7 (ixOf_get hi) h9 (fun W' pn xe S' => pss_sem (snd_S n false W' η (X.tr pn xe) S')) fun a oe pn c S' => pss_sem (snd_S n true W0 (some (a, c)) _ S')
                · exact ps_bad rfl
              · exact ps_bad rfl
          · exact ps_bad rfl
        · exact ps_bad rfl
      · exact ps_bad rfl
    · exact ps_bad rfl
end

/-! ### defs -/
section
variable {P : Program} {w : World} {K : PySem.W.Frag} {mg : Str → Option Value} {base : Heap} {ct : CT} {k : Nat} {fa ca : Str → Option Addr} {Φ : Str → List D → Hd → R D}
theorem env_start {H : Hp} {α : List Addr} {N : List Str} {ds : List D} {vs : List V} (r : RVs K fa H α ds vs) : REnv K fa none H α (ds.map some ++ List.replicate (N.length - ds.length) none) (start N vs) := by
  have hl := r.length
  unfold L2.start
  have get : ∀ {i : Nat} {d : D}, (ds.map some ++ List.replicate (N.length - ds.length) none)[i]? = some (some d) → ds[i]? = some d := fun {i d} h => by
    by_cases hi : i < ds.length
    · rw [List.getElem?_append_left (by simpa using hi), List.getElem?_map] at h
      cases q : ds[i]? with
      | none =>
        rw [q] at h
        cases h
      | some e =>
        rw [q] at h
        cases h
        rfl
    · rw [List.getElem?_append_right (by simpa using hi), List.getElem?_replicate] at h
      split at h <;> cases h
  refine ⟨by simp [hl], fun i d h _ => ?_, fun i c h => ?_⟩
  · obtain ⟨v, hv, rv⟩ := r.get (get h)
    refine ⟨v, ?_, rv⟩
    have hi : i < vs.length := (List.getElem?_eq_some_iff.mp hv).1
    rw [List.getElem?_append_left (by simpa using hi), List.getElem?_map, hv]
    rfl
  · obtain ⟨v, hv, rv⟩ := r.get (get h)
    cases rv
theorem fn_ok (G : Glb ct P w K mg base k fa ca Φ) {x qual : Str} {st : Stmt} {f : Addr} {fdt : FuncData} {N ps : List Str} {fd : Fd} (F : Fun K x qual st f fdt) (S : FnScope N ps (defScope st)) (h1 : fd.np = ps.length) (h2 : fd.n = N.length)
    (h3 : fd.body = compB (compS ct N false DEPTH (defScope st)) (defBody st)) : FnOk P w K mg base (L2.CX P w) (k + 1) f fdt ps (spF K fa ca ps.length (runF Φ fd)) := by
  refine F.okX S (fun vs H Q E h => ?_) (fun cdv A outer s H vs Q E hr h => ?_)
  · obtain ⟨ds, L, α, hl, r, _⟩ := h
    rw [← r.length, hl]
  · obtain ⟨ds, L, α, hl, r, rp, q⟩ := h
    have hS : Sok ct k fa ca Φ false (fun cls d _ H => E cls d H) none (cxOf (L2.CX P w) P w K mg base N qual (defScope st) f cdv A outer s H E) :=
      ⟨⟨S.nd, takes_of rfl rfl rfl rfl, fun _ => rfl, fun _ => hr, hr.units, G, fun a c h => by cases h⟩, passes_of rfl, rfl, rfl, fun _ => rfl⟩
    refine ⟨_, pss_sem (snd_S DEPTH false _ none _ hS), ds.map some ++ List.replicate (N.length - ds.length) none, L, α, env_start r, rp, ?_⟩
    unfold runF at q
    rw [if_pos (hl.trans h1.symm), h2, h3] at q
    show PostS K fa ca _ none (run Φ (compB (compS ct N false DEPTH (defScope st)) (defBody st)) (ds.map some ++ List.replicate (N.length - ds.length) none) L) H α _
    cases hr2 : run Φ (compB (compS ct N false DEPTH (defScope st)) (defBody st)) (ds.map some ++ List.replicate (N.length - ds.length) none) L with
    | nx ρ' L' =>
      rw [hr2] at q
      exact fun σ' H' α' e _ rp' => q _ H' α' e rp' .non
    | rt d L' =>
      rw [hr2] at q
      exact q
    | ex c ρ' L' =>
      rw [hr2] at q
      exact fun C σ' H' α' hc e _ rp' => q C H' α' hc e rp'
    | bk ρ' L' =>
      rw [hr2] at q
      exact q.elim
    | ct ρ' L' =>
      rw [hr2] at q
      exact q.elim
    | bad =>
      rw [hr2] at q
      exact q.elim
end

/-! ### a program -/
/-- where the text's names stand, by the written part -/
def faOf (ct : CT) (K : PySem.W.Frag) : Str → Option Addr := fun f => if ct.fns.contains f = true then (match PySem.W.nsIn K mainGlobals f with
  | some (some (.ref a)) => some a
  | _ => none) else none
def caOf (ct : CT) (K : PySem.W.Frag) : Str → Option Addr := fun f => if ct.rs.contains f = true then (match PySem.W.nsIn K mainGlobals f with
  | some (some (.ref a)) => some a
  | _ => none) else none
/-- a def of the program -/
structure DefK (ct : CT) (K : PySem.W.Frag) (T : Str → Option Fd) (x : Str) : Prop where
  ex : ∃ (ad : Addr) (fdt : FuncData) (N ps : List Str) (st : Stmt) (fd : Fd), PySem.W.nsIn K mainGlobals x = some (some (.ref ad)) ∧ Fun K x x st ad fdt ∧ Binds K fdt ps [] ∧ FnScope N ps (defScope st) ∧ T x = some fd ∧ fd.np = ps.length ∧ fd.n = N.length ∧
    fd.body = compB (compS ct N false DEPTH (defScope st)) (defBody st)
theorem defK_mk {ct : CT} {K : PySem.W.Frag} {T : Str → Option Fd} {x : Str} {st : Stmt} {N ps : List Str} {fd : Fd} {ad : Addr} {oc : Value} {od an : Option Addr} {osl : Array (Option Value)} {kV doc pm cdv ct' : Value}
    (S : FnScope N ps (defScope st)) (hT : T x = some fd) (h1 : fd.np = ps.length) (h2 : fd.n = N.length) (h3 : fd.body = compB (compS ct N false DEPTH (defScope st)) (defBody st))
    (hb : ∀ (kV doc pm : Value) (an : Option Addr) (cdv ct : Value) (us : List Value), us.length = ps.length → bindArgs (PySem.W.fnOf x x (defArgs st) (defBody st) (defScope st) .none kV doc pm an cdv ct) ⟨us, []⟩ = pure (ps.zip us))
    (a : PySem.W.nsIn K mainGlobals x = some (some (.ref ad))) (l : K.lookup ad = some ⟨oc, od, .func (PySem.W.fnOf x x (defArgs st) (defBody st) (defScope st) .none kV doc pm an cdv ct'), osl⟩) (c : PySem.W.codeIn K cdv x = true) (kp : PySem.W.keepIn K (.ref ad) = true) : DefK ct K T x := by
  have F := fun_mk (st := st) l c kp
  exact ⟨ad, _, N, ps, st, fd, a, F, F.binds hb, S, hT, h1, h2, h3⟩
/-- a constant of the program -/
structure CoK (ct : CT) (K : PySem.W.Frag) (fa : Str → Option Addr) (x : Str) (e : Ex) : Prop where
  ex : ∃ d u v, lit e = some d ∧ PySem.W.nsIn K mainGlobals x = some (some u) ∧ RelV v u ∧ ∀ H α, RV K fa H α d v
theorem co_pair {ct : CT} {K : PySem.W.Frag} {fa : Str → Option Addr} {x : Str} {i j : Int} {a : Addr} {od : Option Addr} {t1 t2} {n : Nat} {osl : Array (Option Value)} (hn : PySem.W.nsIn K mainGlobals x = some (some (.ref a))) (hl : K.lookup a = some ⟨.type "tuple", od, .seq #[.int i t1, .int j t2] n, osl⟩) : CoK ct K fa x (.tup (.cons (.int i) (.cons (.int j) .nil))) := by
  refine ⟨.tup [.int i, .int j], .ref a, .ref a, rfl, hn, rfl, fun H α => ?_⟩
  refine .tup (vs := [.int i, .int j]) (.inr ⟨_, _, _, hl, rfl, rfl, ?_, ?_⟩) (.cons (.int i) (.cons (.int j) .nil))
  · show 2 ≤ _
    decide
  · exact .cons ⟨_, rfl⟩ (.cons ⟨_, rfl⟩ .nil)
/-- a class that is raised -/
structure RsK (K : PySem.W.Frag) (c : Str) (C : Addr) : Prop where
  ns : PySem.W.nsIn K mainGlobals c = some (some (.ref C))
  ex : PySem.W.excIn K C [.type "ValueError", .type "Exception", .type "BaseException", .type "object"] "ValueError.__new__" = true
  kp : PySem.W.keepIn K (.ref C) = true
  sb : PySem.W.subIn K (.ref C) (.type "BaseException") = some true
  ty : PySem.W.typeIn K (.ref C) = some (.type "type")
  ec : ExcC K C
def clsK (K : PySem.W.Frag) (c : Str) : Option Value := if c = "ValueError" then some (.type "ValueError") else match PySem.W.nsIn K mainGlobals c with
  | some v => v
  | none => none
theorem kit_own {K : PySem.W.Frag} {c c' : Str} {C U : Addr} {b : Bool} {x} (a : PySem.W.nsIn K mainGlobals c = some (some (.ref C))) (a' : PySem.W.nsIn K mainGlobals c' = some (some (.ref U))) (hv : c' ≠ "ValueError") (hb : b = isSub c c') (h1 : PySem.W.clsIn K U = some x) (h2 : PySem.W.typeIn K (.ref U) = some (.type "type")) (h3 : PySem.W.subIn K (.ref C) (.ref U) = some b) (h4 : PySem.W.subIn K (.ref U) (.type "BaseException") = some true) (hn : b = true ∨ C ≠ U) : ∃ C u, PySem.W.nsIn K mainGlobals c = some (some (.ref C)) ∧ clsK K c' = some u ∧ PySem.W.kitOne K (.ref C) u = some (isSub c c') ∧ PySem.W.exmOne K (.ref C) u = some (isSub c c') := by
  subst hb
  have hk : PySem.W.kitCls K (.ref C) (.ref U) = some (isSub c c') := by
    unfold PySem.W.kitCls
    simp only [h1, h2, Option.isSome_some, Bool.true_and, beq_self_eq_true, if_true]
    exact h3
  refine ⟨C, .ref U, a, ?_, ?_, ?_⟩
  · unfold clsK
    rw [if_neg hv, a']
  · unfold PySem.W.kitOne
    split
    · rename_i he
      have e2 : (Value.ref C) = .ref U := by simpa using he
      have e3 : C = U := by cases e2; rfl
      rcases hn with h | h
      · rw [h]
      · exact absurd e3 h
    · exact hk
  · unfold PySem.W.exmOne
    rw [h4]
    exact hk
theorem kit_val {K : PySem.W.Frag} {c : Str} {C : Addr} {b : Bool} (a : PySem.W.nsIn K mainGlobals c = some (some (.ref C))) (hb : b = isSub c "ValueError") (h0 : PySem.W.kitMeta "ValueError" = true) (h3 : PySem.W.subIn K (.ref C) (.type "ValueError") = some b) (h4 : PySem.W.subIn K (.type "ValueError") (.type "BaseException") = some true) : ∃ C u, PySem.W.nsIn K mainGlobals c = some (some (.ref C)) ∧ clsK K "ValueError" = some u ∧ PySem.W.kitOne K (.ref C) u = some (isSub c "ValueError") ∧ PySem.W.exmOne K (.ref C) u = some (isSub c "ValueError") := by
  subst hb
  have hk : PySem.W.kitCls K (.ref C) (.type "ValueError") = some (isSub c "ValueError") := by
    unfold PySem.W.kitCls
    simp only [h0, if_true]
    exact h3
  refine ⟨C, .type "ValueError", a, if_pos rfl, ?_, ?_⟩
  · unfold PySem.W.kitOne
    split
    · rename_i he
      exact absurd he (by simp)
    · exact hk
  · unfold PySem.W.exmOne
    rw [h4]
    exact hk
def KitP (K : PySem.W.Frag) (c c' : Str) : Prop := ∃ C u, PySem.W.nsIn K mainGlobals c = some (some (.ref C)) ∧ clsK K c' = some u ∧ PySem.W.kitOne K (.ref C) u = some (isSub c c') ∧ PySem.W.exmOne K (.ref C) u = some (isSub c c')
theorem cl_mk {K : PySem.W.Frag} {c : Str} {C : Addr} (a : PySem.W.nsIn K mainGlobals c = some (some (.ref C))) : ∃ C, PySem.W.nsIn K mainGlobals c = some (some (.ref C)) := ⟨C, a⟩
structure ProgK (ct : CT) (K : PySem.W.Frag) (T : Str → Option Fd) : Prop where
  fn : ∀ f ∈ ct.fns, DefK ct K T f
  co : ∀ p ∈ ct.cst, CoK ct K (faOf ct K) p.1 p.2
  bt : ∀ x ∈ ct.bt, PySem.W.nsIn K mainGlobals x = some none
  cl : ∀ c ∈ ct.cls, ∃ C, PySem.W.nsIn K mainGlobals c = some (some (.ref C))
  rs : ∀ c ∈ ct.rs, ∃ C, RsK K c C
  kit : ∀ c ∈ ct.rs, ∀ c', c' ∈ ct.cls ∨ c' = "ValueError" → KitP K c c'
theorem lookup_mem {α : Type} : ∀ {l : List (Str × α)} {x : Str} {e : α}, l.lookup x = some e → (x, e) ∈ l
  | [], _, _, h => by cases h
  | (y, d) :: r, x, e, h => by
    rw [List.lookup_cons] at h
    split at h
    · rename_i hxy
      cases h
      have e1 : x = y := by simpa using hxy
      rw [e1]
      exact List.mem_cons_self
    · exact List.mem_cons_of_mem _ (lookup_mem h)
section
variable {P : Program} {w : World} {K : PySem.W.Frag} {mg : Str → Option Value} {base h : Heap} {ct : CT} {T : Str → Option Fd}
theorem mem_of_contains {l : List Str} {x : Str} (h : l.contains x = true) : x ∈ l := by simpa using h
theorem faOf_some {f : Str} {ad : Addr} (hf : ct.fns.contains f = true) (a : PySem.W.nsIn K mainGlobals f = some (some (.ref ad))) : faOf ct K f = some ad := by
  unfold faOf
  rw [if_pos hf, a]
theorem faOf_in {f : Str} {ad : Addr} (h : faOf ct K f = some ad) : ct.fns.contains f = true := by
  unfold faOf at h
  split at h
  · assumption
  · cases h
theorem caOf_some {f : Str} {ad : Addr} (hf : ct.rs.contains f = true) (a : PySem.W.nsIn K mainGlobals f = some (some (.ref ad))) : caOf ct K f = some ad := by
  unfold caOf
  rw [if_pos hf, a]
theorem caOf_in {f : Str} {ad : Addr} (h : caOf ct K f = some ad) : ct.rs.contains f = true ∧ PySem.W.nsIn K mainGlobals f = some (some (.ref ad)) := by
  unfold caOf at h
  split at h
  · rename_i hf
    split at h
    · rename_i ha
      cases h
      exact ⟨hf, ha⟩
    · cases h
  · cases h
theorem glb_of (PK : ProgK ct K T) (X : K.In h) (G : h.Ns mainGlobals mg) {k : Nat} {Φ : Str → List D → Hd → R D} (hfn : ∀ f, ct.fns.contains f = true → FnK P w K mg base k (faOf ct K) (caOf ct K) (Φ f) f) : Glb ct P w K mg base k (faOf ct K) (caOf ct K) Φ := by
  refine ⟨hfn, fun f ad => faOf_in, fun x e he => ?_, fun x hx => ?_, fun c hc => ?_, fun c C c' hC hc' => ?_, fun c hc => ?_, fun c C hC => ?_⟩
  · obtain ⟨d, u, v, h1, h2, h3, h4⟩ := (PK.co _ (lookup_mem he)).ex
    exact ⟨d, u, v, h1, PySem.W.mg_of X G h2, h3, h4⟩
  · exact PySem.W.mg_none_of X G (PK.bt x (mem_of_contains hx))
  · obtain ⟨C, hC⟩ := PK.cl c (mem_of_contains hc)
    exact ⟨C, PySem.W.mg_of X G hC⟩
  · obtain ⟨h1, h2⟩ := caOf_in hC
    have hc2 : c' ∈ ct.cls ∨ c' = ("ValueError" : Str) := by
      rcases hc' with h | h
      · exact .inl (mem_of_contains h)
      · exact .inr h
    obtain ⟨C', u, h3, h4, h5, h6⟩ := PK.kit c (mem_of_contains h1) c' hc2
    rw [h2] at h3
    cases h3
    refine ⟨u, ?_, h5, h6⟩
    unfold clsK at h4
    unfold clsV
    split at h4
    · rename_i hv
      rw [if_pos hv]
      exact h4
    · rename_i hv
      rw [if_neg hv]
      split at h4
      · rename_i v hn
        subst h4
        exact PySem.W.mg_of X G hn
      · cases h4
  · obtain ⟨C, hR⟩ := PK.rs c (mem_of_contains hc)
    exact ⟨C, caOf_some hc hR.ns⟩
  · obtain ⟨h1, h2⟩ := caOf_in hC
    obtain ⟨C', hR⟩ := PK.rs c (mem_of_contains h1)
    have e := hR.ns
    rw [h2] at e
    cases e
    exact ⟨PySem.W.mg_of X G h2, hR.ex, hR.kp, hR.sb, hR.ty, hR.ec⟩
theorem runF_len {Φ : Str → List D → Hd → R D} {fd : Fd} {ds : List D} {L : Hd} (h : ds.length ≠ fd.np) : runF Φ fd ds L = .bad := by
  unfold runF
  rw [if_neg h]
theorem fnK_all (PK : ProgK ct K T) (X : K.In h) (G : h.Ns mainGlobals mg) : ∀ (k : Nat) (f : Str), ct.fns.contains f = true → FnK P w K mg base k (faOf ct K) (caOf ct K) (runT T k f) f
  | 0, f, hf => by
    obtain ⟨ad, fdt, N, ps, st, fd, a, F, hb, S, hT, h1, h2, h3⟩ := (PK.fn f (mem_of_contains hf)).ex
    refine ⟨ad, fdt, ps, faOf_some hf a, PySem.W.mg_of X G a, F.kp, hb, fun ds L _ => rfl, fun vs H Q E q => ?_, fun A outer s H args us vs Q E _ _ _ _ q => ?_⟩
    · obtain ⟨ds, L, α, _, _, _, q⟩ := q
      exact q.elim
    · obtain ⟨ds, L, α, _, _, _, q⟩ := q
      exact q.elim
  | k + 1, f, hf => by
    obtain ⟨ad, fdt, N, ps, st, fd, a, F, hb, S, hT, h1, h2, h3⟩ := (PK.fn f (mem_of_contains hf)).ex
    have e : runT T (k + 1) f = runF (runT T k) fd := by
      funext ds L
      show (match T f with | some fd => runF (runT T k) fd ds L | none => R.bad) = _
      rw [hT]
    rw [e]
    refine ⟨ad, fdt, ps, faOf_some hf a, PySem.W.mg_of X G a, F.kp, hb, fun ds L hl => runF_len (by rw [h1]; exact hl), ?_⟩
    exact fn_ok (glb_of PK X G (fnK_all PK X G k)) F S h1 h2 h3
/-- the law's own def -/
theorem law_F (PK : ProgK ct K T) (X : K.In h) (G : h.Ns mainGlobals mg) {n : Nat} {fa ad : Addr} {x : Str} {st : Stmt} {N : List Str} {fd : Fd} {oc : Value} {od an : Option Addr} {osl : Array (Option Value)} {kV doc pm cdv ct' : Value}
    (hfa : mg "law" = some (.ref fa)) (S : FnScope N [x] (defScope st)) (hT : T "law" = some fd) (h1 : fd.np = 1) (h2 : fd.n = N.length) (h3 : fd.body = compB (compS ct N false DEPTH (defScope st)) (defBody st))
    (hb : ∀ (kV doc pm : Value) (an : Option Addr) (cdv ct : Value) (s : Shared) (u : Value), BindsTo s (PySem.W.fnOf "law" "law" (defArgs st) (defBody st) (defScope st) .none kV doc pm an cdv ct) ⟨[u], []⟩ [(x, u)])
    (a : PySem.W.nsIn K mainGlobals "law" = some (some (.ref ad))) (l : K.lookup ad = some ⟨oc, od, .func (PySem.W.fnOf "law" "law" (defArgs st) (defBody st) (defScope st) .none kV doc pm an cdv ct'), osl⟩) (c : PySem.W.codeIn K cdv "law" = true) (kp : PySem.W.keepIn K (.ref ad) = true) :
    ∃ fdt : FuncData, (∀ (s : Shared) (u : Value), BindsTo s fdt ⟨[u], []⟩ [(x, u)]) ∧ ∀ base : Heap, K.In base → base.Ns mainGlobals mg → FnOk P w K mg base (L2.CX P w) (n + 1) fa fdt [x] (spF K (faOf ct K) (caOf ct K) 1 (runT T (n + 1) "law")) := by
  have e := hfa.symm.trans (PySem.W.mg_of X G a)
  cases e
  refine ⟨_, hb kV doc pm an cdv ct', fun base _ _ => ?_⟩
  have e : runT T (n + 1) "law" = runF (runT T n) fd := by
    funext ds L
    show (match T "law" with | some fd => runF (runT T n) fd ds L | none => R.bad) = _
    rw [hT]
  rw [e]
  exact fn_ok (ps := [x]) (glb_of PK X G (fnK_all PK X G n)) (fun_mk (st := st) l c kp) S h1 h2 h3
theorem law_sp {ca : Str → Option Addr} {fa : Str → Option Addr} {H : Hp} {a : Addr} {ns : List Int} {φ : List D → Hd → R D} (hO : Only H) (hS : SqL K H a (ns.map V.int)) (hr : ∃ L', φ [.ref 0] [.lst (ns.map D.int)] = .ok (.bl true) L') :
    spF K fa ca 1 φ [.ref a] H (fun v _ => v = .bl true) (fun _ _ _ => False) := by
  obtain ⟨L', hr⟩ := hr
  refine ⟨[.ref 0], [.lst (ns.map D.int)], [a], rfl, .cons (.ref rfl) .nil, ⟨rfl, by simp, by simp, fun b xs h1 h2 => ?_, fun n b xs h1 h2 => by simp at h1⟩, ?_⟩
  · cases h1
    cases h2
    refine ⟨ns.map V.int, RVs.ofInts ns, ?_⟩
    rcases hS with (hS | ⟨o, hS⟩) | hS
    · rcases hO a with z | ⟨o, xs, z⟩
      · rw [hS] at z
        cases z
      · rw [hS] at z
        cases z
    · exact .inl ⟨o, hS⟩
    · exact .inr hS
  · rw [hr]
    intro v H' α' _ _ r
    cases r
    rfl
theorem law_noX {w : World} {H : Hp} {s : Shared} {e : Value} {s' : Shared} : L2.CX P w [] H s (fun _ _ _ => False) e s' → False := fun h => by
  obtain ⟨_, _, _, _, _, _, _, _, _, _, _, _, z⟩ := h
  exact z
end
end MP

/-! How MP's runs are reckoned. -/
namespace MP
open PySem PySem.Spec PyProof.Rows L2

theorem onBl_bl (b : Bool) (t f : R D) : onBl (.bl b) t f = if b = true then t else f := by cases b <;> rfl
theorem ifB_bl (b : Bool) (t f : O) : ifB (.bl b) t f = if b = true then t else f := by cases b <;> rfl
theorem O.then_nx (ρ : Env) (L : Hd) (f : Env → Hd → O) : (O.nx ρ L).then f = f ρ L := rfl
theorem O.then_rt (d : D) (L : Hd) (f : Env → Hd → O) : (O.rt d L).then f = .rt d L := rfl
theorem O.then_ex (c : Str) (ρ : Env) (L : Hd) (f : Env → Hd → O) : (O.ex c ρ L).then f = .ex c ρ L := rfl
theorem O.then_bk (ρ : Env) (L : Hd) (f : Env → Hd → O) : (O.bk ρ L).then f = .bk ρ L := rfl
theorem O.then_ct (ρ : Env) (L : Hd) (f : Env → Hd → O) : (O.ct ρ L).then f = .ct ρ L := rfl
theorem O.then_bad (f : Env → Hd → O) : O.bad.then f = .bad := rfl
theorem O.turn_nx (ρ : Env) (L : Hd) (f : Env → Hd → O) : (O.nx ρ L).turn f = f ρ L := rfl
theorem O.turn_ct (ρ : Env) (L : Hd) (f : Env → Hd → O) : (O.ct ρ L).turn f = f ρ L := rfl
theorem O.turn_bk (ρ : Env) (L : Hd) (f : Env → Hd → O) : (O.bk ρ L).turn f = .nx ρ L := rfl
theorem O.turn_rt (d : D) (L : Hd) (f : Env → Hd → O) : (O.rt d L).turn f = .rt d L := rfl
theorem O.turn_ex (c : Str) (ρ : Env) (L : Hd) (f : Env → Hd → O) : (O.ex c ρ L).turn f = .ex c ρ L := rfl
theorem onPart_int (i : Int) (f : Option Int → R D) : onPart (.int i) f = f (some i) := rfl
theorem onPart_abs (x : Str) (f : Option Int → R D) : onPart (.exc x) f = f none := rfl
theorem eqop_int (i j : Int) (L : Hd) : eqop (.int i) (.int j) L id = .ok (.bl (decide (i = j))) L := by
  have e : PyData.eqv (.int i) (.int j) = decide (i = j) := by
    unfold PyData.eqv
    exact Bool.beq_eq_decide_eq i j
  show (if SeqAt.shaped (.int i) = true ∧ SeqAt.shaped (.int j) = true then R.ok (D.bl (id (PyData.eqv (.int i) (.int j)))) L else .bad) = _
  rw [if_pos ⟨rfl, rfl⟩, e]
  rfl
theorem neop_int (i j : Int) (L : Hd) : eqop (.int i) (.int j) L not = .ok (.bl (!decide (i = j))) L := by
  have e : PyData.eqv (.int i) (.int j) = decide (i = j) := by
    unfold PyData.eqv
    exact Bool.beq_eq_decide_eq i j
  show (if SeqAt.shaped (.int i) = true ∧ SeqAt.shaped (.int j) = true then R.ok (D.bl (not (PyData.eqv (.int i) (.int j)))) L else .bad) = _
  rw [if_pos ⟨rfl, rfl⟩, e]
theorem eqop_bl (i j : Bool) (L : Hd) : eqop (.bl i) (.bl j) L id = .ok (.bl (i == j)) L := by
  cases i <;> cases j <;> rfl
theorem neop_bl (i j : Bool) (L : Hd) : eqop (.bl i) (.bl j) L not = .ok (.bl (!(i == j))) L := by
  cases i <;> cases j <;> rfl
theorem lim1 : (1 ≤ LIM) = True := by decide
theorem lim2 : (2 ≤ LIM) = True := by decide
theorem lim3 : (3 ≤ LIM) = True := by decide
theorem lim4 : (4 ≤ LIM) = True := by decide
theorem lim5 : (5 ≤ LIM) = True := by decide
theorem runT_succ {T : Str → Option Fd} {k : Nat} {f : Str} {fd : Fd} (h : T f = some fd) : runT T (k + 1) f = runF (runT T k) fd := by
  funext ds L
  show (match T f with | some fd => runF (runT T k) fd ds L | none => R.bad) = _
  rw [h]

/-! ### the turns of MP, one by one -/
noncomputable def whW (Φ : Str → List D → Hd → R D) (c : Ex) (b : Sm) (ρ : Env) (L : Hd) : O := whL (fun ρ L => evE Φ c ρ L) (fun ρ L => run Φ b ρ L) ρ L
noncomputable def forW (Φ : Str → List D → Hd → R D) (s : Nat) (b : Sm) (w : Option Nat) (all xs : List D) (ρ : Env) (L : Hd) : O := forGo (fun ρ L => run Φ b ρ L) s w all xs ρ L
noncomputable def lcW (Φ : Str → List D → Hd → R D) (s : Nat) (c e : Ex) (ρ : Env) (w : Option Nat) (all xs : List D) (L : Hd) : R (List D) := lcGo (fun x L => evE Φ c (ρ.set s (some x)) L) (fun x L => evE Φ e (ρ.set s (some x)) L) w all xs L
section
variable {Φ : Str → List D → Hd → R D} {ρ : Env} {L : Hd}
theorem x_bad : evE Φ .bad ρ L = .bad := rfl
theorem x_non : evE Φ .non ρ L = .ok .non L := rfl
theorem x_bl {b : Bool} : evE Φ (.bl b) ρ L = .ok (.bl b) L := rfl
theorem x_int {i : Int} : evE Φ (.int i) ρ L = .ok (.int i) L := rfl
theorem x_str {x : Str} : evE Φ (.str x) ρ L = .ok (.str x) L := rfl
theorem x_v {i : Nat} : evE Φ (.v i) ρ L = getV ρ[i]? L := rfl
theorem x_k {x : Str} {e : Ex} : evE Φ (.k x e) ρ L = evE Φ e [] L := rfl
theorem x_f {x : Str} : evE Φ (.f x) ρ L = .ok (.fn x) L := rfl
theorem x_nil : evE Φ .nil ρ L = .ok (.tup []) L := rfl
theorem x_absent : evE Φ .absent ρ L = .ok (.exc ⟨#[]⟩) L := rfl
def consOp (x y : D) (L : Hd) : R D := match y with
  | .tup ys => .ok (.tup (x :: ys)) L
  | _ => .bad
def tupOp (x : D) (L : Hd) : R D := match x with
  | .tup xs => if xs.length ≤ LIM then .ok (.tup xs) L else .bad
  | _ => .bad
def lstOp (x : D) (L : Hd) : R D := match x with
  | .tup xs => alloc xs L
  | _ => .bad
def negOp (x : D) (L : Hd) : R D := match x with
  | .int i => .ok (.int (-i)) L
  | _ => .bad
def onTup (x : D) (f : List D → R D) : R D := match x with
  | .tup xs => f xs
  | _ => .bad
def isNon (x : D) : Bool := match x with
  | .non => true
  | _ => false
def okOnly (r : R D) : R D := match r with
  | .ok d L => .ok d L
  | _ => .bad
def onFn (o : Option (Option D)) (f : Str → R D) : R D := match o with
  | some (some (.fn g)) => f g
  | _ => .bad
def onExc (o : Option (Option D)) (f : Str → R D) : R D := match o with
  | some (some (.exc g)) => f g
  | _ => .bad
theorem x_cons {a b : Ex} : evE Φ (.cons a b) ρ L = (evE Φ a ρ L).bind fun x L => (evE Φ b ρ L).bind fun y L => consOp x y L := rfl
theorem x_tup {a : Ex} : evE Φ (.tup a) ρ L = (evE Φ a ρ L).bind tupOp := rfl
theorem x_lst {a : Ex} : evE Φ (.lst a) ρ L = (evE Φ a ρ L).bind lstOp := rfl
theorem x_bin {o : Bop} {a b : Ex} : evE Φ (.bin o a b) ρ L = (evE Φ a ρ L).bind fun x L => (evE Φ b ρ L).bind fun y L => binop o x y L := rfl
theorem x_neg {a : Ex} : evE Φ (.neg a) ρ L = (evE Φ a ρ L).bind negOp := rfl
theorem x_not {a : Ex} : evE Φ (.not a) ρ L = (evE Φ a ρ L).bind fun x L => onBl x (.ok (.bl false) L) (.ok (.bl true) L) := rfl
theorem x_and {a b : Ex} : evE Φ (.and a b) ρ L = (evE Φ a ρ L).bind fun x L => onBl x (evE Φ b ρ L) (.ok (.bl false) L) := rfl
theorem x_or {a b : Ex} : evE Φ (.or a b) ρ L = (evE Φ a ρ L).bind fun x L => onBl x (.ok (.bl true) L) (evE Φ b ρ L) := rfl
theorem x_cmp {o : Cop} {a b : Ex} : evE Φ (.cmp o a b) ρ L = (evE Φ a ρ L).bind fun x L => (evE Φ b ρ L).bind fun y L => cmpop o x y L := rfl
theorem x_isn {a : Ex} : evE Φ (.isn a) ρ L = (evE Φ a ρ L).bind fun x L => .ok (.bl (isNon x)) L := rfl
theorem x_notn {a : Ex} : evE Φ (.notn a) ρ L = (evE Φ a ρ L).bind fun x L => .ok (.bl (!isNon x)) L := by
  show (evE Φ a ρ L).bind _ = _
  congr
  funext x L
  cases x <;> rfl
theorem x_ix {a i : Ex} : evE Φ (.ix a i) ρ L = (evE Φ a ρ L).bind fun x L => (evE Φ i ρ L).bind fun y L => ixop x y L := rfl
theorem x_sl {a lo hi : Ex} : evE Φ (.sl a lo hi) ρ L = (evE Φ a ρ L).bind fun x L => (evE Φ lo ρ L).bind fun l L => onPart l fun l => (evE Φ hi ρ L).bind fun u L => onPart u fun u => slop x l u L := rfl
theorem x_call {f : Str} {as : Ex} : evE Φ (.call f as) ρ L = (evE Φ as ρ L).bind fun d L => callOn Φ f d L := rfl
theorem x_callv {i : Nat} {as : Ex} : evE Φ (.callv i as) ρ L = onFn ρ[i]? fun f => (evE Φ as ρ L).bind fun d L => okOnly (callOn Φ f d L) := by
  have e : evE Φ (.callv i as) ρ L = (match ρ[i]? with
    | some (some (.fn f)) => (evE Φ as ρ L).bind fun d L => (match callOn Φ f d L with
      | .ok d L => .ok d L
      | _ => .bad)
    | _ => .bad) := rfl
  rw [e]
  generalize ρ[i]? = o
  rcases o with _ | _ | d
  · rfl
  · rfl
  · cases d <;> rfl
theorem x_bi {b : Bi} {as : Ex} : evE Φ (.bi b as) ρ L = (evE Φ as ρ L).bind fun d L => onTup d fun ds => biop b ds L := rfl
theorem x_isi {a : Ex} {t : Ty} : evE Φ (.isi a t) ρ L = (evE Φ a ρ L).bind fun x L => tyop x t L := rfl
theorem x_ise {i : Nat} {c : Str} : evE Φ (.ise i c) ρ L = onExc ρ[i]? fun a => .ok (.bl (isSub a c)) L := by
  have e : evE Φ (.ise i c) ρ L = (match ρ[i]? with
    | some (some (.exc a)) => .ok (.bl (isSub a c)) L
    | _ => .bad) := rfl
  rw [e]
  generalize ρ[i]? = o
  rcases o with _ | _ | d
  · rfl
  · rfl
  · cases d <;> rfl
theorem x_me {m : Me} {o as : Ex} : evE Φ (.me m o as) ρ L = (evE Φ o ρ L).bind fun x L => if recv m x = true then (evE Φ as ρ L).bind fun d L => onTup d fun ds => meop m x ds L else .bad := rfl
def lcOn (o : Option (Option Nat × List D)) (f : Option Nat → List D → R (List D)) : R D := match o with
  | some (w, xs) => (f w xs).bind fun ys L => alloc ys L
  | none => .bad
theorem x_lc {s : Nat} {it c e : Ex} : evE Φ (.lc s it c e) ρ L = (evE Φ it ρ L).bind fun d L => lcOn (items d L) fun w xs => lcW Φ s c e ρ w xs xs L := by
  have e : evE Φ (.lc s it c e) ρ L = (evE Φ it ρ L).bind fun d L => (match items d L with
    | some (w, xs) => (lcGo (fun x L => evE Φ c (ρ.set s (some x)) L) (fun x L => evE Φ e (ρ.set s (some x)) L) w xs xs L).bind fun ys L => alloc ys L
    | none => .bad) := rfl
  rw [e]
  have h : ∀ (f g : D → Hd → R D), (∀ d L, f d L = g d L) → (evE Φ it ρ L).bind f = (evE Φ it ρ L).bind g := fun f g h => by
    rw [show f = g from funext fun d => funext fun L => h d L]
  exact h _ _ fun d L => by cases items d L <;> rfl
theorem x_rng {as : Ex} : evE Φ (.rng as) ρ L = (evE Φ as ρ L).bind fun d L => onTup d fun ds => rngop ds L := rfl
theorem x_rev {a : Ex} : evE Φ (.rev a) ρ L = (evE Φ a ρ L).bind fun d L => revop d L := rfl
theorem s_bad : run Φ .bad ρ L = .bad := rfl
theorem s_pass : run Φ .pass ρ L = .nx ρ L := rfl
theorem s_seq {a b : Sm} : run Φ (.seq a b) ρ L = (run Φ a ρ L).then fun ρ L => run Φ b ρ L := rfl
theorem s_set {i : Nat} {e : Ex} : run Φ (.set i e) ρ L = (evE Φ e ρ L).on ρ fun d L => .nx (ρ.set i (some d)) L := rfl
def setixOp (ρ : Env) (y x k : D) (L : Hd) : O := match x, k with
  | .ref n, .int j => if n = 0 then .bad else (match getL L n with
    | some xs => (match L2.ixN xs.length j with
      | some p => .nx ρ (setL L n (xs.set p y))
      | none => .bad)
    | none => .bad)
  | _, _ => .bad
theorem s_setix {a i e : Ex} : run Φ (.setix a i e) ρ L = (evE Φ e ρ L).on ρ fun y L => (evE Φ a ρ L).on ρ fun x L => (evE Φ i ρ L).on ρ fun k L => setixOp ρ y x k L := rfl
def onInt (o : Option (Option D)) (f : Int → O) : O := match o with
  | some (some (.int x)) => f x
  | _ => .bad
def augNx (o : Option Int) (f : Int → O) : O := match o with
  | some z => f z
  | none => .bad
theorem s_aug {i : Nat} {o : Bop} {e : Ex} : run Φ (.aug i o e) ρ L = onInt ρ[i]? fun x => (evE Φ e ρ L).on ρ fun y L => augNx (augop o x y) fun z => .nx (ρ.set i (some (.int z))) L := by
  have he0 : run Φ (.aug i o e) ρ L = (match ρ[i]? with
    | some (some (.int x)) => (evE Φ e ρ L).on ρ fun y L => (match augop o x y with
      | some z => .nx (ρ.set i (some (.int z))) L
      | none => .bad)
    | _ => .bad) := rfl
  rw [he0]
  generalize ρ[i]? = q
  rcases q with _ | _ | d
  · rfl
  · rfl
  · cases d with
    | int x =>
      have h : ∀ (f g : D → Hd → O), (∀ d L, f d L = g d L) → (evE Φ e ρ L).on ρ f = (evE Φ e ρ L).on ρ g := fun f g h => by
        rw [show f = g from funext fun d => funext fun L => h d L]
      exact h _ _ fun y L => by cases augop o x y <;> rfl
    | _ => rfl
theorem s_ex {e : Ex} : run Φ (.ex e) ρ L = (evE Φ e ρ L).on ρ fun _ L => .nx ρ L := rfl
theorem s_ite {c : Ex} {a b : Sm} : run Φ (.ite c a b) ρ L = (evE Φ c ρ L).on ρ fun d L => ifB d (run Φ a ρ L) (run Φ b ρ L) := rfl
theorem s_wh {c : Ex} {b : Sm} : run Φ (.wh c b) ρ L = whW Φ c b ρ L := rfl
def forOn (o : Option (Option Nat × List D)) (f : Option Nat → List D → O) : O := match o with
  | some (w, xs) => f w xs
  | none => .bad
theorem s_for {s : Nat} {it : Ex} {b : Sm} : run Φ (.for_ s it b) ρ L = (evE Φ it ρ L).on ρ fun d L => forOn (items d L) fun w xs => forW Φ s b w xs xs ρ L := by
  have e : run Φ (.for_ s it b) ρ L = (evE Φ it ρ L).on ρ fun d L => (match items d L with
    | some (w, xs) => forGo (fun ρ L => run Φ b ρ L) s w xs xs ρ L
    | none => .bad) := rfl
  rw [e]
  have h : ∀ (f g : D → Hd → O), (∀ d L, f d L = g d L) → (evE Φ it ρ L).on ρ f = (evE Φ it ρ L).on ρ g := fun f g h => by
    rw [show f = g from funext fun d => funext fun L => h d L]
  exact h _ _ fun d L => by cases items d L <;> rfl
theorem s_ret {e : Ex} : run Φ (.ret e) ρ L = (evE Φ e ρ L).on ρ fun d L => .rt d L := rfl
theorem s_retn : run Φ .retn ρ L = .rt .non L := rfl
theorem s_brk : run Φ .brk ρ L = .bk ρ L := rfl
theorem s_cnt : run Φ .cnt ρ L = .ct ρ L := rfl
theorem s_raise {c : Str} : run Φ (.raise c) ρ L = .ex c ρ L := rfl
def tryN (o : O) (c : Str) (h : Env → Hd → O) : O := match o with
  | .ex c' ρ' L' => if isSub c' c = true then (match h ρ' L' with
    | .ex _ _ _ => .bad
    | o => o) else .ex c' ρ' L'
  | o => o
def tryA (o : O) (c : Str) (i : Nat) (h : Env → Hd → O) : O := match o with
  | .ex c' ρ' L' => if isSub c' c = true then (match h (ρ'.set i (some (.exc c'))) L' with
    | .rt d L2 => .rt d L2
    | _ => .bad) else .ex c' ρ' L'
  | o => o
theorem s_tryN {b h : Sm} {c : Str} : run Φ (.try_ b c none h) ρ L = tryN (run Φ b ρ L) c fun ρ L => run Φ h ρ L := by
  have e : run Φ (.try_ b c none h) ρ L = (match run Φ b ρ L with
    | .ex c' ρ' L' => if isSub c' c = true then (match run Φ h ρ' L' with
      | .ex _ _ _ => .bad
      | o => o) else .ex c' ρ' L'
    | o => o) := rfl
  rw [e]
  generalize run Φ b ρ L = o
  cases o <;> rfl
theorem s_tryA {b h : Sm} {c : Str} {i : Nat} : run Φ (.try_ b c (some i) h) ρ L = tryA (run Φ b ρ L) c i fun ρ L => run Φ h ρ L := by
  have e : run Φ (.try_ b c (some i) h) ρ L = (match run Φ b ρ L with
    | .ex c' ρ' L' => if isSub c' c = true then (match run Φ h (ρ'.set i (some (.exc c'))) L' with
      | .rt d L2 => .rt d L2
      | _ => .bad) else .ex c' ρ' L'
    | o => o) := rfl
  rw [e]
  generalize run Φ b ρ L = o
  cases o <;> rfl
theorem consOp_t {x : D} {ys : List D} : consOp x (.tup ys) L = .ok (.tup (x :: ys)) L := rfl
theorem tupOp_t {xs : List D} : tupOp (.tup xs) L = if xs.length ≤ LIM then .ok (.tup xs) L else .bad := rfl
theorem lstOp_t {xs : List D} : lstOp (.tup xs) L = alloc xs L := rfl
theorem negOp_i {i : Int} : negOp (.int i) L = .ok (.int (-i)) L := rfl
theorem onTup_t {xs : List D} {f : List D → R D} : onTup (.tup xs) f = f xs := rfl
theorem callOn_t {f : Str} {ds : List D} : callOn Φ f (.tup ds) L = Φ f ds L := rfl
theorem getV_int {i : Int} : getV (some (some (.int i))) L = .ok (.int i) L := rfl
theorem getV_bl {i : Bool} : getV (some (some (.bl i))) L = .ok (.bl i) L := rfl
theorem getV_str {i : Str} : getV (some (some (.str i))) L = .ok (.str i) L := rfl
theorem getV_tup {i : List D} : getV (some (some (.tup i))) L = .ok (.tup i) L := rfl
theorem getV_ref {i : Nat} : getV (some (some (.ref i))) L = .ok (.ref i) L := rfl
theorem getV_fn {i : Str} : getV (some (some (.fn i))) L = .ok (.fn i) L := rfl
theorem getV_non : getV (some (some .non)) L = .ok .non L := rfl
theorem onFn_f {g : Str} {f : Str → R D} : onFn (some (some (.fn g))) f = f g := rfl
theorem onExc_f {g : Str} {f : Str → R D} : onExc (some (some (.exc g))) f = f g := rfl
theorem onInt_i {x : Int} {f : Int → O} : onInt (some (some (.int x))) f = f x := rfl
theorem augNx_s {z : Int} {f : Int → O} : augNx (some z) f = f z := rfl
theorem augop_a {x y : Int} : augop .add x (.int y) = some (x + y) := rfl
theorem augop_s {x y : Int} : augop .sub x (.int y) = some (x - y) := rfl
theorem okOnly_ok {d : D} : okOnly (.ok d L) = .ok d L := rfl
theorem b_add {i j : Int} : binop .add (.int i) (.int j) L = .ok (.int (i + j)) L := rfl
theorem b_sub {i j : Int} : binop .sub (.int i) (.int j) L = .ok (.int (i - j)) L := rfl
theorem b_mul {i j : Int} : binop .mul (.int i) (.int j) L = if mulOk i j then .ok (.int (i * j)) L else .bad := rfl
theorem b_fdiv {i j : Int} : binop .fdiv (.int i) (.int j) L = if divOk i j then .ok (.int (i.fdiv j)) L else .bad := rfl
theorem b_mod {i j : Int} : binop .mod (.int i) (.int j) L = if j ≠ 0 then .ok (.int (i.fmod j)) L else .bad := rfl
theorem b_pow {i j : Int} : binop .pow (.int i) (.int j) L = if powOk i j then .ok (.int (i ^ j.toNat)) L else .bad := rfl
theorem b_addt {a b : List D} : binop .add (.tup a) (.tup b) L = if a.length + b.length ≤ LIM then .ok (.tup (a ++ b)) L else .bad := rfl
theorem c_lt {i j : Int} : cmpop .lt (.int i) (.int j) L = .ok (.bl (decide (i < j))) L := rfl
theorem c_le {i j : Int} : cmpop .le (.int i) (.int j) L = .ok (.bl (decide (i ≤ j))) L := rfl
theorem c_gt {i j : Int} : cmpop .gt (.int i) (.int j) L = .ok (.bl (decide (j < i))) L := rfl
theorem c_ge {i j : Int} : cmpop .ge (.int i) (.int j) L = .ok (.bl (decide (j ≤ i))) L := rfl
theorem c_eq {x y : D} : cmpop .eq x y L = eqop x y L id := by cases x <;> cases y <;> rfl
theorem c_ne {x y : D} : cmpop .ne x y L = eqop x y L not := by cases x <;> cases y <;> rfl
theorem ix_t {xs : List D} {i : Int} {v : D} (h : L2.atI xs i = some v) : ixop (.tup xs) (.int i) L = .ok v L := by
  show (match L2.atI xs i with | some v => R.ok v L | none => .bad) = _
  rw [h]
theorem ix_l {n : Nat} {xs : List D} {i : Int} {v : D} (hx : getL L n = some xs) (h : L2.atI xs i = some v) : ixop (.ref n) (.int i) L = .ok v L := by
  show (match getL L n with | some xs => (match L2.atI xs i with | some v => R.ok v L | none => .bad) | none => .bad) = _
  rw [hx]
  show (match L2.atI xs i with | some v => R.ok v L | none => .bad) = _
  rw [h]
theorem ix_2_0 {a b : D} : ixop (.tup [a, b]) (.int 0) L = .ok a L := rfl
theorem ix_2_1 {a b : D} : ixop (.tup [a, b]) (.int 1) L = .ok b L := rfl
theorem ix_3_0 {a b c : D} : ixop (.tup [a, b, c]) (.int 0) L = .ok a L := rfl
theorem ix_3_1 {a b c : D} : ixop (.tup [a, b, c]) (.int 1) L = .ok b L := rfl
theorem ix_3_2 {a b c : D} : ixop (.tup [a, b, c]) (.int 2) L = .ok c L := rfl
theorem bi_abs {i : Int} : biop .abs [.int i] L = .ok (.int (if i < 0 then -i else i)) L := rfl
theorem bi_lent {xs : List D} : biop .len [.tup xs] L = .ok (.int xs.length) L := rfl
theorem bi_lenl {n : Nat} {xs : List D} (hx : getL L n = some xs) : biop .len [.ref n] L = .ok (.int xs.length) L := by
  show (match getL L n with | some xs => R.ok (D.int xs.length) L | none => .bad) = _
  rw [hx]
theorem bi_max {i j : Int} : biop .max [.int i, .int j] L = .ok (.int (if j > i then j else i)) L := rfl
theorem bi_min {i j : Int} : biop .min [.int i, .int j] L = .ok (.int (if j < i then j else i)) L := rfl
theorem bi_int {i : Int} : biop .int [.int i] L = .ok (.int i) L := rfl
theorem bi_intb {k : Bool} : biop .int [.bl k] L = .ok (.int (if k then 1 else 0)) L := rfl
theorem bi_listt {xs : List D} : biop .list [.tup xs] L = alloc xs L := rfl
theorem bi_listl {n : Nat} {xs : List D} (hx : getL L n = some xs) : biop .list [.ref n] L = alloc xs L := by
  show (match getL L n with | some xs => alloc xs L | none => .bad) = _
  rw [hx]
theorem bi_tupt {xs : List D} : biop .tuple [.tup xs] L = .ok (.tup xs) L := rfl
theorem bi_tupl {n : Nat} {xs : List D} (hx : getL L n = some xs) : biop .tuple [.ref n] L = .ok (.tup xs) L := by
  show (match getL L n with | some xs => R.ok (D.tup xs) L | none => .bad) = _
  rw [hx]
theorem ty_non {t : Ty} : tyop .non t L = .ok (.bl false) L := rfl
theorem ty_bl {b : Bool} {t : Ty} : tyop (.bl b) t L = .ok (.bl (t == .bool || t == .int)) L := rfl
theorem ty_int {i : Int} {t : Ty} : tyop (.int i) t L = .ok (.bl (t == .int)) L := rfl
theorem ty_str {i : Str} {t : Ty} : tyop (.str i) t L = .ok (.bl (t == .str)) L := rfl
theorem ty_tup {i : List D} {t : Ty} : tyop (.tup i) t L = .ok (.bl (t == .tuple)) L := rfl
theorem tb1 : (Ty.int == Ty.int) = true := rfl
theorem tb2 : (Ty.bool == Ty.bool) = true := rfl
theorem tb3 : (Ty.tuple == Ty.tuple) = true := rfl
theorem tb4 : (Ty.list == Ty.list) = true := rfl
theorem tb5 : (Ty.str == Ty.str) = true := rfl
theorem tn1 : (Ty.int == Ty.bool) = false := rfl
theorem tn2 : (Ty.bool == Ty.int) = false := rfl
theorem tn3 : (Ty.tuple == Ty.int) = false := rfl
theorem tn4 : (Ty.tuple == Ty.bool) = false := rfl
theorem tn5 : (Ty.int == Ty.tuple) = false := rfl
theorem tn6 : (Ty.bool == Ty.tuple) = false := rfl
theorem isNon_non : isNon .non = true := rfl
theorem isNon_tup {x : List D} : isNon (.tup x) = false := rfl
theorem isNon_int {x : Int} : isNon (.int x) = false := rfl
theorem isNon_ref {x : Nat} : isNon (.ref x) = false := rfl
theorem items_t {xs : List D} : items (.tup xs) L = some (none, xs) := rfl
theorem items_l {n : Nat} {xs : List D} (hx : getL L n = some xs) : items (.ref n) L = some (some n, xs) := by
  show (getL L n).map (fun xs => (some n, xs)) = _
  rw [hx]
  rfl
theorem forOn_s {w : Option Nat} {xs : List D} {f : Option Nat → List D → O} : forOn (some (w, xs)) f = f w xs := rfl
theorem lcOn_s {w : Option Nat} {xs : List D} {f : Option Nat → List D → R (List D)} : lcOn (some (w, xs)) f = (f w xs).bind fun ys L => alloc ys L := rfl
theorem alloc_ok {xs : List D} (h : xs.length ≤ LIM) : alloc xs L = .ok (.ref L.length) (L ++ [.lst xs]) := if_pos h
theorem forW_nil {s : Nat} {b : Sm} {w : Option Nat} {all : List D} (h : seen w all L) : forW Φ s b w all [] ρ L = .nx ρ L := if_pos h
theorem forW_cons {s : Nat} {b : Sm} {w : Option Nat} {all xs : List D} {x : D} (h : seen w all L) : forW Φ s b w all (x :: xs) ρ L = (run Φ b (ρ.set s (some x)) L).turn fun ρ L => forW Φ s b w all xs ρ L := if_pos h
theorem fw_nil_n {s : Nat} {b : Sm} {all : List D} : forW Φ s b none all [] ρ L = .nx ρ L := forW_nil trivial
theorem fw_cons_n {s : Nat} {b : Sm} {all xs : List D} {x : D} : forW Φ s b none all (x :: xs) ρ L = (run Φ b (ρ.set s (some x)) L).turn fun ρ L => forW Φ s b none all xs ρ L := forW_cons trivial
theorem fw_nil_s {s n : Nat} {b : Sm} {all : List D} (h : getL L n = some all) : forW Φ s b (some n) all [] ρ L = .nx ρ L := forW_nil h
theorem fw_cons_s {s n : Nat} {b : Sm} {all xs : List D} {x : D} (h : getL L n = some all) : forW Φ s b (some n) all (x :: xs) ρ L = (run Φ b (ρ.set s (some x)) L).turn fun ρ L => forW Φ s b (some n) all xs ρ L := forW_cons h
theorem seen_none {all : List D} : seen none all L := trivial
end

/-! ### while -/
theorem whN_mono {c : Env → Hd → R D} {b : Env → Hd → O} : ∀ {n : Nat} {ρ : Env} {L : Hd}, whN c b n ρ L ≠ .bad → whN c b (n + 1) ρ L = whN c b n ρ L
  | 0, _, _, h => absurd rfl h
  | n + 1, ρ, L, h => by
    unfold whN at h ⊢
    cases hc : c ρ L with
    | ok d L1 =>
      rw [hc] at h
      simp only [R.on_ok] at h ⊢
      cases d with
      | bl t =>
        cases t with
        | false => rfl
        | true =>
          simp only [ifB] at h ⊢
          cases hb : b ρ L1 with
          | nx ρ' L' =>
            rw [hb] at h
            exact whN_mono h
          | ct ρ' L' =>
            rw [hb] at h
            exact whN_mono h
          | _ => rfl
      | _ => exact absurd rfl h
    | _ => rfl
theorem whN_le {c : Env → Hd → R D} {b : Env → Hd → O} {n m : Nat} {ρ : Env} {L : Hd} (h : whN c b n ρ L ≠ .bad) (hm : n ≤ m) : whN c b m ρ L = whN c b n ρ L := by
  induction hm with
  | refl => rfl
  | step hm ih => rw [whN_mono (by rw [ih]; exact h), ih]
theorem whL_of {c : Env → Hd → R D} {b : Env → Hd → O} {n : Nat} {ρ : Env} {L : Hd} (h : whN c b n ρ L ≠ .bad) : whL c b ρ L = whN c b n ρ L := by
  unfold whL
  have hex : ∃ n, whN c b n ρ L ≠ .bad := ⟨n, h⟩
  rw [dif_pos hex]
  have h2 := Classical.choose_spec hex
  by_cases hle : n ≤ Classical.choose hex
  · exact whN_le h hle
  · exact (whN_le h2 (by omega)).symm
theorem whL_bad {c : Env → Hd → R D} {b : Env → Hd → O} {ρ : Env} {L : Hd} (h : whL c b ρ L = .bad) (n : Nat) : whN c b n ρ L = .bad := by
  cases q : whN c b n ρ L with
  | bad => rfl
  | _ =>
    have h2 : whN c b n ρ L ≠ .bad := by rw [q]; exact fun z => by cases z
    rw [whL_of h2, q] at h
    cases h
/-- a while is its first turn, and itself -/
theorem whL_step (c : Env → Hd → R D) (b : Env → Hd → O) (ρ : Env) (L : Hd) : whL c b ρ L = (c ρ L).on ρ fun d L => ifB d ((b ρ L).turn fun ρ L => whL c b ρ L) (.nx ρ L) := by
  by_cases hex : ∃ n, whN c b n ρ L ≠ .bad
  · obtain ⟨n, h⟩ := hex
    rw [whL_of h]
    cases n with
    | zero => exact absurd rfl h
    | succ n =>
      unfold whN at h ⊢
      cases hc : c ρ L with
      | ok d L1 =>
        rw [hc] at h
        simp only [R.on_ok] at h ⊢
        cases d with
        | bl t =>
          cases t with
          | false => rfl
          | true =>
            simp only [ifB] at h ⊢
            cases hb : b ρ L1 with
            | nx ρ' L' =>
              rw [hb] at h
              exact (whL_of h).symm
            | ct ρ' L' =>
              rw [hb] at h
              exact (whL_of h).symm
            | _ => rfl
        | _ => rfl
      | _ => rfl
  · have hb : whL c b ρ L = .bad := by
      unfold whL
      rw [dif_neg hex]
    rw [hb]
    symm
    have all : ∀ n, whN c b n ρ L = .bad := whL_bad hb
    cases hc : c ρ L with
    | ok d L1 =>
      simp only [R.on_ok]
      cases d with
      | bl t =>
        cases t with
        | false =>
          have := all 1
          unfold whN at this
          rw [hc] at this
          exact this
        | true =>
          simp only [ifB]
          cases hb2 : b ρ L1 with
          | nx ρ' L' =>
            have : ∀ n, whN c b n ρ' L' = .bad := fun n => by
              have := all (n + 1)
              unfold whN at this
              rw [hc] at this
              simp only [R.on_ok, ifB] at this
              rw [hb2] at this
              exact this
            show whL c b ρ' L' = .bad
            unfold whL
            rw [dif_neg (fun ⟨n, z⟩ => z (this n))]
          | ct ρ' L' =>
            have : ∀ n, whN c b n ρ' L' = .bad := fun n => by
              have := all (n + 1)
              unfold whN at this
              rw [hc] at this
              simp only [R.on_ok, ifB] at this
              rw [hb2] at this
              exact this
            show whL c b ρ' L' = .bad
            unfold whL
            rw [dif_neg (fun ⟨n, z⟩ => z (this n))]
          | bad => rfl
          | _ =>
            have := all 1
            unfold whN at this
            rw [hc] at this
            simp only [R.on_ok, ifB] at this
            rw [hb2] at this
            exact this
      | _ =>
        have := all 1
        unfold whN at this
        rw [hc] at this
        exact this
    | exc c' L1 =>
      have := all 1
      unfold whN at this
      rw [hc] at this
      exact this
    | bad => rfl
theorem whW_step {Φ : Str → List D → Hd → R D} {c : Ex} {b : Sm} {ρ : Env} {L : Hd} : whW Φ c b ρ L = (evE Φ c ρ L).on ρ fun d L => ifB d ((run Φ b ρ L).turn fun ρ L => whW Φ c b ρ L) (.nx ρ L) := whL_step _ _ ρ L
def ofO (o : O) : R D := match o with
  | .nx _ L => .ok .non L
  | .rt d L => .ok d L
  | .ex c _ L => .exc c L
  | _ => .bad
theorem runF_mk {Φ : Str → List D → Hd → R D} {np n : Nat} {b : Sm} {ds : List D} {L : Hd} : runF Φ ⟨np, n, b⟩ ds L = if ds.length = np then ofO (run Φ b (ds.map some ++ List.replicate (n - ds.length) none) L) else .bad := rfl
theorem ofO_nx {ρ : Env} {L : Hd} : ofO (.nx ρ L) = .ok .non L := rfl
theorem ofO_rt {d : D} {L : Hd} : ofO (.rt d L) = .ok d L := rfl
theorem ofO_ex {c : Str} {ρ : Env} {L : Hd} : ofO (.ex c ρ L) = .exc c L := rfl
theorem items_r {n : Nat} {L : Hd} : items (.ref n) L = (getL L n).map fun xs => (some n, xs) := rfl
/-- a body's first rows, and the rest -/
def takeS : Nat → Sm → Sm
  | 0, _ => .pass
  | n + 1, .seq a b => .seq a (takeS n b)
  | _ + 1, s => s
def dropS : Nat → Sm → Sm
  | 0, s => s
  | n + 1, .seq _ b => dropS n b
  | _ + 1, _ => .pass
theorem takeS_0 {s : Sm} : takeS 0 s = .pass := rfl
theorem takeS_s {n : Nat} {a b : Sm} : takeS (n + 1) (.seq a b) = .seq a (takeS n b) := rfl
theorem dropS_0 {s : Sm} : dropS 0 s = s := rfl
theorem dropS_s {n : Nat} {a b : Sm} : dropS (n + 1) (.seq a b) = dropS n b := rfl
theorem then_nx (o : O) : (o.then fun ρ L => .nx ρ L) = o := by cases o <;> rfl
theorem then_then (o : O) (f g : Env → Hd → O) : (o.then f).then g = o.then fun ρ L => (f ρ L).then g := by cases o <;> rfl
theorem run_cut (Φ : Str → List D → Hd → R D) : ∀ (n : Nat) (s : Sm) (ρ : Env) (L : Hd), run Φ s ρ L = (run Φ (takeS n s) ρ L).then fun ρ L => run Φ (dropS n s) ρ L
  | 0, s, ρ, L => rfl
  | n + 1, s, ρ, L => by
    cases s with
    | seq a b =>
      rw [takeS_s, dropS_s, s_seq, s_seq, then_then]
      rw [show (fun ρ L => run Φ b ρ L) = (fun ρ L => (run Φ (takeS n b) ρ L).then fun ρ L => run Φ (dropS n b) ρ L) from funext fun ρ => funext fun L => run_cut Φ n b ρ L]
    | _ => exact (then_nx _).symm
theorem runF_cut {Φ : Str → List D → Hd → R D} {fd : Fd} (k : Nat) {ds : List D} {L : Hd} (h : ds.length = fd.np) : runF Φ fd ds L = ofO ((run Φ (takeS k fd.body) (ds.map some ++ List.replicate (fd.n - ds.length) none) L).then fun ρ L => run Φ (dropS k fd.body) ρ L) := by
  rw [← run_cut]
  exact if_pos h
/-! ### lists on the heap -/
def onL (o : Option (List D)) (f : List D → R D) : R D := match o with
  | some xs => f xs
  | none => .bad
theorem onL_s {xs : List D} {f : List D → R D} : onL (some xs) f = f xs := rfl
def onLo (o : Option (List D)) (f : List D → O) : O := match o with
  | some xs => f xs
  | none => .bad
theorem onLo_s {xs : List D} {f : List D → O} : onLo (some xs) f = f xs := rfl
def atV (o : Option D) (L : Hd) : R D := match o with
  | some v => .ok v L
  | none => .bad
theorem atV_s {v : D} {L : Hd} : atV (some v) L = .ok v L := rfl
def onV (o : Option D) (f : D → R D) : R D := match o with
  | some y => f y
  | none => .bad
theorem onV_s {y : D} {f : D → R D} : onV (some y) f = f y := rfl
section
variable {L M : Hd} {xs ys : List D} {n : Nat} {x y : D} {i : Int}
theorem lr_len : biop .len [.ref n] L = onL (getL L n) fun xs => .ok (.int xs.length) L := by
  show (match getL L n with | some xs => R.ok (D.int xs.length) L | none => .bad) = _
  cases getL L n <;> rfl
theorem lr_list : biop .list [.ref n] L = onL (getL L n) fun xs => alloc xs L := by
  show (match getL L n with | some xs => alloc xs L | none => .bad) = _
  cases getL L n <;> rfl
theorem lr_tuple : biop .tuple [.ref n] L = onL (getL L n) fun xs => .ok (.tup xs) L := by
  show (match getL L n with | some xs => R.ok (D.tup xs) L | none => .bad) = _
  cases getL L n <;> rfl
theorem ix_t' : ixop (.tup xs) (.int i) L = atV (L2.atI xs i) L := by
  show (match L2.atI xs i with | some v => R.ok v L | none => .bad) = _
  cases L2.atI xs i <;> rfl
theorem ix_r' : ixop (.ref n) (.int i) L = onL (getL L n) fun xs => atV (L2.atI xs i) L := by
  show (match getL L n with | some xs => (match L2.atI xs i with | some v => R.ok v L | none => .bad) | none => .bad) = _
  cases getL L n with
  | none => rfl
  | some xs =>
    show (match L2.atI xs i with | some v => R.ok v L | none => .bad) = atV (L2.atI xs i) L
    cases L2.atI xs i <;> rfl
theorem me_app : meop .append (.ref n) [y] L = if n = 0 then .bad else onL (getL L n) fun xs => if xs.length < LIM then .ok .non (setL L n (xs ++ [y])) else .bad := by
  show (if n = 0 then R.bad else (match getL L n with | some xs => if xs.length < LIM then R.ok D.non (setL L n (xs ++ [y])) else .bad | none => .bad)) = _
  cases getL L n <;> rfl
theorem me_pop : meop .pop (.ref n) [] L = if n = 0 then .bad else onL (getL L n) fun xs => onV xs[xs.length - 1]? fun y => .ok y (setL L n xs.dropLast) := by
  show (if n = 0 then R.bad else (match getL L n with | some xs => (match xs[xs.length - 1]? with | some y => R.ok y (setL L n xs.dropLast) | none => .bad) | none => .bad)) = _
  cases getL L n with
  | none => rfl
  | some xs =>
    show (if n = 0 then R.bad else (match xs[xs.length - 1]? with | some y => R.ok y (setL L n xs.dropLast) | none => .bad)) = (if n = 0 then R.bad else onV xs[xs.length - 1]? fun y => .ok y (setL L n xs.dropLast))
    cases xs[xs.length - 1]? <;> rfl
theorem me_rev : meop .reverse (.ref n) [] L = if n = 0 then .bad else onL (getL L n) fun xs => .ok .non (setL L n xs.reverse) := by
  show (if n = 0 then R.bad else (match getL L n with | some xs => R.ok D.non (setL L n xs.reverse) | none => .bad)) = _
  cases getL L n <;> rfl
theorem sl_r' {lo hi : Option Int} : slop (.ref n) lo hi L = onL (getL L n) fun xs => alloc (cut xs lo hi) L := by
  show (match getL L n with | some xs => alloc (cut xs lo hi) L | none => .bad) = _
  cases getL L n <;> rfl
theorem sl_t' {lo hi : Option Int} : slop (.tup xs) lo hi L = .ok (.tup (cut xs lo hi)) L := rfl
theorem recv_app : recv .append (.ref n) = true := rfl
theorem recv_pop : recv .pop (.ref n) = true := rfl
theorem recv_popAt : recv .popAt (.ref n) = true := rfl
theorem recv_clear : recv .clear (.ref n) = true := rfl
theorem recv_rev : recv .reverse (.ref n) = true := rfl
theorem recv_ins : recv .insert (.ref n) = true := rfl
theorem getL_at0 : getL (L ++ .lst xs :: M) L.length = some xs := by
  unfold getL
  rw [List.getElem?_append_right (Nat.le_refl _), Nat.sub_self]
  rfl
theorem getL_at1 {c : Cell} : getL (L ++ c :: .lst xs :: M) (L.length + 1) = some xs := by
  unfold getL
  rw [List.getElem?_append_right (by omega), Nat.add_sub_cancel_left]
  rfl
theorem getL_at2 {c d : Cell} : getL (L ++ c :: d :: .lst xs :: M) (L.length + 2) = some xs := by
  unfold getL
  rw [List.getElem?_append_right (by omega), Nat.add_sub_cancel_left]
  rfl
theorem getL_at3 {c d e : Cell} : getL (L ++ c :: d :: e :: .lst xs :: M) (L.length + 3) = some xs := by
  unfold getL
  rw [List.getElem?_append_right (by omega), Nat.add_sub_cancel_left]
  rfl
theorem setL_at0 {c : Cell} : setL (L ++ c :: M) L.length ys = L ++ .lst ys :: M := by
  unfold setL
  rw [List.set_append_right _ _ (Nat.le_refl _), Nat.sub_self]
  rfl
theorem setL_at1 {c d : Cell} : setL (L ++ c :: d :: M) (L.length + 1) ys = L ++ c :: .lst ys :: M := by
  unfold setL
  rw [List.set_append_right _ _ (by omega), Nat.add_sub_cancel_left]
  rfl
theorem setL_at2 {c d e : Cell} : setL (L ++ c :: d :: e :: M) (L.length + 2) ys = L ++ c :: d :: .lst ys :: M := by
  unfold setL
  rw [List.set_append_right _ _ (by omega), Nat.add_sub_cancel_left]
  rfl
theorem getL_0 {xs : List D} {L : Hd} : getL (.lst xs :: L) 0 = some xs := (rfl)
theorem getL_1 {c : Cell} {xs : List D} {L : Hd} : getL (c :: .lst xs :: L) 1 = some xs := (rfl)
theorem getL_2 {c d : Cell} {xs : List D} {L : Hd} : getL (c :: d :: .lst xs :: L) 2 = some xs := (rfl)
theorem getL_3 {c d e : Cell} {xs : List D} {L : Hd} : getL (c :: d :: e :: .lst xs :: L) 3 = some xs := (rfl)
theorem getL_4 {c d e f : Cell} {xs : List D} {L : Hd} : getL (c :: d :: e :: f :: .lst xs :: L) 4 = some xs := (rfl)
theorem setL_1 {c d : Cell} : setL (c :: d :: M) 1 ys = c :: .lst ys :: M := rfl
theorem setL_2 {c d e : Cell} : setL (c :: d :: e :: M) 2 ys = c :: d :: .lst ys :: M := rfl
theorem setL_3 {c d e f : Cell} : setL (c :: d :: e :: f :: M) 3 ys = c :: d :: e :: .lst ys :: M := rfl
theorem atI_0 {a : D} : L2.atI (a :: xs) 0 = some a := by
  unfold L2.atI L2.ixN
  simp
theorem atI_nat {k : Nat} (h : k < xs.length) : L2.atI xs (k : Int) = xs[k]? := by
  unfold L2.atI L2.ixN
  rw [if_pos (by omega), if_pos (by omega)]
  rfl
theorem atI_1 {a b : D} : L2.atI (a :: b :: xs) 1 = some b := (atI_nat (k := 1) (by simp)).trans rfl
theorem atI_2 {a b c : D} : L2.atI (a :: b :: c :: xs) 2 = some c := (atI_nat (k := 2) (by simp)).trans rfl
theorem atI_m1 {a : D} : L2.atI (xs ++ [a]) (-1) = some a := by
  unfold L2.atI L2.ixN
  rw [if_neg (by decide), if_pos (by simp; omega)]
  have e : (-1 + ((xs ++ [a]).length : Int)).toNat = xs.length := by simp; omega
  show (xs ++ [a])[(-1 + ((xs ++ [a]).length : Int)).toNat]? = _
  rw [e]
  simp
end
end MP

/-! MP without a heap: lists are values, a name may own one. Syntax is MP's. -/
namespace FP
open PySem MP

inductive Dv where
  | non | bl (b : Bool) | int (i : Int) | str (x : Str) | tup (xs : List Dv) | lst (xs : List Dv) | scr (xs : List Dv) | own (xs : List Dv) | fn (f : Str) | exc (c : Str)
deriving Inhabited
inductive Rv (α : Type) where
  | ok (a : α) | exc (c : Str) | bad
def Rv.bind {α β : Type} (r : Rv α) (f : α → Rv β) : Rv β := match r with
  | .ok a => f a
  | .exc c => .exc c
  | .bad => .bad
theorem Rv.bind_ok {α β : Type} (a : α) (f : α → Rv β) : (Rv.ok a).bind f = f a := rfl
theorem Rv.bind_exc {α β : Type} (c : Str) (f : α → Rv β) : (Rv.exc c : Rv α).bind f = .exc c := rfl
theorem Rv.bind_bad {α β : Type} (f : α → Rv β) : (Rv.bad : Rv α).bind f = .bad := rfl
abbrev Ev := List (Option Dv)

/-- a list handed on is changed no more -/
def frz (d : Dv) : Dv := match d with
  | .own xs => .lst xs
  | d => d
/-- may a list stand in it? -/
def lsF : Nat → Dv → Bool
  | 0, _ => true
  | n + 1, .tup xs => xs.any (lsF n)
  | _ + 1, .lst _ => true
  | _ + 1, .scr _ => true
  | _ + 1, .own _ => true
  | _ + 1, _ => false
def FUEL : Nat := 12
def inL (d : Dv) : Bool := match d with
  | .own xs => xs.any (lsF FUEL)
  | d => lsF FUEL d

/-! ### operators -/
noncomputable def binP (o : Bop) (x y : Dv) : Rv Dv := match o, x, y with
  | .add, .int i, .int j => .ok (.int (i + j))
  | .add, .str a, .str b => if a.length + b.length ≤ LIM then .ok (.str (a ++ b)) else .bad
  | .add, .tup a, .tup b => if a.length + b.length ≤ LIM then .ok (.tup (a ++ b)) else .bad
  | .add, .lst a, .lst b => if a.length + b.length ≤ LIM then .ok (.own (a ++ b)) else .bad
  | .sub, .int i, .int j => .ok (.int (i - j))
  | .mul, .int i, .int j => if mulOk i j then .ok (.int (i * j)) else .bad
  | .fdiv, .int i, .int j => if divOk i j then .ok (.int (i.fdiv j)) else .bad
  | .mod, .int i, .int j => if j ≠ 0 then .ok (.int (i.fmod j)) else .bad
  | .pow, .int i, .int j => if powOk i j then .ok (.int (i ^ j.toNat)) else .bad
  | _, _, _ => .bad
def pyAllP (f : Dv → Option PyData) : List Dv → Option (List PyData)
  | [] => some []
  | x :: xs => match f x, pyAllP f xs with
    | some p, some ps => some (p :: ps)
    | _, _ => none
def pyP : Nat → Dv → Option PyData
  | 0, _ => none
  | _ + 1, .non => some .none
  | _ + 1, .bl b => some (.bool b)
  | _ + 1, .int i => some (.int i)
  | _ + 1, .str x => some (.str x)
  | n + 1, .tup xs => (pyAllP (pyP n) xs).map PyData.tuple
  | n + 1, .lst xs => (pyAllP (pyP n) xs).map PyData.list
  | n + 1, .scr xs => (pyAllP (pyP n) xs).map PyData.list
  | _ + 1, _ => none
def eqP (x y : Dv) (f : Bool → Bool) : Rv Dv := match pyP DEEP x, pyP DEEP y with
  | some p, some q => if SeqAt.shaped p = true ∧ SeqAt.shaped q = true then .ok (.bl (f (PyData.eqv p q))) else .bad
  | _, _ => .bad
def strsP : List Dv → Option (List Str)
  | [] => some []
  | .str x :: xs => (strsP xs).map (x :: ·)
  | _ :: _ => none
def cmpP (o : Cop) (x y : Dv) : Rv Dv := match o, x, y with
  | .lt, .int i, .int j => .ok (.bl (decide (i < j)))
  | .le, .int i, .int j => .ok (.bl (decide (i ≤ j)))
  | .gt, .int i, .int j => .ok (.bl (decide (j < i)))
  | .ge, .int i, .int j => .ok (.bl (decide (j ≤ i)))
  | .eq, x, y => eqP x y id
  | .ne, x, y => eqP x y not
  | .in_, .str a, .str b => match a.cps.toList with
    | [c] => .ok (.bl (decide (c ∈ b.cps.toList)))
    | _ => .bad
  | .nin, .str a, .str b => match a.cps.toList with
    | [c] => .ok (.bl (!decide (c ∈ b.cps.toList)))
    | _ => .bad
  | .in_, .str a, .tup xs => match strsP xs with
    | some ys => .ok (.bl (decide (a ∈ ys)))
    | none => .bad
  | .nin, .str a, .tup xs => match strsP xs with
    | some ys => .ok (.bl (!decide (a ∈ ys)))
    | none => .bad
  | _, _, _ => .bad
/-- a list's things -/
def lsOf (d : Dv) : Option (List Dv) := match d with
  | .lst xs => some xs
  | .scr xs => some xs
  | _ => none
def atP (o : Option Dv) : Rv Dv := match o with
  | some v => .ok v
  | none => .bad
def ixP (x i : Dv) : Rv Dv := match x, i with
  | .tup xs, .int i => atP (L2.atI xs i)
  | .lst xs, .int i => atP (L2.atI xs i)
  | .scr xs, .int i => atP (L2.atI xs i)
  | .str z, .int i => if z.length ≤ LIM then (match L2.atI z.cps.toList i with
    | some c => .ok (.str ⟨#[c]⟩)
    | none => .bad) else .bad
  | _, _ => .bad
def partP : Dv → Option (Option Int)
  | .exc _ => some none
  | .int i => some (some i)
  | _ => none
def allocP (xs : List Dv) : Rv Dv := if xs.length ≤ LIM then .ok (.own xs) else .bad
def slP (x : Dv) (lo hi : Option Int) : Rv Dv := match x with
  | .tup xs => .ok (.tup (cut xs lo hi))
  | .lst xs => allocP (cut xs lo hi)
  | .scr xs => allocP (cut xs lo hi)
  | .str z => if z.length ≤ LIM then .ok (.str (L2.cutS z lo hi)) else .bad
  | _ => .bad
def onPartP (d : Dv) (f : Option Int → Rv Dv) : Rv Dv := match partP d with
  | some o => f o
  | none => .bad
def intsP : List Dv → Option (List Int)
  | [] => some []
  | .int x :: xs => (intsP xs).map (x :: ·)
  | _ :: _ => none
def sortP (o : Option (List Int)) (r : Bool) : Rv Dv := match o with
  | some ns => allocP ((if r = true then (up ns).reverse else up ns).map Dv.int)
  | none => .bad
def biP (b : Bi) (ds : List Dv) : Rv Dv := match b, ds with
  | .abs, [.int i] => .ok (.int (if i < 0 then -i else i))
  | .len, [.tup xs] => .ok (.int xs.length)
  | .len, [.lst xs] => .ok (.int xs.length)
  | .len, [.scr xs] => .ok (.int xs.length)
  | .len, [.str z] => if z.length ≤ LIM then .ok (.int z.length) else .bad
  | .max, [.int i, .int j] => .ok (.int (if j > i then j else i))
  | .min, [.int i, .int j] => .ok (.int (if j < i then j else i))
  | .int, [.int i] => .ok (.int i)
  | .int, [.bl k] => .ok (.int (if k then 1 else 0))
  | .int, [.str z] => (match intText? z with
    | some n => if z.length ≤ 640 then .ok (.int n) else .bad
    | none => .bad)
  | .str, [.int i] => if i.natAbs.log2 < 1920 then .ok (.str (Str.ofString (toString i))) else .bad
  | .list, [.tup xs] => allocP xs
  | .list, [.lst xs] => allocP xs
  | .list, [.scr xs] => allocP xs
  | .tuple, [.tup xs] => .ok (.tup xs)
  | .tuple, [.lst xs] => .ok (.tup xs)
  | .tuple, [.scr xs] => .ok (.tup xs)
  | .sorted, [.lst xs] => sortP (intsP xs) false
  | .sortedR, [.lst xs] => sortP (intsP xs) true
  | _, _ => .bad
def isStrP (x : Dv) : Bool := match x with
  | .str _ => true
  | _ => false
def seqP (d : Dv) : Option (List Dv) := match d with
  | .tup xs => some xs
  | .lst xs => some xs
  | .scr xs => some xs
  | _ => none
def tmP (m : Tm) (x : Dv) (ds : List Dv) : Rv Dv := match m, x, ds with
  | .partition, .str a, [.str b] => if (b.length == 0) = false ∧ a.length ≤ LIM then .ok (.tup [.str (Txt.partition a b).1, .str (Txt.partition a b).2.1, .str (Txt.partition a b).2.2]) else .bad
  | .split, .str a, [.str b] => if (b.length == 0) = false ∧ a.length ≤ LIM then allocP ((Txt.split a b).map Dv.str) else .bad
  | .startswith, .str a, [.str b] => .ok (.bl (Txt.startswith a b))
  | .join, .str a, [d] => (match (seqP d).bind strsP with
    | some ys => if (ys.map (·.length)).sum + ys.length * a.length ≤ LIM then .ok (.str (Txt.join a ys)) else .bad
    | none => .bad)
  | _, _, _ => .bad
def tyP (x : Dv) (t : Ty) : Rv Dv := match x with
  | .non => .ok (.bl false)
  | .bl _ => .ok (.bl (t == .bool || t == .int))
  | .int _ => .ok (.bl (t == .int))
  | .str _ => .ok (.bl (t == .str))
  | .tup _ => .ok (.bl (t == .tuple))
  | .lst _ => .ok (.bl (t == .list))
  | .scr _ => .ok (.bl (t == .list))
  | _ => .bad
def stepsP (lo c : Int) : Nat → List Dv
  | 0 => []
  | n + 1 => .int lo :: stepsP (lo + c) c n
noncomputable def rngP (ds : List Dv) : Rv Dv := match ds with
  | [.int j] => if small j then .ok (.tup (stepsP 0 1 j.toNat)) else .bad
  | [.int i, .int j] => if small i ∧ small j then .ok (.tup (stepsP i 1 (j - i).toNat)) else .bad
  | [.int i, .int j, .int c] => if rngOk i j c then .ok (.tup (stepsP i c (Builtin.Range.rangeSize i j c).toNat)) else .bad
  | _ => .bad
def revP (d : Dv) : Rv Dv := match d with
  | .tup xs => .ok (.tup xs.reverse)
  | _ => .bad
def itemsP (d : Dv) : Option (List Dv) := match d with
  | .tup xs => some xs
  | .lst xs => some xs
  | .scr xs => some xs
  | .str z => some (z.cps.toList.map fun c => Dv.str ⟨#[c]⟩)
  | _ => none
def lcP (c e : Dv → Rv Dv) : List Dv → Rv (List Dv)
  | [] => .ok []
  | x :: xs => match c x with
    | .ok (.bl true) => (match e x with
      | .ok y => (match lcP c e xs with
        | .ok ys => .ok (frz y :: ys)
        | _ => .bad)
      | _ => .bad)
    | .ok (.bl false) => lcP c e xs
    | _ => .bad

/-! ### expressions -/
def callP (Φ : Str → List Dv → Rv Dv) (f : Str) (d : Dv) : Rv Dv := match d with
  | .tup ds => Φ f ds
  | _ => .bad
def onBlP (d : Dv) (t f : Rv Dv) : Rv Dv := match d with
  | .bl true => t
  | .bl false => f
  | _ => .bad
def getP (o : Option (Option Dv)) : Rv Dv := match o with
  | some (some (.exc _)) => .bad
  | some (some d) => .ok d
  | _ => .bad
def consP (x y : Dv) : Rv Dv := match y with
  | .tup ys => .ok (.tup (frz x :: ys))
  | _ => .bad
def tupP (x : Dv) : Rv Dv := match x with
  | .tup xs => if xs.length ≤ LIM then .ok (.tup xs) else .bad
  | _ => .bad
def lstP (x : Dv) : Rv Dv := match x with
  | .tup xs => allocP xs
  | _ => .bad
def negP (x : Dv) : Rv Dv := match x with
  | .int i => .ok (.int (-i))
  | _ => .bad
def onTupP (x : Dv) (f : List Dv → Rv Dv) : Rv Dv := match x with
  | .tup xs => f xs
  | _ => .bad
def isNonP (x : Dv) : Bool := match x with
  | .non => true
  | _ => false
def okOnlyP (r : Rv Dv) : Rv Dv := match r with
  | .ok d => .ok d
  | _ => .bad
def onFnP (o : Option (Option Dv)) (f : Str → Rv Dv) : Rv Dv := match o with
  | some (some (.fn g)) => f g
  | _ => .bad
def onExcP (o : Option (Option Dv)) (f : Str → Rv Dv) : Rv Dv := match o with
  | some (some (.exc g)) => f g
  | _ => .bad
def onItemsP {α : Type} (o : Option (List Dv)) (z : α) (f : List Dv → α) : α := match o with
  | some xs => f xs
  | none => z
noncomputable def evP (Φ : Str → List Dv → Rv Dv) : Ex → Ev → Rv Dv
  | .bad, _ => .bad
  | .non, _ => .ok .non
  | .bl b, _ => .ok (.bl b)
  | .int i, _ => .ok (.int i)
  | .str x, _ => .ok (.str x)
  | .v i, σ => (getP σ[i]?).bind fun d => .ok (frz d)
  | .k _ e, _ => evP Φ e []
  | .f x, _ => .ok (.fn x)
  | .nil, _ => .ok (.tup [])
  | .absent, _ => .ok (.exc ⟨#[]⟩)
  | .cons a b, σ => (evP Φ a σ).bind fun x => (evP Φ b σ).bind fun y => consP x y
  | .tup a, σ => (evP Φ a σ).bind tupP
  | .lst a, σ => (evP Φ a σ).bind lstP
  | .bin o a b, σ => (evP Φ a σ).bind fun x => (evP Φ b σ).bind fun y => binP o (frz x) (frz y)
  | .neg a, σ => (evP Φ a σ).bind negP
  | .not a, σ => (evP Φ a σ).bind fun x => onBlP x (.ok (.bl false)) (.ok (.bl true))
  | .and a b, σ => (evP Φ a σ).bind fun x => onBlP x (evP Φ b σ) (.ok (.bl false))
  | .or a b, σ => (evP Φ a σ).bind fun x => onBlP x (.ok (.bl true)) (evP Φ b σ)
  | .cmp o a b, σ => (evP Φ a σ).bind fun x => (evP Φ b σ).bind fun y => cmpP o (frz x) (frz y)
  | .isn a, σ => (evP Φ a σ).bind fun x => .ok (.bl (isNonP x))
  | .notn a, σ => (evP Φ a σ).bind fun x => .ok (.bl (!isNonP x))
  | .ix a i, σ => (evP Φ a σ).bind fun x => (evP Φ i σ).bind fun y => ixP (frz x) y
  | .sl a lo hi, σ => (evP Φ a σ).bind fun x => (evP Φ lo σ).bind fun l => onPartP l fun l => (evP Φ hi σ).bind fun u => onPartP u fun u => slP (frz x) l u
  | .call f as, σ => (evP Φ as σ).bind fun d => callP Φ f d
  | .callv i as, σ => onFnP σ[i]? fun f => (evP Φ as σ).bind fun d => okOnlyP (callP Φ f d)
  | .bi b as, σ => (evP Φ as σ).bind fun d => onTupP d fun ds => biP b ds
  | .isi a t, σ => (evP Φ a σ).bind fun x => tyP (frz x) t
  | .ise i c, σ => onExcP σ[i]? fun a => .ok (.bl (isSub a c))
  | .me _ _ _, _ => .bad
  | .tm m o as, σ => (evP Φ o σ).bind fun x => if isStrP (frz x) = true then (evP Φ as σ).bind fun d => onTupP d fun ds => tmP m (frz x) ds else .bad
  | .lc s it c e, σ => (evP Φ it σ).bind fun d => onItemsP (itemsP (frz d)) .bad fun xs => (lcP (fun x => evP Φ c (σ.set s (some x))) (fun x => evP Φ e (σ.set s (some x))) xs).bind allocP
  | .rng as, σ => (evP Φ as σ).bind fun d => onTupP d rngP
  | .rev a, σ => (evP Φ a σ).bind revP
/-- the names that an expression reads -/
def vars : Ex → List Nat
  | .v i => [i]
  | .cons a b => vars a ++ vars b
  | .tup a => vars a
  | .lst a => vars a
  | .bin _ a b => vars a ++ vars b
  | .neg a => vars a
  | .not a => vars a
  | .and a b => vars a ++ vars b
  | .or a b => vars a ++ vars b
  | .cmp _ a b => vars a ++ vars b
  | .isn a => vars a
  | .notn a => vars a
  | .ix a i => vars a ++ vars i
  | .sl a lo hi => vars a ++ (vars lo ++ vars hi)
  | .call _ as => vars as
  | .tm _ o as => vars o ++ vars as
  | .callv i as => i :: vars as
  | .bi _ as => vars as
  | .isi a _ => vars a
  | .ise i _ => [i]
  | .lc _ it c e => vars it ++ (vars c ++ vars e)
  | .rng as => vars as
  | .rev a => vars a
  | _ => []
/-- the names' lists are handed on -/
def frzAt (i : Nat) (σ : Ev) : Ev := match σ[i]? with
  | some (some d) => σ.set i (some (frz d))
  | _ => σ
def frzs : List Nat → Ev → Ev
  | [], σ => σ
  | i :: vs, σ => frzs vs (frzAt i σ)
def frzIf (b : Bool) (vs : List Nat) (σ : Ev) : Ev := if b = true then frzs vs σ else σ

/-- of an own list's element, read by a number, the list itself is not handed on -/
def varsX : Ex → List Nat
  | .ix (.v _) (.int _) => []
  | e => vars e

/-! ### statements -/
inductive Op where
  | nx (σ : Ev) | rt (d : Dv) | bk (σ : Ev) | ct (σ : Ev) | ex (c : Str) (σ : Ev) | bad
def Rv.on {α : Type} (r : Rv α) (σ : Ev) (f : α → Op) : Op := match r with
  | .ok a => f a
  | .exc c => .ex c σ
  | .bad => .bad
theorem Rv.on_ok {α : Type} (a : α) (σ : Ev) (f : α → Op) : (Rv.ok a).on σ f = f a := rfl
theorem Rv.on_exc {α : Type} (c : Str) (σ : Ev) (f : α → Op) : (Rv.exc c : Rv α).on σ f = .ex c σ := rfl
theorem Rv.on_bad {α : Type} (σ : Ev) (f : α → Op) : (Rv.bad : Rv α).on σ f = .bad := rfl
def Op.then (o : Op) (f : Ev → Op) : Op := match o with
  | .nx σ => f σ
  | o => o
def ifP (d : Dv) (t f : Op) : Op := match d with
  | .bl true => t
  | .bl false => f
  | _ => .bad
def Op.turn (o : Op) (f : Ev → Op) : Op := match o with
  | .nx σ => f σ
  | .ct σ => f σ
  | .bk σ => .nx σ
  | o => o
def whNP (c : Ev → Rv Dv) (b : Ev → Op) : Nat → Ev → Op
  | 0, _ => .bad
  | n + 1, σ => (c σ).on σ fun d => ifP d ((b σ).turn fun σ => whNP c b n σ) (.nx σ)
open Classical in
noncomputable def whLP (c : Ev → Rv Dv) (b : Ev → Op) (σ : Ev) : Op := if h : ∃ n, whNP c b n σ ≠ .bad then whNP c b (choose h) σ else .bad
def forP (b : Ev → Op) (s : Nat) : List Dv → Ev → Op
  | [], σ => .nx σ
  | x :: xs, σ => (b (σ.set s (some x))).turn fun σ => forP b s xs σ
def augP (o : Bop) (x : Int) (y : Dv) : Option Int := match o, y with
  | .add, .int y => some (x + y)
  | .sub, .int y => some (x - y)
  | _, _ => none
/-- a method of a name's own list: what it tells, the list behind it -/
noncomputable def meP (m : Me) (xs ds : List Dv) : Option (Dv × List Dv) := match m, ds with
  | .append, [y] => if xs.length < LIM then some (.non, xs ++ [y]) else none
  | .pop, [] => match xs[xs.length - 1]? with
    | some y => some (y, xs.dropLast)
    | none => none
  | .popAt, [.int i] => match L2.ixN xs.length i with
    | some k => (match xs[k]? with
      | some y => if popOk i then some (y, xs.eraseIdx k) else none
      | none => none)
    | none => none
  | .clear, [] => some (.non, [])
  | .reverse, [] => some (.non, xs.reverse)
  | .insert, [.int i, y] => if 0 ≤ i ∧ i ≤ xs.length ∧ xs.length < LIM then some (.non, xs.take i.toNat ++ y :: xs.drop i.toNat) else none
  | _, _ => none
def meX : Ex → Option (Me × Nat × Ex)
  | .me m (.v j) as => some (m, j, as)
  | _ => none
def varX : Ex → Option Nat
  | .v j => some j
  | _ => none
def onOwn (o : Option (Option Dv)) (f : List Dv → Op) : Op := match o with
  | some (some (.own xs)) => f xs
  | _ => .bad
def onSome {α : Type} (o : Option α) (f : α → Op) : Op := match o with
  | some x => f x
  | none => .bad
def onTupO (x : Dv) (f : List Dv → Op) : Op := match x with
  | .tup xs => f xs
  | _ => .bad
def onIntP (o : Option (Option Dv)) (f : Int → Op) : Op := match o with
  | some (some (.int x)) => f x
  | _ => .bad
/-- a call of a method of the name j's own list -/
noncomputable def meGo (Φ : Str → List Dv → Rv Dv) (m : Me) (j : Nat) (as : Ex) (σ : Ev) (f : Dv → Ev → Op) : Op :=
  if recv m (.ref 0) = true then onOwn σ[j]? fun _ => (evP Φ as σ).on σ fun d => onTupO d fun ds => onOwn (frzIf (inL d) (vars as) σ)[j]? fun xs => onSome (meP m xs ds) fun p => f p.1 ((frzIf (inL d) (vars as) σ).set j (some (.own p.2))) else .bad
def rawP (o : Option (Option Dv)) : Op := match o with
  | some (some (.exc _)) => .bad
  | some (some d) => .rt d
  | _ => .bad
def isL (d : Dv) : Bool := match d with
  | .lst _ => true
  | .own _ => true
  | _ => false
def setixP (xs : List Dv) (k y : Dv) (f : List Dv → Op) : Op := match k with
  | .int j => (match L2.ixN xs.length j with
    | some p => f (xs.set p y)
    | none => .bad)
  | _ => .bad
def tryNP (o : Op) (c : Str) (h : Ev → Op) : Op := match o with
  | .ex c' σ' => if isSub c' c = true then (match h σ' with
    | .ex _ _ => .bad
    | o => o) else .ex c' σ'
  | o => o
def tryAP (o : Op) (c : Str) (i : Nat) (h : Ev → Op) : Op := match o with
  | .ex c' σ' => if isSub c' c = true then (match h (σ'.set i (some (.exc c'))) with
    | .rt d => .rt d
    | _ => .bad) else .ex c' σ'
  | o => o
noncomputable def runP (Φ : Str → List Dv → Rv Dv) : Sm → Ev → Op
  | .bad, _ => .bad
  | .pass, σ => .nx σ
  | .seq a b, σ => (runP Φ a σ).then fun σ => runP Φ b σ
  | .set i e, σ => (match meX e with
    | some (m, j, as) => meGo Φ m j as σ fun d σ => .nx (σ.set i (some d))
    | none => (evP Φ e σ).on σ fun d => .nx ((frzIf (inL d) (vars e) σ).set i (some d)))
  | .setix a i e, σ => (match varX a with
    | some j => (evP Φ e σ).on σ fun y => onOwn (frzIf (inL (frz y)) (varsX e) σ)[j]? fun xs => (evP Φ i (frzIf (inL (frz y)) (varsX e) σ)).on (frzIf (inL (frz y)) (varsX e) σ) fun k => setixP xs k (frz y) fun xs => .nx ((frzIf (inL (frz y)) (varsX e) σ).set j (some (.own xs)))
    | none => .bad)
  | .aug i o e, σ => onIntP σ[i]? fun x => (evP Φ e σ).on σ fun y => onSome (augP o x y) fun z => .nx (σ.set i (some (.int z)))
  | .ex e, σ => (match meX e with
    | some (m, j, as) => meGo Φ m j as σ fun _ σ => .nx σ
    | none => (evP Φ e σ).on σ fun _ => .nx σ)
  | .ite c a b, σ => (evP Φ c σ).on σ fun d => ifP d (runP Φ a σ) (runP Φ b σ)
  | .wh c b, σ => whLP (fun σ => evP Φ c σ) (fun σ => runP Φ b σ) σ
  | .for_ s it b, σ => (evP Φ it σ).on σ fun d => onItemsP (itemsP (frz d)) .bad fun xs => forP (fun σ => runP Φ b σ) s xs (frzIf (isL d || inL d) (vars it) σ)
  | .ret e, σ => (match varX e with
    | some j => rawP σ[j]?
    | none => (evP Φ e σ).on σ fun d => .rt d)
  | .retn, _ => .rt .non
  | .brk, σ => .bk σ
  | .cnt, σ => .ct σ
  | .raise c, σ => .ex c σ
  | .try_ b c s h, σ => (match s with
    | none => tryNP (runP Φ b σ) c fun σ => runP Φ h σ
    | some i => tryAP (runP Φ b σ) c i fun σ => runP Φ h σ)
def ofP (o : Op) : Rv Dv := match o with
  | .nx _ => .ok .non
  | .rt d => .ok d
  | .ex c _ => .exc c
  | _ => .bad
noncomputable def runFP (Φ : Str → List Dv → Rv Dv) (fd : Fd) (ds : List Dv) : Rv Dv :=
  if ds.length = fd.np then ofP (runP Φ fd.body (ds.map some ++ List.replicate (fd.n - ds.length) none)) else .bad
noncomputable def runTP (T : Str → Option Fd) : Nat → Str → List Dv → Rv Dv
  | 0, _, _ => .bad
  | k + 1, f, ds => match T f with
    | some fd => runFP (runTP T k) fd ds
    | none => .bad
end FP

/-! What stands for a value of FP in MP. -/
namespace FP
open PySem MP

mutual
inductive Rel (L : Hd) (S : Nat → Prop) : D → Dv → Prop
  | non : Rel L S .non .non
  | bl (b : Bool) : Rel L S (.bl b) (.bl b)
  | int (i : Int) : Rel L S (.int i) (.int i)
  | str (x : Str) : Rel L S (.str x) (.str x)
  | fn (f : Str) : Rel L S (.fn f) (.fn f)
  | exc (c : Str) : Rel L S (.exc c) (.exc c)
  | tup {ds : List D} {ps : List Dv} : Rels L S ds ps → Rel L S (.tup ds) (.tup ps)
  | lst {n : Nat} {ds : List D} {ps : List Dv} : n ≠ 0 → S n → getL L n = some ds → Rels L S ds ps → Rel L S (.ref n) (.lst ps)
  | scr {ds : List D} {ps : List Dv} : S 0 → getL L 0 = some ds → Rels L S ds ps → Rel L S (.ref 0) (.scr ps)
inductive Rels (L : Hd) (S : Nat → Prop) : List D → List Dv → Prop
  | nil : Rels L S [] []
  | cons {d : D} {p : Dv} {ds : List D} {ps : List Dv} : Rel L S d p → Rels L S ds ps → Rels L S (d :: ds) (p :: ps)
end
mutual
theorem Rel.mono {L L' : Hd} {S S' : Nat → Prop} (h1 : ∀ n, S n → S' n) (h2 : ∀ n, S n → L'[n]? = L[n]?) : ∀ {d : D} {p : Dv}, Rel L S d p → Rel L' S' d p
  | _, _, .non => .non
  | _, _, .bl b => .bl b
  | _, _, .int i => .int i
  | _, _, .str x => .str x
  | _, _, .fn x => .fn x
  | _, _, .exc x => .exc x
  | _, _, .tup t => .tup (Rels.mono h1 h2 t)
  | _, _, .lst z s g t => .lst z (h1 _ s) (by unfold getL at g ⊢; rw [h2 _ s]; exact g) (Rels.mono h1 h2 t)
  | _, _, .scr s g t => .scr (h1 _ s) (by unfold getL at g ⊢; rw [h2 _ s]; exact g) (Rels.mono h1 h2 t)
theorem Rels.mono {L L' : Hd} {S S' : Nat → Prop} (h1 : ∀ n, S n → S' n) (h2 : ∀ n, S n → L'[n]? = L[n]?) : ∀ {ds : List D} {ps : List Dv}, Rels L S ds ps → Rels L' S' ds ps
  | _, _, .nil => .nil
  | _, _, .cons r t => .cons (Rel.mono h1 h2 r) (Rels.mono h1 h2 t)
end
theorem Rels.length {L : Hd} {S : Nat → Prop} : ∀ {ds : List D} {ps : List Dv}, Rels L S ds ps → ds.length = ps.length
  | _, _, .nil => rfl
  | _, _, .cons _ t => by rw [List.length_cons, List.length_cons, Rels.length t]
/-- of what has no list nothing hangs on the heap -/
theorem Rel.free {L L' : Hd} {S S' : Nat → Prop} : ∀ (n : Nat) {d : D} {p : Dv}, lsF n p = false → Rel L S d p → Rel L' S' d p
  | 0, _, _, h, _ => by simp [lsF] at h
  | n + 1, _, _, h, r => by
    have all : ∀ {ds : List D} {ps : List Dv}, ps.any (lsF n) = false → Rels L S ds ps → Rels L' S' ds ps := by
      intro ds ps h r
      induction ps generalizing ds with
      | nil =>
        cases r
        exact .nil
      | cons p ps ih =>
        cases r with
        | cons r t =>
          simp only [List.any_cons, Bool.or_eq_false_iff] at h
          exact .cons (Rel.free n h.1 r) (ih h.2 t)
    cases r with
    | non => exact .non
    | bl b => exact .bl b
    | int i => exact .int i
    | str x => exact .str x
    | fn x => exact .fn x
    | exc x => exact .exc x
    | tup t => exact .tup (all h t)
    | lst _ _ _ _ => simp [lsF] at h
    | scr _ _ _ => simp [lsF] at h
theorem Rels.free {L L' : Hd} {S S' : Nat → Prop} (n : Nat) : ∀ {ds : List D} {ps : List Dv}, ps.any (lsF n) = false → Rels L S ds ps → Rels L' S' ds ps
  | _, _, _, .nil => .nil
  | _, _, h, .cons r t => by
    simp only [List.any_cons, Bool.or_eq_false_iff] at h
    exact .cons (Rel.free n h.1 r) (Rels.free n h.2 t)
section
variable {L : Hd} {S : Nat → Prop}
theorem Rels.get : ∀ {ds : List D} {vs : List Dv} {i : Nat} {v : Dv}, Rels L S ds vs → vs[i]? = some v → ∃ d, ds[i]? = some d ∧ Rel L S d v
  | _, _, _, _, .nil, h => by simp at h
  | _, _, 0, _, .cons r _, h => by
    cases h
    exact ⟨_, rfl, r⟩
  | _, _, i + 1, _, .cons _ t, h => Rels.get (i := i) t h
theorem Rels.append : ∀ {ds es : List D} {vs us : List Dv}, Rels L S ds vs → Rels L S es us → Rels L S (ds ++ es) (vs ++ us)
  | _, _, _, _, .nil, s => s
  | _, _, _, _, .cons r t, s => .cons r (Rels.append t s)
theorem Rels.take : ∀ {ds : List D} {vs : List Dv} (n : Nat), Rels L S ds vs → Rels L S (ds.take n) (vs.take n)
  | _, _, 0, _ => by simpa using Rels.nil
  | _, _, _ + 1, .nil => .nil
  | _, _, n + 1, .cons r t => .cons r (Rels.take n t)
theorem Rels.drop : ∀ {ds : List D} {vs : List Dv} (n : Nat), Rels L S ds vs → Rels L S (ds.drop n) (vs.drop n)
  | _, _, 0, r => r
  | _, _, _ + 1, .nil => .nil
  | _, _, n + 1, .cons _ t => Rels.drop n t
theorem Rels.set : ∀ {ds : List D} {vs : List Dv} {d : D} {v : Dv} (n : Nat), Rels L S ds vs → Rel L S d v → Rels L S (ds.set n d) (vs.set n v)
  | _, _, _, _, _, .nil, _ => .nil
  | _, _, _, _, 0, .cons _ t, r => .cons r t
  | _, _, _, _, n + 1, .cons q t, r => .cons q (Rels.set n t r)
theorem Rels.rev : ∀ {ds : List D} {vs : List Dv}, Rels L S ds vs → Rels L S ds.reverse vs.reverse
  | _, _, .nil => .nil
  | _, _, .cons r t => by
    rw [List.reverse_cons, List.reverse_cons]
    exact (Rels.rev t).append (.cons r .nil)
theorem Rels.erase : ∀ {ds : List D} {vs : List Dv} (n : Nat), Rels L S ds vs → Rels L S (ds.eraseIdx n) (vs.eraseIdx n)
  | _, _, _, .nil => .nil
  | _, _, 0, .cons _ t => t
  | _, _, n + 1, .cons q t => .cons q (Rels.erase n t)
theorem Rels.dropLast {ds : List D} {vs : List Dv} (r : Rels L S ds vs) : Rels L S ds.dropLast vs.dropLast := by
  rw [List.dropLast_eq_take, List.dropLast_eq_take, ← r.length]
  exact r.take _
theorem Rels.ints : ∀ {ds : List D} {vs : List Dv}, Rels L S ds vs → intsOf ds = intsP vs
  | _, _, .nil => rfl
  | _, _, .cons r t => by
    cases r with
    | int i =>
      show (intsOf _).map _ = (intsP _).map _
      rw [Rels.ints t]
    | _ => rfl
theorem Rels.strs : ∀ {ds : List D} {vs : List Dv}, Rels L S ds vs → strsOf ds = strsP vs
  | _, _, .nil => rfl
  | _, _, .cons r t => by
    cases r with
    | str i =>
      show (strsOf _).map _ = (strsP _).map _
      rw [Rels.strs t]
    | _ => rfl
theorem Rels.ofInts : ∀ (ns : List Int), Rels L S (ns.map D.int) (ns.map Dv.int)
  | [] => .nil
  | i :: ns => .cons (.int i) (Rels.ofInts ns)
theorem Rel.py : ∀ (n : Nat) {d : D} {v : Dv}, Rel L S d v → pyOf L n d = pyP n v
  | 0, _, _, _ => rfl
  | n + 1, _, _, r => by
    have all : ∀ {ds : List D} {ps : List Dv}, Rels L S ds ps → pyAll (pyOf L n) ds = pyAllP (pyP n) ps := by
      intro ds ps r
      induction ps generalizing ds with
      | nil =>
        cases r
        rfl
      | cons p ps ih =>
        cases r with
        | cons r t =>
          unfold pyAll pyAllP
          rw [Rel.py n r, ih t]
          try (cases pyP n p <;> cases pyAllP (pyP n) ps <;> rfl)
    cases r with
    | tup t =>
      show (pyAll (pyOf L n) _).map _ = (pyAllP (pyP n) _).map _
      rw [all t]
    | lst _ _ g t =>
      show (match getL L _ with | some xs => (pyAll (pyOf L n) xs).map PyData.list | none => none) = (pyAllP (pyP n) _).map _
      rw [g, ← all t]
    | scr _ g t =>
      show (match getL L _ with | some xs => (pyAll (pyOf L n) xs).map PyData.list | none => none) = (pyAllP (pyP n) _).map _
      rw [g, ← all t]
    | _ => rfl
end
theorem Rels.atI {L : Hd} {S : Nat → Prop} {ds : List D} {vs : List Dv} {i : Int} {v : Dv} (r : Rels L S ds vs) (h : L2.atI vs i = some v) : ∃ d, L2.atI ds i = some d ∧ Rel L S d v := by
  unfold L2.atI at h ⊢
  rw [r.length]
  cases q : L2.ixN vs.length i with
  | none =>
    rw [q] at h
    cases h
  | some k =>
    rw [q] at h
    exact r.get h
theorem Rels.cut {L : Hd} {S : Nat → Prop} {ds : List D} {vs : List Dv} (r : Rels L S ds vs) (lo hi : Option Int) : Rels L S (MP.cut ds lo hi) (MP.cut vs lo hi) := by
  unfold MP.cut
  rw [r.length]
  exact (r.drop _).take _
theorem Rels.steps {L : Hd} {S : Nat → Prop} : ∀ (n : Nat) (i c : Int), Rels L S (steps i c n) (stepsP i c n)
  | 0, _, _ => .nil
  | n + 1, i, c => .cons (.int i) (Rels.steps n _ c)
theorem Rels.chars {L : Hd} {S : Nat → Prop} : ∀ (cs : List Nat) , True := fun _ => trivial

/-! ### what is told -/
/-- a told value; an own list is new -/
def RelT (L : Hd) (S : Nat → Prop) (b : Nat) (d : D) (v : Dv) : Prop := match v with
  | .own ps => ∃ n ds, d = .ref n ∧ b ≤ n ∧ ¬ S n ∧ getL L n = some ds ∧ Rels L S ds ps
  | v => Rel L S d v
theorem RelT.of {L : Hd} {S : Nat → Prop} {b : Nat} {d : D} {v : Dv} (r : Rel L S d v) : RelT L S b d v := by
  cases r with
  | non => exact .non
  | bl b => exact .bl b
  | int i => exact .int i
  | str x => exact .str x
  | fn x => exact .fn x
  | exc x => exact .exc x
  | tup t => exact .tup t
  | lst a b c e => exact .lst a b c e
  | scr b c e => exact .scr b c e
theorem RelT.on {L : Hd} {S : Nat → Prop} {b : Nat} {d : D} {v : Dv} (r : RelT L S b d v) (h : ∀ ps, v ≠ .own ps) : Rel L S d v := by
  cases v with
  | own ps => exact absurd rfl (h ps)
  | _ => exact r
theorem getL_lt {L : Hd} {n : Nat} {xs : List D} (h : getL L n = some xs) : n < L.length := by
  unfold getL at h
  by_cases hn : n < L.length
  · exact hn
  · rw [List.getElem?_eq_none (by omega)] at h
    cases h
theorem getL_app {L : Hd} {J : Hd} {n : Nat} {xs : List D} (h : getL L n = some xs) : getL (L ++ J) n = some xs := by
  have hn := getL_lt h
  unfold getL at h ⊢
  rw [List.getElem?_append_left hn]
  exact h
theorem get_app {L J : Hd} {n : Nat} (h : n < L.length) : (L ++ J)[n]? = L[n]? := List.getElem?_append_left h
/-- more lists stand, none of the frozen ones is another -/
structure Ext (L : Hd) (S : Nat → Prop) (J : Hd) (S' : Nat → Prop) : Prop where
  up : ∀ n, S n → S' n
  nw : ∀ n, S' n → S n ∨ (L.length ≤ n ∧ n < (L ++ J).length)
def Bd (L : Hd) (S : Nat → Prop) : Prop := ∀ n, S n → n < L.length
theorem Ext.refl {L : Hd} {S : Nat → Prop} : Ext L S [] S := ⟨fun _ h => h, fun _ h => .inl h⟩
theorem Ext.bd {L : Hd} {S S' : Nat → Prop} {J : Hd} (e : Ext L S J S') (h : Bd L S) : Bd (L ++ J) S' := fun n hn => by
  rcases e.nw n hn with a | a
  · have := h n a
    rw [List.length_append]
    omega
  · exact a.2
theorem Ext.rel {L : Hd} {S S' : Nat → Prop} {J : Hd} (e : Ext L S J S') (h : Bd L S) {d : D} {v : Dv} (r : Rel L S d v) : Rel (L ++ J) S' d v := r.mono e.up fun n hn => get_app (h n hn)
theorem Ext.rels {L : Hd} {S S' : Nat → Prop} {J : Hd} (e : Ext L S J S') (h : Bd L S) {d : List D} {v : List Dv} (r : Rels L S d v) : Rels (L ++ J) S' d v := r.mono e.up fun n hn => get_app (h n hn)
theorem Ext.trans {L : Hd} {S S1 S2 : Nat → Prop} {J K : Hd} (e : Ext L S J S1) (f : Ext (L ++ J) S1 K S2) : Ext L S (J ++ K) S2 := by
  refine ⟨fun n h => f.up n (e.up n h), fun n h => ?_⟩
  rcases f.nw n h with a | a
  · rcases e.nw n a with a | a
    · exact .inl a
    · refine .inr ⟨a.1, ?_⟩
      have := a.2
      simp only [List.length_append] at this ⊢
      omega
  · refine .inr ⟨?_, ?_⟩
    · have := a.1
      simp only [List.length_append] at this
      omega
    · rw [← List.append_assoc]
      exact a.2
/-- handed on, a told value is frozen -/
theorem RelT.frz {L : Hd} {S S1 : Nat → Prop} {J : Hd} {d : D} {v : Dv} (e : Ext L S J S1) (h1 : 1 ≤ L.length) (r : RelT (L ++ J) S1 L.length d v) : ∃ S2, Ext L S J S2 ∧ (∀ n, S1 n → S2 n) ∧ Rel (L ++ J) S2 d (frz v) := by
  cases v with
  | own ps =>
    obtain ⟨n, ds, rfl, hb, hn, hg, hr⟩ := r
    refine ⟨fun m => S1 m ∨ m = n, ⟨fun m h => .inl (e.up m h), fun m h => ?_⟩, fun m h => .inl h, .lst (by omega) (.inr rfl) hg (hr.mono (fun _ h => .inl h) fun _ _ => rfl)⟩
    rcases h with h | rfl
    · exact e.nw m h
    · exact .inr ⟨hb, getL_lt hg⟩
  | _ => exact ⟨S1, e, fun _ h => h, r⟩
theorem frz_of {v : Dv} (h : ∀ ps, v ≠ .own ps) : frz v = v := by
  cases v with
  | own ps => exact absurd rfl (h ps)
  | _ => rfl
theorem getL_e' {xs : List D} {L : Hd} : getL (L ++ [.lst xs]) L.length = some xs := by
  unfold getL
  rw [List.getElem?_append_right (Nat.le_refl _), Nat.sub_self]
  rfl
/-- what an expression or a call ends with -/
def RvR (L : Hd) (S : Nat → Prop) (r : R D) (q : Rv Dv) : Prop := match q with
  | .ok v => ∃ d J S', r = .ok d (L ++ J) ∧ Ext L S J S' ∧ RelT (L ++ J) S' L.length d v
  | .exc c => ∃ J, r = .exc c (L ++ J)
  | .bad => True
theorem RvR.mk {L : Hd} {S : Nat → Prop} {r : R D} {d : D} {v : Dv} (h : r = .ok d L) (q : Rel L S d v) : RvR L S r (.ok v) := ⟨d, [], S, by rw [List.append_nil]; exact h, .refl, by rw [List.append_nil]; exact .of q⟩
theorem RvR.mk' {L : Hd} {S : Nat → Prop} {d : D} {v : Dv} (q : Rel L S d v) : RvR L S (.ok d L) (.ok v) := .mk rfl q
theorem RvR.alloc {L : Hd} {S : Nat → Prop} (hb : Bd L S) {ds : List D} {ps : List Dv} (h : Rels L S ds ps) : RvR L S (MP.alloc ds L) (allocP ps) := by
  unfold allocP MP.alloc
  rw [h.length]
  split
  · exact ⟨.ref L.length, [.lst ds], S, rfl, ⟨fun _ h => h, fun _ h => .inl h⟩, L.length, ds, rfl, Nat.le_refl _, fun z => absurd (hb _ z) (Nat.lt_irrefl _), getL_e', h.mono (fun _ h => h) fun n hn => get_app (hb n hn)⟩
  · trivial
/-- one after the other -/
theorem RvR.seq {L : Hd} {S : Nat → Prop} {r : R D} {q : Rv Dv} {f : D → Hd → R D} {g : Dv → Rv Dv} (hb : Bd L S) (h1 : 1 ≤ L.length) (h : RvR L S r q)
    (hf : ∀ d v J S', Ext L S J S' → Bd (L ++ J) S' → 1 ≤ (L ++ J).length → RelT (L ++ J) S' L.length d v → RvR (L ++ J) S' (f d (L ++ J)) (g v)) : RvR L S (r.bind f) (q.bind g) := by
  cases q with
  | bad => trivial
  | exc c =>
    obtain ⟨J, e⟩ := h
    rw [e]
    exact ⟨J, rfl⟩
  | ok v =>
    obtain ⟨d, J, S', e, x, t⟩ := h
    rw [e]
    have := hf d v J S' x (x.bd hb) (by rw [List.length_append]; omega) t
    show RvR L S (f d (L ++ J)) (g v)
    cases hg : g v with
    | bad => trivial
    | exc c =>
      rw [hg] at this
      obtain ⟨K, e⟩ := this
      exact ⟨J ++ K, by rw [e, List.append_assoc]⟩
    | ok u =>
      rw [hg] at this
      obtain ⟨d', K, S2, e2, x2, t2⟩ := this
      refine ⟨d', J ++ K, S2, by rw [e2, List.append_assoc], x.trans x2, ?_⟩
      rw [← List.append_assoc]
      cases u with
      | own ps =>
        obtain ⟨n, ds, a, b, c⟩ := t2
        exact ⟨n, ds, a, by rw [List.length_append] at b; omega, c⟩
      | _ => exact t2
/-- one after the other, the first one handed on -/
theorem RvR.seqF {L : Hd} {S : Nat → Prop} {r : R D} {q : Rv Dv} {f : D → Hd → R D} {g : Dv → Rv Dv} (hb : Bd L S) (h1 : 1 ≤ L.length) (h : RvR L S r q)
    (hf : ∀ d v J S', Ext L S J S' → Bd (L ++ J) S' → 1 ≤ (L ++ J).length → Rel (L ++ J) S' d (frz v) → RvR (L ++ J) S' (f d (L ++ J)) (g v)) : RvR L S (r.bind f) (q.bind g) := by
  cases q with
  | bad => trivial
  | exc c =>
    obtain ⟨J, e⟩ := h
    rw [e]
    exact ⟨J, rfl⟩
  | ok v =>
    obtain ⟨d, J, S', e, x, t⟩ := h
    obtain ⟨S2, x2, m, t⟩ := t.frz x h1
    rw [e]
    have := hf d v J S2 x2 (x2.bd hb) (by rw [List.length_append]; omega) t
    show RvR L S (f d (L ++ J)) (g v)
    cases hg : g v with
    | bad => trivial
    | exc c =>
      rw [hg] at this
      obtain ⟨K, e⟩ := this
      exact ⟨J ++ K, by rw [e, List.append_assoc]⟩
    | ok u =>
      rw [hg] at this
      obtain ⟨d', K, S3, e2, x3, t2⟩ := this
      refine ⟨d', J ++ K, S3, by rw [e2, List.append_assoc], x2.trans x3, ?_⟩
      rw [← List.append_assoc]
      cases u with
      | own ps =>
        obtain ⟨n, ds, a, b, c⟩ := t2
        exact ⟨n, ds, a, by rw [List.length_append] at b; omega, c⟩
      | _ => exact t2
end FP

/-! FP's operators tell what MP's do. -/
namespace FP
open PySem MP
section
variable {L : Hd} {S : Nat → Prop}
theorem binP_ok (hb : Bd L S) (o : Bop) {x y : D} {X Y : Dv} (rx : Rel L S x X) (ry : Rel L S y Y) : RvR L S (binop o x y L) (binP o X Y) := by
  cases o with
  | add =>
    cases rx with
    | int i =>
      cases ry with
      | int j => exact .mk rfl (.int _)
      | _ => trivial
    | str a =>
      cases ry with
      | str b =>
        show RvR L S (if _ then _ else _) (if _ then _ else _)
        split
        · exact .mk rfl (.str _)
        · trivial
      | _ => trivial
    | tup a =>
      cases ry with
      | tup b =>
        show RvR L S (if _ then _ else _) (if _ then _ else _)
        rw [a.length, b.length]
        split
        · exact .mk rfl (.tup (a.append b))
        · trivial
      | _ => trivial
    | lst n1 s1 g1 t1 =>
      cases ry with
      | lst n2 s2 g2 t2 =>
        rename_i n ds ps m es qs
        show RvR L S (if n = 0 ∨ m = 0 then R.bad else match getL L n, getL L m with | some a, some b => if a.length + b.length ≤ LIM then alloc (a ++ b) L else .bad | _, _ => .bad) (if ps.length + qs.length ≤ LIM then .ok (.own (ps ++ qs)) else .bad)
        rw [if_neg (by omega), g1, g2]
        show RvR L S (if ds.length + es.length ≤ LIM then alloc (ds ++ es) L else .bad) _
        have := RvR.alloc hb (t1.append t2)
        unfold allocP at this
        rw [List.length_append] at this
        rw [t1.length, t2.length]
        split
        · rename_i h
          rw [if_pos h] at this
          exact this
        · trivial
      | _ => trivial
    | _ => trivial
  | sub =>
    cases rx with
    | int i =>
      cases ry with
      | int j => exact .mk rfl (.int _)
      | _ => trivial
    | _ => trivial
  | mul =>
    cases rx with
    | int i =>
      cases ry with
      | int j =>
        show RvR L S (if _ then _ else _) (if _ then _ else _)
        split
        · exact .mk rfl (.int _)
        · trivial
      | _ => trivial
    | _ => trivial
  | fdiv =>
    cases rx with
    | int i =>
      cases ry with
      | int j =>
        show RvR L S (if _ then _ else _) (if _ then _ else _)
        split
        · exact .mk rfl (.int _)
        · trivial
      | _ => trivial
    | _ => trivial
  | mod =>
    cases rx with
    | int i =>
      cases ry with
      | int j =>
        show RvR L S (if _ then _ else _) (if _ then _ else _)
        split
        · exact .mk rfl (.int _)
        · trivial
      | _ => trivial
    | _ => trivial
  | pow =>
    cases rx with
    | int i =>
      cases ry with
      | int j =>
        show RvR L S (if _ then _ else _) (if _ then _ else _)
        split
        · exact .mk rfl (.int _)
        · trivial
      | _ => trivial
    | _ => trivial
theorem eqP_ok {x y : D} {X Y : Dv} (rx : Rel L S x X) (ry : Rel L S y Y) (f : Bool → Bool) : RvR L S (eqop x y L f) (eqP X Y f) := by
  unfold eqop eqP
  rw [rx.py, ry.py]
  cases pyP DEEP X with
  | none => trivial
  | some p =>
    cases pyP DEEP Y with
    | none => trivial
    | some q =>
      show RvR L S (if _ then _ else _) (if _ then _ else _)
      split
      · exact .mk rfl (.bl _)
      · trivial
theorem cmpP_ok (o : Cop) {x y : D} {X Y : Dv} (rx : Rel L S x X) (ry : Rel L S y Y) : RvR L S (cmpop o x y L) (cmpP o X Y) := by
  have num : ∀ (f : Int → Int → Bool) (o : Cop), (∀ i j, cmpop o (.int i) (.int j) L = .ok (.bl (f i j)) L) → (∀ i j, cmpP o (.int i) (.int j) = .ok (.bl (f i j))) → ∀ i j, RvR L S (cmpop o (.int i) (.int j) L) (cmpP o (.int i) (.int j)) := fun f o h1 h2 i j => by
    rw [h1, h2]
    exact .mk rfl (.bl _)
  cases o with
  | eq =>
    have e1 : cmpop .eq x y L = eqop x y L id := c_eq
    have e2 : cmpP .eq X Y = eqP X Y id := by cases X <;> cases Y <;> rfl
    rw [e1, e2]
    exact eqP_ok rx ry id
  | ne =>
    have e1 : cmpop .ne x y L = eqop x y L not := c_ne
    have e2 : cmpP .ne X Y = eqP X Y not := by cases X <;> cases Y <;> rfl
    rw [e1, e2]
    exact eqP_ok rx ry not
  | in_ =>
    cases rx with
    | str a =>
      cases ry with
      | str b =>
        show RvR L S (match a.cps.toList with | [c] => _ | _ => _) (match a.cps.toList with | [c] => _ | _ => _)
        split
        · exact .mk rfl (.bl _)
        · trivial
      | tup t =>
        show RvR L S (match strsOf _ with | some ys => _ | none => _) (match strsP _ with | some ys => _ | none => _)
        rw [t.strs]
        split
        · exact .mk rfl (.bl _)
        · trivial
      | _ => trivial
    | _ => trivial
  | nin =>
    cases rx with
    | str a =>
      cases ry with
      | str b =>
        show RvR L S (match a.cps.toList with | [c] => _ | _ => _) (match a.cps.toList with | [c] => _ | _ => _)
        split
        · exact .mk rfl (.bl _)
        · trivial
      | tup t =>
        show RvR L S (match strsOf _ with | some ys => _ | none => _) (match strsP _ with | some ys => _ | none => _)
        rw [t.strs]
        split
        · exact .mk rfl (.bl _)
        · trivial
      | _ => trivial
    | _ => trivial
  | lt =>
    cases rx with
    | int i =>
      cases ry with
      | int j => exact .mk rfl (.bl _)
      | _ => trivial
    | _ => trivial
  | le =>
    cases rx with
    | int i =>
      cases ry with
      | int j => exact .mk rfl (.bl _)
      | _ => trivial
    | _ => trivial
  | gt =>
    cases rx with
    | int i =>
      cases ry with
      | int j => exact .mk rfl (.bl _)
      | _ => trivial
    | _ => trivial
  | ge =>
    cases rx with
    | int i =>
      cases ry with
      | int j => exact .mk rfl (.bl _)
      | _ => trivial
    | _ => trivial
theorem at_ok {ds : List D} {ps : List Dv} {i : Int} (t : Rels L S ds ps) : RvR L S (match L2.atI ds i with | some v => R.ok v L | none => .bad) (atP (L2.atI ps i)) := by
  cases q : L2.atI ps i with
  | none => trivial
  | some v =>
    obtain ⟨d, h, r⟩ := t.atI q
    rw [h]
    exact .mk rfl r
theorem ixP_ok {x y : D} {X Y : Dv} (rx : Rel L S x X) (ry : RelT L S b y Y) : RvR L S (ixop x y L) (ixP X Y) := by
  cases Y with
  | int j =>
    cases ry with
    | int j =>
      cases rx with
      | tup t => exact at_ok t
      | lst _ _ g t =>
        show RvR L S (match getL L _ with | some xs => _ | none => _) _
        rw [g]
        exact at_ok t
      | scr _ g t =>
        show RvR L S (match getL L _ with | some xs => _ | none => _) _
        rw [g]
        exact at_ok t
      | str z =>
        show RvR L S (if _ then (match L2.atI z.cps.toList j with | some c => _ | none => _) else _) (if _ then (match L2.atI z.cps.toList j with | some c => _ | none => _) else _)
        split
        · split
          · exact .mk rfl (.str _)
          · trivial
        · trivial
      | _ => trivial
  | _ =>
    cases X <;> trivial
theorem slP_ok (hb : Bd L S) {x : D} {X : Dv} (lo hi : Option Int) (rx : Rel L S x X) : RvR L S (slop x lo hi L) (slP X lo hi) := by
  cases rx with
  | tup t => exact .mk rfl (.tup (t.cut lo hi))
  | lst _ _ g t =>
    show RvR L S (match getL L _ with | some xs => _ | none => _) _
    rw [g]
    exact .alloc hb (t.cut lo hi)
  | scr _ g t =>
    show RvR L S (match getL L _ with | some xs => _ | none => _) _
    rw [g]
    exact .alloc hb (t.cut lo hi)
  | str z =>
    show RvR L S (if _ then _ else _) (if _ then _ else _)
    split
    · exact .mk rfl (.str _)
    · trivial
  | _ => trivial
theorem Rels.ofStrs : ∀ ys : List Str, Rels L S (ys.map D.str) (ys.map Dv.str)
  | [] => .nil
  | y :: ys => .cons (.str y) (Rels.ofStrs ys)
theorem seq_eq {d : D} {v : Dv} (r : Rel L S d v) {ys : List Str} (h : (seqP v).bind strsP = some ys) : (seqOf d L).bind strsOf = some ys := by
  cases r with
  | tup t =>
    have h' : strsP _ = some ys := h
    rw [← t.strs] at h'
    exact h'
  | lst _ _ g t =>
    have h' : strsP _ = some ys := h
    rw [← t.strs] at h'
    show (getL L _).bind strsOf = some ys
    rw [g]
    exact h'
  | scr _ g t =>
    have h' : strsP _ = some ys := h
    rw [← t.strs] at h'
    show (getL L _).bind strsOf = some ys
    rw [g]
    exact h'
  | _ => cases h
theorem tmP_ok (hb : Bd L S) (m : Tm) {x : D} {X : Dv} {ds : List D} {ps : List Dv} (rx : Rel L S x X) (t : Rels L S ds ps) : RvR L S (tmop m x ds L) (tmP m X ps) := by
  cases rx with
  | str a =>
    cases t with
    | nil => cases m <;> trivial
    | cons r t =>
      cases t with
      | nil =>
        cases m with
        | partition =>
          cases r with
          | str b =>
            show RvR L S (if _ then _ else _) (if _ then _ else _)
            split
            · exact .mk rfl (.tup (.cons (.str _) (.cons (.str _) (.cons (.str _) .nil))))
            · trivial
          | _ => trivial
        | split =>
          cases r with
          | str b =>
            show RvR L S (if _ then _ else _) (if _ then _ else _)
            split
            · exact .alloc hb (Rels.ofStrs _)
            · trivial
          | _ => trivial
        | startswith =>
          cases r with
          | str b => exact .mk rfl (.bl _)
          | _ => trivial
        | join =>
          rename_i d p
          have e1 : tmop .join (.str a) [d] L = (match (seqOf d L).bind strsOf with
            | some ys => if (ys.map (·.length)).sum + ys.length * a.length ≤ LIM then .ok (.str (Txt.join a ys)) L else .bad
            | none => .bad) := rfl
          have e2 : tmP .join (.str a) [p] = (match (seqP p).bind strsP with
            | some ys => if (ys.map (·.length)).sum + ys.length * a.length ≤ LIM then .ok (.str (Txt.join a ys)) else .bad
            | none => .bad) := rfl
          rw [e1, e2]
          cases q : (seqP p).bind strsP with
          | none => trivial
          | some ys =>
            rw [seq_eq r q]
            show RvR L S (if _ then _ else _) (if _ then _ else _)
            split
            · exact .mk rfl (.str _)
            · trivial
      | cons _ _ => cases m <;> cases r <;> trivial
  | _ => cases m <;> trivial
theorem part_eq {d : D} {v : Dv} (r : RelT L S b d v) : ∀ o, partP v = some o → part d = some o := by
  intro o h
  cases v with
  | exc c =>
    cases r
    exact h
  | int i =>
    cases r
    exact h
  | _ => cases h
theorem sort_ok (hb : Bd L S) (o : Option (List Int)) (r : Bool) : RvR L S (match o with | some ns => alloc ((if r = true then (up ns).reverse else up ns).map D.int) L | none => .bad) (sortP o r) := by
  cases o with
  | none => trivial
  | some ns => exact .alloc hb (Rels.ofInts _)
theorem biP_bad {b : Bi} {Y : Dv} {ps : List Dv} (h : ps ≠ []) (hX : ∀ i j, ¬ (Y = .int i ∧ ps = [.int j])) : biP b (Y :: ps) = .bad := by
  cases ps with
  | nil => exact absurd rfl h
  | cons p ps =>
    cases b with
    | max =>
      cases Y with
      | int i =>
        cases p with
        | int j =>
          cases ps with
          | nil => exact absurd ⟨rfl, rfl⟩ (hX i j)
          | cons _ _ => rfl
        | _ => rfl
      | _ => rfl
    | min =>
      cases Y with
      | int i =>
        cases p with
        | int j =>
          cases ps with
          | nil => exact absurd ⟨rfl, rfl⟩ (hX i j)
          | cons _ _ => rfl
        | _ => rfl
      | _ => rfl
    | _ => cases Y <;> rfl
theorem biP_ok (hb : Bd L S) (b : Bi) {ds : List D} {ps : List Dv} (t : Rels L S ds ps) : RvR L S (biop b ds L) (biP b ps) := by
  cases t with
  | nil => cases b <;> trivial
  | cons r t =>
    cases t with
    | nil =>
      cases b with
      | abs =>
        cases r with
        | int i => exact .mk rfl (.int _)
        | _ => trivial
      | len =>
        cases r with
        | tup t =>
          show RvR L S (.ok (.int _) L) (.ok (.int _))
          rw [t.length]
          exact .mk rfl (.int _)
        | lst _ _ g t =>
          show RvR L S (match getL L _ with | some xs => R.ok (.int xs.length) L | none => _) _
          rw [g]
          show RvR L S (.ok (.int _) L) (.ok (.int _))
          rw [t.length]
          exact .mk rfl (.int _)
        | scr _ g t =>
          show RvR L S (match getL L _ with | some xs => R.ok (.int xs.length) L | none => _) _
          rw [g]
          show RvR L S (.ok (.int _) L) (.ok (.int _))
          rw [t.length]
          exact .mk rfl (.int _)
        | str z =>
          show RvR L S (if _ then _ else _) (if _ then _ else _)
          split
          · exact .mk rfl (.int _)
          · trivial
        | _ => trivial
      | int =>
        cases r with
        | int i => exact .mk rfl (.int _)
        | bl i => exact .mk rfl (.int _)
        | str z =>
          show RvR L S (match intText? z with | some n => _ | none => _) (match intText? z with | some n => _ | none => _)
          split
          · split
            · exact .mk rfl (.int _)
            · trivial
          · trivial
        | _ => trivial
      | str =>
        cases r with
        | int i =>
          show RvR L S (if _ then _ else _) (if _ then _ else _)
          split
          · exact .mk rfl (.str _)
          · trivial
        | _ => trivial
      | list =>
        cases r with
        | tup t => exact .alloc hb t
        | lst _ _ g t =>
          show RvR L S (match getL L _ with | some xs => alloc xs L | none => _) _
          rw [g]
          exact .alloc hb t
        | scr _ g t =>
          show RvR L S (match getL L _ with | some xs => alloc xs L | none => _) _
          rw [g]
          exact .alloc hb t
        | _ => trivial
      | tuple =>
        cases r with
        | tup t => exact .mk rfl (.tup t)
        | lst _ _ g t =>
          show RvR L S (match getL L _ with | some xs => R.ok (.tup xs) L | none => _) _
          rw [g]
          exact .mk rfl (.tup t)
        | scr _ g t =>
          show RvR L S (match getL L _ with | some xs => R.ok (.tup xs) L | none => _) _
          rw [g]
          exact .mk rfl (.tup t)
        | _ => trivial
      | sorted =>
        cases r with
        | lst _ _ g t =>
          show RvR L S (match (getL L _).bind intsOf with | some ns => alloc ((up ns).map D.int) L | none => .bad) (sortP (intsP _) false)
          rw [g, ← t.ints]
          exact sort_ok hb _ false
        | _ => trivial
      | sortedR =>
        cases r with
        | lst _ _ g t =>
          show RvR L S (match (getL L _).bind intsOf with | some ns => alloc ((up ns).reverse.map D.int) L | none => .bad) (sortP (intsP _) true)
          rw [g, ← t.ints]
          exact sort_ok hb _ true
        | _ => trivial
      | _ => cases r <;> trivial
    | cons r2 t2 =>
      cases r with
      | int i =>
        cases r2 with
        | int j =>
          cases t2 with
          | nil =>
            cases b with
            | max => exact .mk rfl (.int _)
            | min => exact .mk rfl (.int _)
            | _ => trivial
          | cons _ _ =>
            rw [biP_bad (by simp) (by simp)]
            trivial
        | _ =>
          rw [biP_bad (by simp) (by simp)]
          trivial
      | _ =>
        rw [biP_bad (by simp) (by simp)]
        trivial
theorem tyP_ok {x : D} {X : Dv} (rx : Rel L S x X) (t : Ty) : RvR L S (tyop x t L) (tyP X t) := by
  cases rx with
  | non => exact .mk rfl (.bl _)
  | bl b => exact .mk rfl (.bl _)
  | int b => exact .mk rfl (.bl _)
  | str b => exact .mk rfl (.bl _)
  | tup b => exact .mk rfl (.bl _)
  | lst _ _ g _ =>
    show RvR L S (match getL L _ with | some xs => _ | none => _) _
    rw [g]
    exact .mk rfl (.bl _)
  | scr _ g _ =>
    show RvR L S (match getL L _ with | some xs => _ | none => _) _
    rw [g]
    exact .mk rfl (.bl _)
  | _ => trivial
theorem rngP_ok {ds : List D} {ps : List Dv} (t : Rels L S ds ps) : RvR L S (rngop ds L) (rngP ps) := by
  cases t with
  | nil => trivial
  | cons r t =>
    cases t with
    | nil =>
      cases r with
      | int j =>
        show RvR L S (if _ then _ else _) (if _ then _ else _)
        split
        · exact .mk rfl (.tup (Rels.steps _ _ _))
        · trivial
      | _ => trivial
    | cons r2 t =>
      cases t with
      | nil =>
        cases r with
        | int j =>
          cases r2 with
          | int i =>
            show RvR L S (if _ then _ else _) (if _ then _ else _)
            split
            · exact .mk rfl (.tup (Rels.steps _ _ _))
            · trivial
          | _ => trivial
        | _ => trivial
      | cons r3 t =>
        cases t with
        | nil =>
          cases r with
          | int j =>
            cases r2 with
            | int i =>
              cases r3 with
              | int k =>
                show RvR L S (if _ then _ else _) (if _ then _ else _)
                split
                · exact .mk rfl (.tup (Rels.steps _ _ _))
                · trivial
              | _ => trivial
            | _ => trivial
          | _ => trivial
        | cons _ _ =>
          cases r with
          | int j =>
            cases r2 with
            | int i => cases r3 <;> trivial
            | _ => trivial
          | _ => trivial
theorem revP_ok {d : D} {v : Dv} (r : RelT L S b d v) : RvR L S (revop d L) (revP v) := by
  cases v with
  | tup ps =>
    cases r with
    | tup t => exact .mk rfl (.tup t.rev)
  | _ => trivial
theorem chars_ok : ∀ (cs : List Int), True := fun _ => trivial
theorem items_ok {d : D} {v : Dv} {ps : List Dv} (r : Rel L S d v) (h : itemsP v = some ps) : ∃ w ds, items d L = some (w, ds) ∧ Rels L S ds ps ∧ (∀ n, w = some n → S n ∧ getL L n = some ds) := by
  cases r with
  | tup t =>
    cases h
    exact ⟨none, _, rfl, t, fun n h => by cases h⟩
  | lst a b g t =>
    cases h
    refine ⟨some _, _, ?_, t, fun n h => by cases h; exact ⟨b, g⟩⟩
    show (getL L _).map _ = _
    rw [g]
    rfl
  | scr b g t =>
    cases h
    refine ⟨some _, _, ?_, t, fun n h => by cases h; exact ⟨b, g⟩⟩
    show (getL L _).map _ = _
    rw [g]
    rfl
  | str z =>
    cases h
    refine ⟨none, _, rfl, ?_, fun n h => by cases h⟩
    generalize z.cps.toList = cs
    induction cs with
    | nil => exact .nil
    | cons c cs ih => exact .cons (.str _) ih
  | _ => cases h
end
end FP

/-! FP's expressions tell what MP's do. -/
namespace FP
open PySem MP
/-- the names that are read stand for their values; own lists count as frozen meanwhile -/
def EnvR (L : Hd) (S : Nat → Prop) (vs : List Nat) (ρ : MP.Env) (σ : Ev) : Prop := ∀ i ∈ vs, match σ[i]? with
  | some (some v) => ∃ d, ρ[i]? = some (some d) ∧ Rel L S d (frz v)
  | _ => True
def FnR (Φ : Str → List D → Hd → R D) (Ψ : Str → List Dv → Rv Dv) : Prop := ∀ f L S ds ps, Bd L S → 1 ≤ L.length → Rels L S ds ps → RvR L S (Φ f ds L) (Ψ f ps)
theorem EnvR.mono {L : Hd} {S S' : Nat → Prop} {J : Hd} {vs : List Nat} {ρ : MP.Env} {σ : Ev} (hb : Bd L S) (e : Ext L S J S') (h : EnvR L S vs ρ σ) : EnvR (L ++ J) S' vs ρ σ := fun i hi => by
  have := h i hi
  split
  · rename_i v hv
    rw [hv] at this
    obtain ⟨d, h1, h2⟩ := this
    exact ⟨d, h1, e.rel hb h2⟩
  · trivial
theorem EnvR.sub {L : Hd} {S : Nat → Prop} {vs ws : List Nat} {ρ : MP.Env} {σ : Ev} (h : EnvR L S vs ρ σ) (hs : ∀ i ∈ ws, i ∈ vs) : EnvR L S ws ρ σ := fun i hi => h i (hs i hi)
theorem EnvR.set {L : Hd} {S : Nat → Prop} {vs : List Nat} {ρ : MP.Env} {σ : Ev} {s : Nat} {d : D} {v : Dv} (h : EnvR L S vs ρ σ) (hl : ρ.length = σ.length) (r : Rel L S d v) : EnvR L S vs (ρ.set s (some d)) (σ.set s (some v)) := fun i hi => by
  have := h i hi
  rw [List.getElem?_set, List.getElem?_set]
  by_cases hs : s = i
  · subst hs
    rw [if_pos rfl, if_pos rfl, hl]
    split
    · rename_i w hw
      split at hw
      · rename_i hlt
        cases hw
        rw [if_pos hlt]
        refine ⟨d, rfl, ?_⟩
        cases r with
        | non => exact .non
        | bl b => exact .bl b
        | int i => exact .int i
        | str x => exact .str x
        | fn x => exact .fn x
        | exc x => exact .exc x
        | tup t => exact .tup t
        | lst a b c e => exact .lst a b c e
        | scr b c e => exact .scr b c e
      · cases hw
    · trivial
  · rw [if_neg hs, if_neg hs]
    exact this
theorem isNon_eq {L : Hd} {S : Nat → Prop} {b : Nat} {d : D} {v : Dv} (r : RelT L S b d v) : MP.isNon d = isNonP v := by
  cases v with
  | own ps =>
    obtain ⟨n, ds, rfl, _⟩ := r
    rfl
  | _ => cases r <;> rfl
/-- a later heap -/
def Lat (L : Hd) (S : Nat → Prop) (L' : Hd) (S' : Nat → Prop) : Prop := ∃ J, L' = L ++ J ∧ Ext L S J S'
theorem Lat.refl {L : Hd} {S : Nat → Prop} : Lat L S L S := ⟨[], by rw [List.append_nil], .refl⟩
theorem Lat.trans {L L1 L2 : Hd} {S S1 S2 : Nat → Prop} (a : Lat L S L1 S1) (b : Lat L1 S1 L2 S2) : Lat L S L2 S2 := by
  obtain ⟨J, rfl, x⟩ := a
  obtain ⟨K, rfl, y⟩ := b
  exact ⟨J ++ K, by rw [List.append_assoc], x.trans y⟩
theorem Lat.of {L J : Hd} {S S' : Nat → Prop} (x : Ext L S J S') : Lat L S (L ++ J) S' := ⟨J, rfl, x⟩
open Classical in
theorem lc_ok {c e : D → Hd → R D} {c' e' : Dv → Rv Dv} {w : Option Nat} {all : List D} :
    ∀ {xs : List D} {ps : List Dv} {L : Hd} {S : Nat → Prop}, Bd L S → 1 ≤ L.length → Rels L S xs ps → (∀ n, w = some n → S n ∧ getL L n = some all) →
    (∀ L' S', Lat L S L' S' → Bd L' S' → 1 ≤ L'.length → ∀ x p, Rel L' S' x p → RvR L' S' (c x L') (c' p)) →
    (∀ L' S', Lat L S L' S' → Bd L' S' → 1 ≤ L'.length → ∀ x p, Rel L' S' x p → RvR L' S' (e x L') (e' p)) →
    ∀ qs, lcP c' e' ps = .ok qs → ∃ ds J S', lcGo c e w all xs L = .ok ds (L ++ J) ∧ Ext L S J S' ∧ Rels (L ++ J) S' ds qs
  | [], _, L, S, hb, h1, t, hw, hc, he, qs, h => by
    cases t
    cases h
    refine ⟨[], [], S, ?_, .refl, .nil⟩
    have : seen w all L := by
      unfold seen
      cases w with
      | none => trivial
      | some n => exact (hw n rfl).2
    show (if seen w all L then R.ok [] L else .bad) = _
    rw [if_pos this, List.append_nil]
  | x :: xs, _, L, S, hb, h1, .cons (p := p) (ps := ps) r t, hw, hc, he, qs, h => by
    have hs : seen w all L := by
      unfold seen
      cases w with
      | none => trivial
      | some n => exact (hw n rfl).2
    unfold lcGo
    rw [if_pos hs]
    unfold lcP at h
    have hc0 := hc L S .refl hb h1 x p r
    cases qc : c' p with
    | bad =>
      rw [qc] at h
      cases h
    | exc _ =>
      rw [qc] at h
      cases h
    | ok v =>
      rw [qc] at h hc0
      obtain ⟨d, J, S1, e1, x1, r1⟩ := hc0
      rw [e1]
      cases v with
      | bl b =>
        cases r1
        have hb1 := x1.bd hb
        have hl1 : 1 ≤ (L ++ J).length := by rw [List.length_append]; omega
        have hw1 : ∀ n, w = some n → S1 n ∧ getL (L ++ J) n = some all := fun n hn => ⟨x1.up n (hw n hn).1, getL_app (hw n hn).2⟩
        cases b with
        | false =>
          have ih := lc_ok (L := L ++ J) (S := S1) hb1 hl1 (x1.rels hb t) hw1 (fun L' S' l => hc L' S' ((Lat.of x1).trans l)) (fun L' S' l => he L' S' ((Lat.of x1).trans l)) qs h
          obtain ⟨ds, K, S2, e2, x2, r2⟩ := ih
          exact ⟨ds, J ++ K, S2, by rw [← List.append_assoc]; exact e2, x1.trans x2, by rw [← List.append_assoc]; exact r2⟩
        | true =>
          have he0 := he (L ++ J) S1 (Lat.of x1) hb1 hl1 x p (x1.rel hb r)
          cases qe : e' p with
          | bad =>
            rw [qe] at h
            cases h
          | exc _ =>
            rw [qe] at h
            cases h
          | ok u =>
            rw [qe] at h he0
            obtain ⟨y, K, S2, e2, x2, r2⟩ := he0
            obtain ⟨S3, x3, m3, r3⟩ := r2.frz x2 hl1
            have hb3 := x3.bd hb1
            have hl3 : 1 ≤ (L ++ J ++ K).length := by rw [List.length_append]; omega
            have hw3 : ∀ n, w = some n → S3 n ∧ getL (L ++ J ++ K) n = some all := fun n hn => ⟨x3.up n (hw1 n hn).1, getL_app (hw1 n hn).2⟩
            cases ql : lcP c' e' ps with
            | bad =>
              rw [ql] at h
              cases h
            | exc _ =>
              rw [ql] at h
              cases h
            | ok qs' =>
              rw [ql] at h
              cases h
              have x13 := (Lat.of x1).trans (Lat.of x3)
              have ih := lc_ok (L := L ++ J ++ K) (S := S3) hb3 hl3 (x3.rels hb1 (x1.rels hb t)) hw3 (fun L' S' l => hc L' S' (x13.trans l)) (fun L' S' l => he L' S' (x13.trans l)) qs' ql
              obtain ⟨ds, M, S4, e4, x4, r4⟩ := ih
              obtain ⟨N, hN, xN⟩ := x13.trans (Lat.of x4)
              refine ⟨y :: ds, N, S4, ?_, xN, ?_⟩
              · show (match e x (L ++ J) with | .ok y L2 => (match lcGo c e w all xs L2 with | .ok ys L3 => R.ok (y :: ys) L3 | _ => .bad) | _ => .bad) = _
                rw [e2]
                show (match lcGo c e w all xs (L ++ J ++ K) with | .ok ys L3 => R.ok (y :: ys) L3 | _ => .bad) = _
                rw [e4, ← hN]
              · rw [← hN]
                exact .cons (x4.rel hb3 r3) r4
      | _ =>
        simp at h
theorem evP_ok {Φ : Str → List D → Hd → R D} {Ψ : Str → List Dv → Rv Dv} (hf : FnR Φ Ψ) : ∀ (e : Ex) {L : Hd} {S : Nat → Prop} {ρ : MP.Env} {σ : Ev}, Bd L S → 1 ≤ L.length → ρ.length = σ.length → EnvR L S (vars e) ρ σ → RvR L S (evE Φ e ρ L) (evP Ψ e σ)
  | .bad, L, S, ρ, σ, hb, h1, hl, h => trivial
  | .non, L, S, ρ, σ, hb, h1, hl, h => .mk rfl .non
  | .bl b, L, S, ρ, σ, hb, h1, hl, h => .mk rfl (.bl b)
  | .int b, L, S, ρ, σ, hb, h1, hl, h => .mk rfl (.int b)
  | .str b, L, S, ρ, σ, hb, h1, hl, h => .mk rfl (.str b)
  | .f b, L, S, ρ, σ, hb, h1, hl, h => .mk rfl (.fn b)
  | .nil, L, S, ρ, σ, hb, h1, hl, h => .mk rfl (.tup .nil)
  | .absent, L, S, ρ, σ, hb, h1, hl, h => .mk rfl (.exc _)
  | .v i, L, S, ρ, σ, hb, h1, hl, h => by
    have := h i (by simp [vars])
    show RvR L S (getV ρ[i]? L) ((getP σ[i]?).bind fun d => .ok (frz d))
    cases q : σ[i]? with
    | none => trivial
    | some o =>
      cases o with
      | none => trivial
      | some v =>
        rw [q] at this
        obtain ⟨d, h2, r⟩ := this
        rw [h2]
        cases v with
        | exc c => trivial
        | own ps =>
          cases r with
          | lst a b c e => exact .mk rfl (.lst a b c e)
        | non => cases r; exact .mk rfl .non
        | bl b => cases r; exact .mk rfl (.bl b)
        | int b => cases r; exact .mk rfl (.int b)
        | str b => cases r; exact .mk rfl (.str b)
        | fn b => cases r; exact .mk rfl (.fn b)
        | tup b => cases r with
          | tup t => exact .mk rfl (.tup t)
        | lst b => cases r with
          | lst a b c e => exact .mk rfl (.lst a b c e)
        | scr b => cases r with
          | scr b c e => exact .mk rfl (.scr b c e)
  | .k x e, L, S, ρ, σ, hb, h1, hl, h => evP_ok hf e hb h1 rfl (fun i _ => by simp)
  | .cons a b, L, S, ρ, σ, hb, h1, hl, h => by
    refine (evP_ok hf a hb h1 hl (h.sub fun i hi => by simp [vars, hi])).seqF hb h1 fun d v J S1 x1 b1 l1 r1 => ?_
    refine (evP_ok hf b b1 l1 hl ((h.mono hb x1).sub fun i hi => by simp [vars, hi])).seq b1 l1 fun d2 v2 K S2 x2 b2 l2 r2 => ?_
    cases v2 with
    | tup qs =>
      cases r2 with
      | tup t => exact .mk rfl (.tup (.cons (x2.rel b1 r1) t))
    | _ => trivial
  | .tup a, L, S, ρ, σ, hb, h1, hl, h => by
    refine (evP_ok hf a hb h1 hl h).seq hb h1 fun d v J S1 x1 b1 l1 r1 => ?_
    cases v with
    | tup qs =>
      cases r1 with
      | tup t =>
        show RvR _ S1 (if _ then _ else _) (if _ then _ else _)
        rw [t.length]
        split
        · exact .mk rfl (.tup t)
        · trivial
    | _ => trivial
  | .lst a, L, S, ρ, σ, hb, h1, hl, h => by
    refine (evP_ok hf a hb h1 hl h).seq hb h1 fun d v J S1 x1 b1 l1 r1 => ?_
    cases v with
    | tup qs =>
      cases r1 with
      | tup t => exact .alloc b1 t
    | _ => trivial
  | .bin o a b, L, S, ρ, σ, hb, h1, hl, h => by
    refine (evP_ok hf a hb h1 hl (h.sub fun i hi => by simp [vars, hi])).seqF hb h1 fun d v J S1 x1 b1 l1 r1 => ?_
    refine (evP_ok hf b b1 l1 hl ((h.mono hb x1).sub fun i hi => by simp [vars, hi])).seqF b1 l1 fun d2 v2 K S2 x2 b2 l2 r2 => ?_
    exact binP_ok b2 o (x2.rel b1 r1) r2
  | .neg a, L, S, ρ, σ, hb, h1, hl, h => by
    refine (evP_ok hf a hb h1 hl h).seq hb h1 fun d v J S1 x1 b1 l1 r1 => ?_
    cases v with
    | int i =>
      cases r1
      exact .mk rfl (.int _)
    | _ => trivial
  | .not a, L, S, ρ, σ, hb, h1, hl, h => by
    refine (evP_ok hf a hb h1 hl h).seq hb h1 fun d v J S1 x1 b1 l1 r1 => ?_
    cases v with
    | bl i =>
      cases r1
      cases i <;> exact .mk rfl (.bl _)
    | _ => trivial
  | .and a b, L, S, ρ, σ, hb, h1, hl, h => by
    refine (evP_ok hf a hb h1 hl (h.sub fun i hi => by simp [vars, hi])).seq hb h1 fun d v J S1 x1 b1 l1 r1 => ?_
    cases v with
    | bl i =>
      cases r1
      cases i with
      | true => exact evP_ok hf b b1 l1 hl ((h.mono hb x1).sub fun i hi => by simp [vars, hi])
      | false => exact .mk rfl (.bl _)
    | _ => trivial
  | .or a b, L, S, ρ, σ, hb, h1, hl, h => by
    refine (evP_ok hf a hb h1 hl (h.sub fun i hi => by simp [vars, hi])).seq hb h1 fun d v J S1 x1 b1 l1 r1 => ?_
    cases v with
    | bl i =>
      cases r1
      cases i with
      | false => exact evP_ok hf b b1 l1 hl ((h.mono hb x1).sub fun i hi => by simp [vars, hi])
      | true => exact .mk rfl (.bl _)
    | _ => trivial
  | .cmp o a b, L, S, ρ, σ, hb, h1, hl, h => by
    refine (evP_ok hf a hb h1 hl (h.sub fun i hi => by simp [vars, hi])).seqF hb h1 fun d v J S1 x1 b1 l1 r1 => ?_
    refine (evP_ok hf b b1 l1 hl ((h.mono hb x1).sub fun i hi => by simp [vars, hi])).seqF b1 l1 fun d2 v2 K S2 x2 b2 l2 r2 => ?_
    exact cmpP_ok o (x2.rel b1 r1) r2
  | .isn a, L, S, ρ, σ, hb, h1, hl, h => by
    rw [x_isn]
    refine (evP_ok hf a hb h1 hl h).seq hb h1 fun d v J S1 x1 b1 l1 r1 => ?_
    rw [isNon_eq r1]
    exact .mk rfl (.bl _)
  | .notn a, L, S, ρ, σ, hb, h1, hl, h => by
    rw [x_notn]
    refine (evP_ok hf a hb h1 hl h).seq hb h1 fun d v J S1 x1 b1 l1 r1 => ?_
    rw [isNon_eq r1]
    exact .mk rfl (.bl _)
  | .ix a i, L, S, ρ, σ, hb, h1, hl, h => by
    refine (evP_ok hf a hb h1 hl (h.sub fun i hi => by simp [vars, hi])).seqF hb h1 fun d v J S1 x1 b1 l1 r1 => ?_
    refine (evP_ok hf i b1 l1 hl ((h.mono hb x1).sub fun i hi => by simp [vars, hi])).seq b1 l1 fun d2 v2 K S2 x2 b2 l2 r2 => ?_
    exact ixP_ok (x2.rel b1 r1) r2
  | .sl a lo hi, L, S, ρ, σ, hb, h1, hl, h => by
    refine (evP_ok hf a hb h1 hl (h.sub fun i hi => by simp [vars, hi])).seqF hb h1 fun d v J S1 x1 b1 l1 r1 => ?_
    have h2 := (h.mono hb x1)
    refine (evP_ok hf lo b1 l1 hl (h2.sub fun i hi => by simp [vars, hi])).seq b1 l1 fun d2 v2 K S2 x2 b2 l2 r2 => ?_
    show RvR _ S2 (onPart d2 _) (onPartP v2 _)
    unfold onPartP onPart
    cases q : partP v2 with
    | none => trivial
    | some lo' =>
      rw [part_eq r2 _ q]
      refine (evP_ok hf hi b2 l2 hl ((h2.mono b1 x2).sub fun i hi => by simp [vars, hi])).seq b2 l2 fun d3 v3 M S3 x3 b3 l3 r3 => ?_
      show RvR _ S3 (onPart d3 _) (onPartP v3 _)
      unfold onPartP onPart
      cases q3 : partP v3 with
      | none => trivial
      | some hi' =>
        rw [part_eq r3 _ q3]
        exact slP_ok b3 lo' hi' (x3.rel b2 (x2.rel b1 r1))
  | .call f as, L, S, ρ, σ, hb, h1, hl, h => by
    refine (evP_ok hf as hb h1 hl h).seq hb h1 fun d v J S1 x1 b1 l1 r1 => ?_
    cases v with
    | tup qs =>
      cases r1 with
      | tup t => exact hf f _ _ _ _ b1 l1 t
    | _ => trivial
  | .callv i as, L, S, ρ, σ, hb, h1, hl, h => by
    rw [x_callv]
    show RvR L S (onFn ρ[i]? _) (onFnP σ[i]? _)
    have h0 := h i (by simp [vars])
    cases q : σ[i]? with
    | none => trivial
    | some o =>
      cases o with
      | none => trivial
      | some v =>
        rw [q] at h0
        obtain ⟨d, h2, r⟩ := h0
        rw [h2]
        cases v with
        | fn g =>
          cases r
          refine (evP_ok hf as hb h1 hl (h.sub fun i hi => by simp [vars, hi])).seq hb h1 fun d v J S1 x1 b1 l1 r1 => ?_
          cases v with
          | tup qs =>
            cases r1 with
            | tup t =>
              have := hf g _ _ _ _ b1 l1 t
              show RvR _ S1 (okOnly (Φ g _ (L ++ J))) (okOnlyP (Ψ g qs))
              cases z : Ψ g qs with
              | ok u =>
                rw [z] at this
                obtain ⟨d', K, S2, e2, x2, r2⟩ := this
                exact ⟨d', K, S2, by rw [e2]; rfl, x2, r2⟩
              | _ => trivial
          | _ => trivial
        | _ => trivial
  | .bi b as, L, S, ρ, σ, hb, h1, hl, h => by
    rw [x_bi]
    refine (evP_ok hf as hb h1 hl h).seq hb h1 fun d v J S1 x1 b1 l1 r1 => ?_
    cases v with
    | tup qs =>
      cases r1 with
      | tup t => exact biP_ok b1 b t
    | _ => trivial
  | .isi a t, L, S, ρ, σ, hb, h1, hl, h => by
    refine (evP_ok hf a hb h1 hl h).seqF hb h1 fun d v J S1 x1 b1 l1 r1 => ?_
    exact tyP_ok r1 t
  | .ise i c, L, S, ρ, σ, hb, h1, hl, h => by
    rw [x_ise]
    show RvR L S (onExc ρ[i]? _) (onExcP σ[i]? _)
    have h0 := h i (by simp [vars])
    cases q : σ[i]? with
    | none => trivial
    | some o =>
      cases o with
      | none => trivial
      | some v =>
        rw [q] at h0
        obtain ⟨d, h2, r⟩ := h0
        rw [h2]
        cases v with
        | exc g =>
          cases r
          exact .mk rfl (.bl _)
        | _ => trivial
  | .me m o as, L, S, ρ, σ, hb, h1, hl, h => trivial
  | .tm m o as, L, S, ρ, σ, hb, h1, hl, h => by
    refine (evP_ok hf o hb h1 hl (h.sub fun i hi => by simp [vars, hi])).seqF hb h1 fun d v J S1 x1 b1 l1 r1 => ?_
    cases hs : isStrP (frz v) with
    | false =>
      show RvR _ S1 _ (if false = true then _ else .bad)
      trivial
    | true =>
      have hd : MP.isStr d = true := by
        revert r1 hs
        generalize frz v = w
        intro r1 hs
        cases r1 <;> first | rfl | cases hs
      rw [if_pos hd]
      show RvR _ S1 _ (if true = true then _ else _)
      rw [if_pos rfl]
      refine (evP_ok hf as b1 l1 hl ((h.mono hb x1).sub fun i hi => by simp [vars, hi])).seq b1 l1 fun d2 v2 K S2 x2 b2 l2 r2 => ?_
      cases v2 with
      | tup qs =>
        cases r2 with
        | tup t => exact tmP_ok b2 m (x2.rel b1 r1) t
      | _ => trivial
  | .lc s it c e, L, S, ρ, σ, hb, h1, hl, h => by
    rw [x_lc]
    refine (evP_ok hf it hb h1 hl (h.sub fun i hi => by simp [vars, hi])).seqF hb h1 fun d v J S1 x1 b1 l1 r1 => ?_
    show RvR _ S1 (lcOn (items d (L ++ J)) _) (onItemsP (itemsP (frz v)) .bad _)
    cases q : itemsP (frz v) with
    | none => trivial
    | some ps =>
      obtain ⟨w, ds, e0, t, hw⟩ := items_ok r1 q
      rw [e0]
      show RvR _ S1 ((lcGo (fun x L => evE Φ c (ρ.set s (some x)) L) (fun x L => evE Φ e (ρ.set s (some x)) L) w ds ds (L ++ J)).bind fun ys L => alloc ys L) ((lcP (fun x => evP Ψ c (σ.set s (some x))) (fun x => evP Ψ e (σ.set s (some x))) ps).bind allocP)
      have h2 := h.mono hb x1
      have hl2 : ∀ (d : D) (v : Dv), (ρ.set s (some d)).length = (σ.set s (some v)).length := fun d v => by rw [List.length_set, List.length_set, hl]
      cases z : lcP (fun x => evP Ψ c (σ.set s (some x))) (fun x => evP Ψ e (σ.set s (some x))) ps with
      | bad => trivial
      | exc c' =>
        exfalso
        have : ∀ (f g : Dv → Rv Dv) (ps : List Dv) (c' : Str), lcP f g ps ≠ .exc c' := by
          intro f g ps c'
          induction ps with
          | nil => intro h; cases h
          | cons p ps ih =>
            intro h
            unfold lcP at h
            repeat' split at h
            all_goals first | exact ih h | cases h
        exact this _ _ _ _ z
      | ok qs =>
        have env : ∀ (L' : Hd) (S' : Nat → Prop), Lat (L ++ J) S1 L' S' → EnvR L' S' (vars (.lc s it c e)) ρ σ := fun L' S' l => by
          obtain ⟨K, rfl, x⟩ := l
          exact h2.mono b1 x
        obtain ⟨es, K, S2, e2, x2, r2⟩ := lc_ok (c := fun x L => evE Φ c (ρ.set s (some x)) L) (e := fun x L => evE Φ e (ρ.set s (some x)) L) b1 l1 t hw (fun L' S' l b2 l2 x p hr => evP_ok hf c b2 l2 (hl2 x p) (((env L' S' l).set hl hr).sub fun i hi => by simp [vars, hi])) (fun L' S' l b2 l2 x p hr => evP_ok hf e b2 l2 (hl2 x p) (((env L' S' l).set hl hr).sub fun i hi => by simp [vars, hi])) qs z
        rw [e2]
        show RvR _ S1 (alloc es (L ++ J ++ K)) (allocP qs)
        have := RvR.alloc (x2.bd b1) r2
        cases a : allocP qs with
        | bad => trivial
        | exc c' =>
          unfold allocP at a
          split at a <;> cases a
        | ok u =>
          rw [a] at this
          obtain ⟨d', M, S3, e3, x3, r3⟩ := this
          refine ⟨d', K ++ M, S3, by rw [e3, List.append_assoc], x2.trans x3, ?_⟩
          rw [← List.append_assoc]
          cases u with
          | own ps =>
            obtain ⟨n, ds, a, b, c⟩ := r3
            exact ⟨n, ds, a, by rw [List.length_append] at b; omega, c⟩
          | _ => exact r3
  | .rng as, L, S, ρ, σ, hb, h1, hl, h => by
    rw [x_rng]
    refine (evP_ok hf as hb h1 hl h).seq hb h1 fun d v J S1 x1 b1 l1 r1 => ?_
    cases v with
    | tup qs =>
      cases r1 with
      | tup t => exact rngP_ok t
    | _ => trivial
  | .rev a, L, S, ρ, σ, hb, h1, hl, h => by
    rw [x_rev]
    refine (evP_ok hf a hb h1 hl h).seq hb h1 fun d v J S1 x1 b1 l1 r1 => ?_
    exact revP_ok r1
end FP

/-! FP's statements tell what MP's do. -/
namespace FP
open PySem MP
structure Frm (b : Nat) (L : Hd) (S : Nat → Prop) (ρ : MP.Env) (σ : Ev) : Prop where
  len : ρ.length = σ.length
  bd : Bd L S
  bb : b ≤ L.length
  b1 : 1 ≤ b
  sl : ∀ (i : Nat) (v : Dv), σ[i]? = some (some v) → ∃ d, ρ[i]? = some (some d) ∧ RelT L S b d v
  dj : ∀ (i j : Nat) (ps qs : List Dv) (n : Nat), i ≠ j → σ[i]? = some (some (.own ps)) → σ[j]? = some (some (.own qs)) → ρ[i]? = some (some (.ref n)) → ρ[j]? = some (some (.ref n)) → False
structure Step (b : Nat) (L : Hd) (S : Nat → Prop) (L' : Hd) (S' : Nat → Prop) : Prop where
  len : L.length ≤ L'.length
  old : ∀ n, n < b → L'[n]? = L[n]?
  fro : ∀ n, S n → L'[n]? = L[n]?
  up : ∀ n, S n → S' n
  nw : ∀ n, S' n → S n ∨ b ≤ n
  bd : Bd L' S'
theorem Step.refl {b : Nat} {L : Hd} {S : Nat → Prop} (h : Bd L S) : Step b L S L S := ⟨Nat.le_refl _, fun _ _ => rfl, fun _ _ => rfl, fun _ h => h, fun _ h => .inl h, h⟩
theorem Step.trans {b : Nat} {L L1 L2 : Hd} {S S1 S2 : Nat → Prop} (x : Step b L S L1 S1) (y : Step b L1 S1 L2 S2) : Step b L S L2 S2 :=
  ⟨Nat.le_trans x.len y.len, fun n h => (y.old n h).trans (x.old n h), fun n h => (y.fro n (x.up n h)).trans (x.fro n h), fun n h => y.up n (x.up n h), fun n h => by
    rcases y.nw n h with a | a
    · exact x.nw n a
    · exact .inr a, y.bd⟩
theorem Step.rel {b : Nat} {L L' : Hd} {S S' : Nat → Prop} (x : Step b L S L' S') {d : D} {v : Dv} (r : Rel L S d v) : Rel L' S' d v := r.mono x.up x.fro
theorem Step.rels {b : Nat} {L L' : Hd} {S S' : Nat → Prop} (x : Step b L S L' S') {d : List D} {v : List Dv} (r : Rels L S d v) : Rels L' S' d v := r.mono x.up x.fro
theorem not_own {v : Dv} (h : ∀ ps, v ≠ .own ps) {L : Hd} {S : Nat → Prop} {b : Nat} {d : D} : RelT L S b d v = Rel L S d v := by
  cases v with
  | own ps => exact absurd rfl (h ps)
  | _ => rfl
/-- more lists stand -/
theorem Frm.app {b : Nat} {L J : Hd} {S : Nat → Prop} {ρ : MP.Env} {σ : Ev} (F : Frm b L S ρ σ) : Frm b (L ++ J) S ρ σ := by
  refine ⟨F.len, fun n h => ?_, ?_, F.b1, fun i v h => ?_, F.dj⟩
  · have := F.bd n h
    rw [List.length_append]
    omega
  · have := F.bb
    rw [List.length_append]
    omega
  · obtain ⟨d, h1, r⟩ := F.sl i v h
    refine ⟨d, h1, ?_⟩
    cases v with
    | own ps =>
      obtain ⟨n, ds, a, b, c, e, f⟩ := r
      exact ⟨n, ds, a, b, c, getL_app e, f.mono (fun _ h => h) fun n h => get_app (F.bd n h)⟩
    | _ => exact Rel.mono (fun _ h => h) (fun n h => get_app (F.bd n h)) r
theorem Frm.stepApp {b : Nat} {L J : Hd} {S : Nat → Prop} {ρ : MP.Env} {σ : Ev} (F : Frm b L S ρ σ) : Step b L S (L ++ J) S :=
  ⟨by rw [List.length_append]; omega, fun n h => get_app (by have := F.bb; omega), fun n h => get_app (F.bd n h), fun _ h => h, fun _ h => .inl h, F.app.bd⟩
/-- an own list stands below the heap's end -/
theorem Frm.lt {b : Nat} {L : Hd} {S : Nat → Prop} {ρ : MP.Env} {σ : Ev} (F : Frm b L S ρ σ) {i n : Nat} {ps : List Dv} (h : σ[i]? = some (some (.own ps))) (h2 : ρ[i]? = some (some (.ref n))) : n < L.length := by
  obtain ⟨d, h1, m, ds, rfl, _, _, g, _⟩ := F.sl i _ h
  rw [h1] at h2
  cases h2
  exact getL_lt g
theorem frzAt_get (i j : Nat) (σ : Ev) : (frzAt i σ)[j]? = if j = i then (σ[j]?).map (Option.map frz) else σ[j]? := by
  have hn : ∀ o, σ[i]? = o → (∀ d, o ≠ some (some d)) → frzAt i σ = σ ∧ (σ[i]?).map (Option.map frz) = σ[i]? := fun o h1 h2 => by
    unfold frzAt
    rw [h1]
    cases o with
    | none => exact ⟨rfl, rfl⟩
    | some o =>
      cases o with
      | none => exact ⟨rfl, rfl⟩
      | some d => exact absurd rfl (h2 d)
  by_cases hd : ∃ d, σ[i]? = some (some d)
  · obtain ⟨d, q⟩ := hd
    have e : frzAt i σ = σ.set i (some (frz d)) := by
      unfold frzAt
      rw [q]
    rw [e, List.getElem?_set]
    by_cases h : i = j
    · subst h
      have hlt : i < σ.length := by
        by_cases hn : i < σ.length
        · exact hn
        · rw [List.getElem?_eq_none (by omega)] at q
          cases q
      rw [if_pos rfl, if_pos hlt, if_pos rfl, q]
      rfl
    · rw [if_neg h, if_neg (fun e => h e.symm)]
  · obtain ⟨h1, h2⟩ := hn _ rfl fun d h => hd ⟨d, h⟩
    rw [h1]
    split
    · rename_i h
      rw [h]
      exact h2.symm
    · rfl
theorem frz_frz (v : Dv) : frz (frz v) = frz v := by cases v <;> rfl
theorem frzs_get (j : Nat) : ∀ (vs : List Nat) (σ : Ev), (frzs vs σ)[j]? = if j ∈ vs then (σ[j]?).map (Option.map frz) else σ[j]?
  | [], σ => by simp [frzs]
  | i :: vs, σ => by
    unfold frzs
    rw [frzs_get j vs, frzAt_get]
    by_cases h1 : j ∈ vs
    · rw [if_pos h1, if_pos (List.mem_cons_of_mem _ h1)]
      split
      · rename_i h
        cases σ[j]? with
        | none => rfl
        | some o => cases o with
          | none => rfl
          | some d =>
            show some (some (frz (frz d))) = some (some (frz d))
            rw [frz_frz]
      · rfl
    · rw [if_neg h1]
      by_cases h2 : j = i
      · rw [if_pos h2, if_pos (by rw [h2]; exact List.mem_cons_self)]
      · rw [if_neg h2, if_neg (by simp [h1, h2])]
theorem frzAt_len (i : Nat) (σ : Ev) : (frzAt i σ).length = σ.length := by
  unfold frzAt
  split
  · rw [List.length_set]
  · rfl
theorem frzs_len : ∀ (vs : List Nat) (σ : Ev), (frzs vs σ).length = σ.length
  | [], _ => rfl
  | i :: vs, σ => by
    unfold frzs
    rw [frzs_len vs, frzAt_len]
theorem frzIf_own {fl : Bool} {vs : List Nat} {σ : Ev} {i : Nat} {ps : List Dv} (h : (frzIf fl vs σ)[i]? = some (some (.own ps))) : σ[i]? = some (some (.own ps)) ∧ (fl = true → i ∉ vs) := by
  unfold frzIf at h
  split at h
  · rw [frzs_get] at h
    split at h
    · rename_i hi
      exfalso
      cases q : σ[i]? with
      | none => rw [q] at h; cases h
      | some o =>
        rw [q] at h
        cases o with
        | none => cases h
        | some d =>
          cases d <;> cases h
    · exact ⟨h, fun _ => by assumption⟩
  · rename_i hf
    exact ⟨h, fun z => absurd z hf⟩
/-- an expression, in a frame -/
theorem Frm.ev {Φ : Str → List D → Hd → R D} {Ψ : Str → List Dv → Rv Dv} (hf : FnR Φ Ψ) {b : Nat} {L : Hd} {S : Nat → Prop} {ρ : MP.Env} {σ : Ev} (F : Frm b L S ρ σ) (e : Ex) {v : Dv} (hv : evP Ψ e σ = .ok v) (fl : Bool) (hfl : inL v = true → fl = true) :
    ∃ d J S', evE Φ e ρ L = .ok d (L ++ J) ∧ Step b L S (L ++ J) S' ∧ Frm b (L ++ J) S' ρ (frzIf fl (vars e) σ) ∧ RelT (L ++ J) S' L.length d v := by
  have bS1 : Bd L fun n => S n ∨ ∃ j ∈ vars e, ∃ ps, σ[j]? = some (some (.own ps)) ∧ ρ[j]? = some (some (.ref n)) := fun n h => by
    rcases h with h | ⟨j, _, ps, h1, h2⟩
    · exact F.bd n h
    · exact F.lt h1 h2
  have E1 : EnvR L (fun n => S n ∨ ∃ j ∈ vars e, ∃ ps, σ[j]? = some (some (.own ps)) ∧ ρ[j]? = some (some (.ref n))) (vars e) ρ σ := fun i hi => by
    split
    · rename_i v hv
      obtain ⟨d, h1, r⟩ := F.sl i v hv
      refine ⟨d, h1, ?_⟩
      cases v with
      | own ps =>
        obtain ⟨n, ds, rfl, hb, hn, hg, hr⟩ := r
        exact .lst (by have := F.b1; omega) (.inr ⟨i, hi, ps, hv, h1⟩) hg (hr.mono (fun _ h => .inl h) fun _ _ => rfl)
      | _ => exact Rel.mono (fun _ h => .inl h) (fun _ _ => rfl) r
    · trivial
  have := evP_ok hf e bS1 (by have := F.b1; have := F.bb; omega) F.len E1
  rw [hv] at this
  obtain ⟨d, J, S', e1, x, r⟩ := this
  cases fl with
  | true =>
    have bd' := x.bd bS1
    refine ⟨d, J, S', e1, ⟨by rw [List.length_append]; omega, fun n h => get_app (by have := F.bb; omega), fun n h => get_app (F.bd n h), fun n h => x.up n (.inl h), fun n h => ?_, bd'⟩, ⟨?_, bd', ?_, F.b1, fun i w h => ?_, fun i j ps qs n hij h1 h2 => F.dj i j ps qs n hij (frzIf_own h1).1 (frzIf_own h2).1⟩, r⟩
    · rcases x.nw n h with (h | ⟨j, _, ps, h1, h2⟩) | h
      · exact .inl h
      · obtain ⟨d, h3, m, ds, rfl, hb, _⟩ := F.sl j _ h1
        rw [h3] at h2
        cases h2
        exact .inr hb
      · have := F.bb
        exact .inr (by omega)
    · show _ = (frzs _ _).length
      rw [frzs_len]
      exact F.len
    · have := F.bb
      rw [List.length_append]
      omega
    · have h' : (frzs (vars e) σ)[i]? = some (some w) := h
      rw [frzs_get] at h'
      split at h'
      · rename_i hi
        have hE := E1.mono bS1 x i hi
        cases q : σ[i]? with
        | none => rw [q] at h'; cases h'
        | some o =>
          cases o with
          | none => rw [q] at h'; cases h'
          | some u =>
            rw [q] at h' hE
            cases h'
            obtain ⟨d', h1, r'⟩ := hE
            exact ⟨d', h1, .of r'⟩
      · rename_i hi
        obtain ⟨d', h1, r'⟩ := F.sl i w h'
        refine ⟨d', h1, ?_⟩
        cases w with
        | own ps =>
          obtain ⟨n, ds, rfl, hb, hn, hg, hr⟩ := r'
          refine ⟨n, ds, rfl, hb, fun hs => ?_, getL_app hg, hr.mono (fun n h => x.up n (.inl h)) fun n h => get_app (F.bd n h)⟩
          rcases x.nw n hs with (hs | ⟨j, hj, qs, h2, h3⟩) | hs
          · exact hn hs
          · exact F.dj i j ps qs n (fun z => hi (z ▸ hj)) h' h2 h1 h3
          · have := getL_lt hg
            omega
        | _ => exact Rel.mono (fun n h => x.up n (.inl h)) (fun n h => get_app (F.bd n h)) r'
  | false =>
    refine ⟨d, J, S, e1, F.stepApp, F.app, ?_⟩
    have hv : inL v = false := by
      cases q : inL v with
      | false => rfl
      | true => exact absurd (hfl q) (by simp)
    cases v with
    | own ps =>
      obtain ⟨n, ds, rfl, hb, hn, hg, hr⟩ := r
      exact ⟨n, ds, rfl, hb, fun hs => by have := F.bd n hs; omega, hg, Rels.free FUEL hv hr⟩
    | _ => exact Rel.free FUEL hv r
theorem Frm.evX {Φ : Str → List D → Hd → R D} {Ψ : Str → List Dv → Rv Dv} (hf : FnR Φ Ψ) {b : Nat} {L : Hd} {S : Nat → Prop} {ρ : MP.Env} {σ : Ev} (F : Frm b L S ρ σ) (e : Ex) {c : Str} (hv : evP Ψ e σ = .exc c) : ∃ J, evE Φ e ρ L = .exc c (L ++ J) := by
  have bS1 : Bd L fun n => S n ∨ ∃ j ∈ vars e, ∃ ps, σ[j]? = some (some (.own ps)) ∧ ρ[j]? = some (some (.ref n)) := fun n h => by
    rcases h with h | ⟨j, _, ps, h1, h2⟩
    · exact F.bd n h
    · exact F.lt h1 h2
  have E1 : EnvR L (fun n => S n ∨ ∃ j ∈ vars e, ∃ ps, σ[j]? = some (some (.own ps)) ∧ ρ[j]? = some (some (.ref n))) (vars e) ρ σ := fun i hi => by
    split
    · rename_i v hv
      obtain ⟨d, h1, r⟩ := F.sl i v hv
      refine ⟨d, h1, ?_⟩
      cases v with
      | own ps =>
        obtain ⟨n, ds, rfl, hb, hn, hg, hr⟩ := r
        exact .lst (by have := F.b1; omega) (.inr ⟨i, hi, ps, hv, h1⟩) hg (hr.mono (fun _ h => .inl h) fun _ _ => rfl)
      | _ => exact Rel.mono (fun _ h => .inl h) (fun _ _ => rfl) r
    · trivial
  have := evP_ok hf e bS1 (by have := F.b1; have := F.bb; omega) F.len E1
  rw [hv] at this
  exact this
/-- a name gets a value -/
theorem Frm.set {b : Nat} {L : Hd} {S : Nat → Prop} {ρ : MP.Env} {σ : Ev} (F : Frm b L S ρ σ) {i m : Nat} {d : D} {v : Dv} (hb : b ≤ m) (hm : ∀ (j : Nat) (ps : List Dv) (n : Nat), σ[j]? = some (some (.own ps)) → ρ[j]? = some (some (.ref n)) → n < m) (r : RelT L S m d v) : Frm b L S (ρ.set i (some d)) (σ.set i (some v)) := by
  have look : ∀ (j : Nat) (w : Dv), (σ.set i (some v))[j]? = some (some w) → (i = j ∧ i < σ.length ∧ w = v) ∨ (i ≠ j ∧ σ[j]? = some (some w)) := fun j w h => by
    rw [List.getElem?_set] at h
    split at h
    · split at h
      · rename_i h1 h2
        cases h
        exact .inl ⟨h1, h2, rfl⟩
      · cases h
    · rename_i h1
      exact .inr ⟨h1, h⟩
  have lk1 : i < σ.length → (ρ.set i (some d))[i]? = some (some d) := fun h => by rw [List.getElem?_set, if_pos rfl, if_pos (by rw [F.len]; exact h)]
  have lk2 : ∀ j, i ≠ j → (ρ.set i (some d))[j]? = ρ[j]? := fun j h => by rw [List.getElem?_set, if_neg h]
  have new : ∀ ps n, v = .own ps → d = .ref n → m ≤ n := fun ps n h1 h2 => by
    subst h1
    obtain ⟨n', ds, h, hb, _⟩ := r
    rw [h] at h2
    cases h2
    exact hb
  refine ⟨by rw [List.length_set, List.length_set]; exact F.len, F.bd, F.bb, F.b1, fun j w h => ?_, fun j k ps qs n hjk h1 h2 h3 h4 => ?_⟩
  · rcases look j w h with ⟨h1, h2, rfl⟩ | ⟨h1, h2⟩
    · subst h1
      refine ⟨d, lk1 h2, ?_⟩
      cases w with
      | own ps =>
        obtain ⟨n', ds, h, hb', z⟩ := r
        exact ⟨n', ds, h, by omega, z⟩
      | _ => exact r
    · rw [lk2 j h1]
      exact F.sl j w h2
  · rcases look j _ h1 with ⟨e1, e2, e3⟩ | ⟨e1, e2⟩
    · subst e1
      rw [lk1 e2] at h3
      cases h3
      rcases look k _ h2 with ⟨f1, f2, f3⟩ | ⟨f1, f2⟩
      · exact hjk f1
      · rw [lk2 k f1] at h4
        have := hm k qs n f2 h4
        have := new ps n e3.symm rfl
        omega
    · rw [lk2 j e1] at h3
      rcases look k _ h2 with ⟨f1, f2, f3⟩ | ⟨f1, f2⟩
      · subst f1
        rw [lk1 f2] at h4
        cases h4
        have := hm j ps n e2 h3
        have := new qs n f3.symm rfl
        omega
      · rw [lk2 k f1] at h4
        exact F.dj j k ps qs n hjk e2 f2 h3 h4
theorem Frm.setR {b : Nat} {L : Hd} {S : Nat → Prop} {ρ : MP.Env} {σ : Ev} (F : Frm b L S ρ σ) {i : Nat} {d : D} {v : Dv} (r : Rel L S d v) : Frm b L S (ρ.set i (some d)) (σ.set i (some v)) :=
  F.set (m := L.length) F.bb (fun j ps n h1 h2 => F.lt h1 h2) (.of r)
/-- a told list is handed on -/
theorem Frm.hand {b : Nat} {L : Hd} {S : Nat → Prop} {ρ : MP.Env} {σ : Ev} (F : Frm b L S ρ σ) {m : Nat} {d : D} {v : Dv} (hb : b ≤ m) (hm : ∀ (j : Nat) (ps : List Dv) (n : Nat), σ[j]? = some (some (.own ps)) → ρ[j]? = some (some (.ref n)) → n < m) (r : RelT L S m d v) : ∃ S2, Step b L S L S2 ∧ Frm b L S2 ρ σ ∧ Rel L S2 d (frz v) := by
  cases v with
  | own ps =>
    obtain ⟨n, ds, rfl, hb', hn, hg, hr⟩ := r
    have bd' : Bd L fun k => S k ∨ k = n := fun k h => by
      rcases h with h | rfl
      · exact F.bd k h
      · exact getL_lt hg
    refine ⟨fun k => S k ∨ k = n, ⟨Nat.le_refl _, fun _ _ => rfl, fun _ _ => rfl, fun _ h => .inl h, fun k h => ?_, bd'⟩, ⟨F.len, bd', F.bb, F.b1, fun i w h => ?_, F.dj⟩, .lst (by have := F.b1; omega) (.inr rfl) hg (hr.mono (fun _ h => .inl h) fun _ _ => rfl)⟩
    · rcases h with h | rfl
      · exact .inl h
      · exact .inr (by omega)
    · obtain ⟨d, h1, r⟩ := F.sl i w h
      refine ⟨d, h1, ?_⟩
      cases w with
      | own qs =>
        obtain ⟨k, ds, rfl, hb, hk, hg, hr⟩ := r
        refine ⟨k, ds, rfl, hb, fun z => ?_, hg, hr.mono (fun _ h => .inl h) fun _ _ => rfl⟩
        rcases z with z | rfl
        · exact hk z
        · have := hm i qs k h h1
          omega
      | _ => exact Rel.mono (fun _ h => .inl h) (fun _ _ => rfl) r
  | _ => exact ⟨S, .refl F.bd, F, r⟩
theorem setL_get {L : Hd} {n m : Nat} {xs : List D} (h : n ≠ m) : (setL L n xs)[m]? = L[m]? := by
  unfold setL
  rw [List.getElem?_set, if_neg h]
theorem setL_same {L : Hd} {n : Nat} {xs ys : List D} (h : getL L n = some ys) : getL (setL L n xs) n = some xs := by
  have := getL_lt h
  unfold setL getL
  rw [List.getElem?_set, if_pos rfl, if_pos this]
theorem setL_len {L : Hd} {n : Nat} {xs : List D} : (setL L n xs).length = L.length := by
  unfold setL
  rw [List.length_set]
/-- an own list is changed -/
theorem Frm.mut {b : Nat} {L : Hd} {S : Nat → Prop} {ρ : MP.Env} {σ : Ev} (F : Frm b L S ρ σ) {j n : Nat} {ps qs : List Dv} {xs : List D} (h : σ[j]? = some (some (.own ps))) (h2 : ρ[j]? = some (some (.ref n))) (r : Rels L S xs qs) : Step b L S (setL L n xs) S ∧ Frm b (setL L n xs) S ρ (σ.set j (some (.own qs))) := by
  obtain ⟨d, h1, m, ds, rfl, hb, hn, hg, hr⟩ := F.sl j _ h
  rw [h2] at h1
  cases h1
  have keep : ∀ k, S k → (setL L n xs)[k]? = L[k]? := fun k hk => setL_get fun z => hn (z ▸ hk)
  have bd' : Bd (setL L n xs) S := fun k hk => by rw [setL_len]; exact F.bd k hk
  have hjl : j < σ.length := by
    by_cases hn : j < σ.length
    · exact hn
    · rw [List.getElem?_eq_none (by omega)] at h
      cases h
  refine ⟨⟨by rw [setL_len]; exact Nat.le_refl _, fun k hk => setL_get (by omega), keep, fun _ h => h, fun _ h => .inl h, bd'⟩, ⟨by rw [List.length_set]; exact F.len, bd', by rw [setL_len]; exact F.bb, F.b1, fun i w hi => ?_, fun i k us vs m hik h3 h4 h5 h6 => ?_⟩⟩
  · rw [List.getElem?_set] at hi
    split at hi
    · rename_i hji
      subst hji
      first | rw [if_pos hjl] at hi | skip
      cases hi
      exact ⟨_, h2, n, xs, rfl, hb, hn, setL_same hg, r.mono (fun _ h => h) keep⟩
    · rename_i hji
      obtain ⟨d, h1, r⟩ := F.sl i w hi
      refine ⟨d, h1, ?_⟩
      cases w with
      | own us =>
        obtain ⟨k, es, rfl, hb2, hk, hg2, hr2⟩ := r
        have hkn : n ≠ k := fun z => F.dj j i ps us n hji h hi h2 (by rw [h1, z])
        refine ⟨k, es, rfl, hb2, hk, ?_, hr2.mono (fun _ h => h) keep⟩
        unfold getL at hg2 ⊢
        rw [setL_get hkn]
        exact hg2
      | _ => exact Rel.mono (fun _ h => h) keep r
  · have own : ∀ (k : Nat) (us : List Dv), (σ.set j (some (Dv.own qs)))[k]? = some (some (Dv.own us)) → ∃ us' : List Dv, σ[k]? = some (some (Dv.own us')) := fun k us h0 => by
      rw [List.getElem?_set] at h0
      by_cases hjk : j = k
      · subst hjk
        exact ⟨ps, h⟩
      · rw [if_neg hjk] at h0
        exact ⟨us, h0⟩
    obtain ⟨us', h3⟩ := own i us h3
    obtain ⟨vs', h4⟩ := own k vs h4
    exact F.dj i k us' vs' m hik h3 h4 h5 h6
theorem meP_ok {L : Hd} {S : Nat → Prop} {m : Me} {n : Nat} {xs ds : List D} {ps qs ps' : List Dv} {v : Dv} (h0 : n ≠ 0) (hg : getL L n = some xs) (r : Rels L S xs ps) (t : Rels L S ds qs) (h : meP m ps qs = some (v, ps')) : recv m (.ref n) = true ∧ ∃ d xs', meop m (.ref n) ds L = .ok d (setL L n xs') ∧ Rels L S xs' ps' ∧ Rel L S d v := by
  cases m with
  | append =>
    cases t with
    | nil => cases h
    | cons r1 t =>
      cases t with
      | cons _ _ => cases h
      | nil =>
        have h' : (if ps.length < LIM then some (Dv.non, ps ++ [_]) else none) = some (v, ps') := h
        split at h'
        · rename_i hl
          cases h'
          refine ⟨rfl, .non, xs ++ [_], ?_, r.append (.cons r1 .nil), .non⟩
          rw [me_app, if_neg h0, hg]
          show (if xs.length < LIM then _ else _) = _
          rw [r.length, if_pos hl]
        · cases h'
  | pop =>
    cases t with
    | cons _ _ => cases h
    | nil =>
      have h' : (match ps[ps.length - 1]? with | some y => some (y, ps.dropLast) | none => none) = some (v, ps') := h
      cases q : ps[ps.length - 1]? with
      | none => rw [q] at h'; cases h'
      | some y =>
        rw [q] at h'
        cases h'
        obtain ⟨d, hd, rd⟩ := r.get q
        refine ⟨rfl, d, xs.dropLast, ?_, r.dropLast, rd⟩
        rw [me_pop, if_neg h0, hg]
        show onV xs[xs.length - 1]? _ = _
        rw [r.length, hd]
        rfl
  | popAt =>
    cases t with
    | nil => cases h
    | cons r1 t =>
      cases t with
      | cons _ _ => cases r1 <;> cases h
      | nil =>
        cases r1 with
        | int i =>
          have h' : (match L2.ixN ps.length i with | some k => (match ps[k]? with | some y => if popOk i then some (y, ps.eraseIdx k) else none | none => none) | none => none) = some (v, ps') := h
          cases q : L2.ixN ps.length i with
          | none => rw [q] at h'; cases h'
          | some k =>
            rw [q] at h'
            have h2 : (match ps[k]? with | some y => if popOk i then some (y, ps.eraseIdx k) else none | none => none) = some (v, ps') := h'
            cases q2 : ps[k]? with
            | none => rw [q2] at h2; cases h2
            | some y =>
              rw [q2] at h2
              have h3 : (if popOk i then some (y, ps.eraseIdx k) else none) = some (v, ps') := h2
              split at h3
              · rename_i hp
                cases h3
                obtain ⟨d, hd, rd⟩ := r.get q2
                refine ⟨rfl, d, xs.eraseIdx k, ?_, r.erase k, rd⟩
                show (if n = 0 then R.bad else (match getL L n with | some xs => (match L2.ixN xs.length i with | some k => (match xs[k]? with | some y => if popOk i then R.ok y (setL L n (xs.eraseIdx k)) else .bad | none => .bad) | none => .bad) | none => .bad)) = _
                rw [if_neg h0, hg]
                show (match L2.ixN xs.length i with | some k => (match xs[k]? with | some y => if popOk i then R.ok y (setL L n (xs.eraseIdx k)) else .bad | none => .bad) | none => .bad) = _
                rw [r.length, q]
                show (match xs[k]? with | some y => if popOk i then R.ok y (setL L n (xs.eraseIdx k)) else .bad | none => .bad) = _
                rw [hd]
                exact if_pos hp
              · cases h3
        | _ => cases h
  | clear =>
    cases t with
    | cons _ _ => cases h
    | nil =>
      cases h
      refine ⟨rfl, .non, [], ?_, .nil, .non⟩
      show (if n = 0 then R.bad else (match getL L n with | some _ => R.ok D.non (setL L n []) | none => .bad)) = _
      rw [if_neg h0, hg]
  | reverse =>
    cases t with
    | cons _ _ => cases h
    | nil =>
      cases h
      refine ⟨rfl, .non, xs.reverse, ?_, r.rev, .non⟩
      rw [me_rev, if_neg h0, hg]
      rfl
  | insert =>
    cases t with
    | nil => cases h
    | cons r1 t =>
      cases t with
      | nil => cases r1 <;> cases h
      | cons r2 t =>
        cases t with
        | cons _ _ => cases r1 <;> cases h
        | nil =>
          cases r1 with
          | int i =>
            have h' : (if 0 ≤ i ∧ i ≤ ps.length ∧ ps.length < LIM then some (Dv.non, ps.take i.toNat ++ _ :: ps.drop i.toNat) else none) = some (v, ps') := h
            split at h'
            · rename_i hl
              cases h'
              refine ⟨rfl, .non, xs.take i.toNat ++ _ :: xs.drop i.toNat, ?_, (r.take _).append (.cons r2 (r.drop _)), .non⟩
              show (if n = 0 then R.bad else (match getL L n with | some xs => if 0 ≤ i ∧ i ≤ xs.length ∧ xs.length < LIM then R.ok D.non (setL L n (xs.take i.toNat ++ _ :: xs.drop i.toNat)) else .bad | none => .bad)) = _
              rw [if_neg h0, hg]
              show (if 0 ≤ i ∧ i ≤ xs.length ∧ xs.length < LIM then _ else _) = _
              rw [r.length, if_pos hl]
            · cases h'
          | _ => cases h
  | _ => cases t <;> cases h
end FP

/-! FP's statements, defs and laws. -/
namespace FP
open PySem MP
/-- what a statement ends with -/
def OpR (b : Nat) (L : Hd) (S : Nat → Prop) (o : O) (p : Op) : Prop := match p with
  | .nx σ => ∃ ρ L' S', o = .nx ρ L' ∧ Step b L S L' S' ∧ Frm b L' S' ρ σ
  | .ct σ => ∃ ρ L' S', o = .ct ρ L' ∧ Step b L S L' S' ∧ Frm b L' S' ρ σ
  | .bk σ => ∃ ρ L' S', o = .bk ρ L' ∧ Step b L S L' S' ∧ Frm b L' S' ρ σ
  | .ex c σ => ∃ ρ L' S', o = .ex c ρ L' ∧ Step b L S L' S' ∧ Frm b L' S' ρ σ
  | .rt v => ∃ d L' S', o = .rt d L' ∧ Step b L S L' S' ∧ RelT L' S' b d v
  | .bad => True
theorem OpR.mono {b : Nat} {L L1 : Hd} {S S1 : Nat → Prop} {o : O} {p : Op} (x : Step b L S L1 S1) (h : OpR b L1 S1 o p) : OpR b L S o p := by
  cases p with
  | bad => trivial
  | rt v =>
    obtain ⟨d, L', S', e, y, r⟩ := h
    exact ⟨d, L', S', e, x.trans y, r⟩
  | _ =>
    obtain ⟨ρ, L', S', e, y, r⟩ := h
    exact ⟨ρ, L', S', e, x.trans y, r⟩
theorem OpR.nx {b : Nat} {L : Hd} {S : Nat → Prop} {ρ : MP.Env} {σ : Ev} (F : Frm b L S ρ σ) : OpR b L S (.nx ρ L) (.nx σ) := ⟨ρ, L, S, rfl, .refl F.bd, F⟩
section
variable {Φ : Str → List D → Hd → R D} {Ψ : Str → List Dv → Rv Dv} (hf : FnR Φ Ψ) {b : Nat} {L : Hd} {S : Nat → Prop} {ρ : MP.Env} {σ : Ev}
include hf
/-- an expression, then on -/
theorem Frm.on (F : Frm b L S ρ σ) (e : Ex) {f : D → Hd → O} {g : Dv → Op} (fl : Dv → Bool) (hfl : ∀ v, inL v = true → fl v = true)
    (h : ∀ d v J S', Step b L S (L ++ J) S' → Frm b (L ++ J) S' ρ (frzIf (fl v) (vars e) σ) → RelT (L ++ J) S' L.length d v → OpR b (L ++ J) S' (f d (L ++ J)) (g v)) : OpR b L S ((evE Φ e ρ L).on ρ f) ((evP Ψ e σ).on σ g) := by
  cases q : evP Ψ e σ with
  | bad => trivial
  | exc c =>
    obtain ⟨J, e1⟩ := F.evX hf e q
    rw [e1]
    exact ⟨ρ, L ++ J, S, rfl, F.stepApp, F.app⟩
  | ok v =>
    obtain ⟨d, J, S', e1, x, F', r⟩ := F.ev hf e q (fl v) (hfl v)
    rw [e1]
    exact .mono x (h d v J S' x F' r)
theorem Frm.own_lt {vs : List Nat} {fl : Bool} (F : Frm b L S ρ σ) : ∀ (j : Nat) (ps : List Dv) (n : Nat), (frzIf fl vs σ)[j]? = some (some (.own ps)) → ρ[j]? = some (some (.ref n)) → n < L.length := fun j ps n h1 h2 => F.lt (frzIf_own h1).1 h2
theorem me_run (F : Frm b L S ρ σ) {m : Me} {j : Nat} {as : Ex} {f : D → Hd → O} {g : Dv → Ev → Op}
    (h : ∀ d v L' S' σ', Step b L S L' S' → Frm b L' S' ρ σ' → Rel L' S' d v → OpR b L' S' (f d L') (g v σ')) : OpR b L S ((evE Φ (.me m (.v j) as) ρ L).on ρ f) (meGo Ψ m j as σ g) := by
  rw [x_me, x_v]
  unfold meGo
  by_cases hrc : recv m (.ref 0) = true
  · rw [if_pos hrc]
    cases q : σ[j]? with
    | none => trivial
    | some o =>
      cases o with
      | none => trivial
      | some w =>
        cases w with
        | own ps0 =>
          obtain ⟨d0, h1, n, ds0, rfl, hbn, hn, hg0, hr0⟩ := F.sl j _ q
          rw [h1]
          have hn0 : n ≠ 0 := by have := F.b1; omega
          show OpR b L S ((if recv m (.ref n) = true then (evE Φ as ρ L).bind fun d L => onTup d fun ds => meop m (.ref n) ds L else R.bad).on ρ f) ((evP Ψ as σ).on σ _)
          have hrc' : recv m (.ref n) = true := by
            rw [← hrc]
            cases m <;> rfl
          rw [if_pos hrc']
          have e2 : ((evE Φ as ρ L).bind fun d L => onTup d fun ds => meop m (.ref n) ds L).on ρ f = (evE Φ as ρ L).on ρ fun d L => (onTup d fun ds => meop m (.ref n) ds L).on ρ f := by
            cases evE Φ as ρ L <;> rfl
          rw [e2]
          refine F.on hf as inL (fun _ h => h) fun d v J S' x F' r => ?_
          cases v with
          | tup qs =>
            cases r with
            | tup t =>
              rename_i es
              show OpR b (L ++ J) S' ((meop m (.ref n) es (L ++ J)).on ρ f) (onOwn (frzIf (inL (.tup qs)) (vars as) σ)[j]? _)
              cases q2 : (frzIf (inL (.tup qs)) (vars as) σ)[j]? with
              | none => trivial
              | some o2 =>
                cases o2 with
                | none => trivial
                | some w2 =>
                  cases w2 with
                  | own ps =>
                    obtain ⟨d1, h2, n1, ds1, hd1, hbn1, hn1, hg1, hr1⟩ := F'.sl j _ q2
                    rw [h1] at h2
                    cases h2
                    cases hd1
                    show OpR b (L ++ J) S' _ (onSome (meP m ps qs) _)
                    cases q3 : meP m ps qs with
                    | none => trivial
                    | some p =>
                      obtain ⟨v1, ps'⟩ := p
                      obtain ⟨_, d2, xs', e3, r3, r4⟩ := meP_ok hn0 hg1 hr1 t q3
                      rw [e3]
                      obtain ⟨x4, F4⟩ := F'.mut q2 h1 r3
                      exact .mono x4 (h d2 v1 _ S' _ (x.trans x4) F4 (x4.rel r4))
                  | _ => trivial
          | _ => trivial
        | _ => trivial
  · rw [if_neg hrc]
    trivial
theorem for_run {s : Nat} {bd : MP.Env → Hd → O} {bd' : Ev → Op} {w : Option Nat} {all : List D}
    (hbd : ∀ L S ρ σ, Frm b L S ρ σ → OpR b L S (bd ρ L) (bd' σ)) :
    ∀ (xs : List D) (ps : List Dv) (L : Hd) (S : Nat → Prop) (ρ : MP.Env) (σ : Ev), Frm b L S ρ σ → Rels L S xs ps → (∀ n, w = some n → S n ∧ getL L n = some all) → OpR b L S (forGo bd s w all xs ρ L) (forP bd' s ps σ)
  | [], _, L, S, ρ, σ, F, t, hw => by
    cases t
    have hs : seen w all L := by
      unfold seen
      cases w with
      | none => trivial
      | some n => exact (hw n rfl).2
    show OpR b L S (open Classical in if seen w all L then .nx ρ L else .bad) (.nx σ)
    rw [if_pos hs]
    exact .nx F
  | x :: xs, _, L, S, ρ, σ, F, .cons (p := p) (ps := ps) r t, hw => by
    have hs : seen w all L := by
      unfold seen
      cases w with
      | none => trivial
      | some n => exact (hw n rfl).2
    show OpR b L S (open Classical in if seen w all L then (bd (ρ.set s (some x)) L).turn fun ρ L => forGo bd s w all xs ρ L else .bad) ((bd' (σ.set s (some p))).turn fun σ => forP bd' s ps σ)
    rw [if_pos hs]
    have h1 := hbd L S _ _ (F.setR (i := s) r)
    have go : ∀ (ρ' : MP.Env) (L' : Hd) (S' : Nat → Prop) (σ' : Ev), Step b L S L' S' → Frm b L' S' ρ' σ' → OpR b L S (forGo bd s w all xs ρ' L') (forP bd' s ps σ') := fun ρ' L' S' σ' x F' =>
      .mono x (for_run hbd xs ps L' S' ρ' σ' F' (x.rels t) fun n hn => ⟨x.up n (hw n hn).1, by
        have := (hw n hn).2
        unfold getL at this ⊢
        rw [x.fro n (hw n hn).1]
        exact this⟩)
    cases q : bd' (σ.set s (some p)) with
    | bad => trivial
    | nx σ' =>
      rw [q] at h1
      obtain ⟨ρ', L', S', e, x, F'⟩ := h1
      rw [e]
      exact go ρ' L' S' σ' x F'
    | ct σ' =>
      rw [q] at h1
      obtain ⟨ρ', L', S', e, x, F'⟩ := h1
      rw [e]
      exact go ρ' L' S' σ' x F'
    | bk σ' =>
      rw [q] at h1
      obtain ⟨ρ', L', S', e, x, F'⟩ := h1
      rw [e]
      exact ⟨ρ', L', S', rfl, x, F'⟩
    | ex c σ' =>
      rw [q] at h1
      obtain ⟨ρ', L', S', e, x, F'⟩ := h1
      rw [e]
      exact ⟨ρ', L', S', rfl, x, F'⟩
    | rt v =>
      rw [q] at h1
      obtain ⟨d, L', S', e, x, r'⟩ := h1
      rw [e]
      exact ⟨d, L', S', rfl, x, r'⟩
theorem wh_run {c : Ex} {bd : MP.Env → Hd → O} {bd' : Ev → Op}
    (hbd : ∀ L S ρ σ, Frm b L S ρ σ → OpR b L S (bd ρ L) (bd' σ)) :
    ∀ (n : Nat) (L : Hd) (S : Nat → Prop) (ρ : MP.Env) (σ : Ev), Frm b L S ρ σ → OpR b L S (whN (fun ρ L => evE Φ c ρ L) bd n ρ L) (whNP (fun σ => evP Ψ c σ) bd' n σ)
  | 0, L, S, ρ, σ, F => trivial
  | n + 1, L, S, ρ, σ, F => by
    unfold whN whNP
    refine F.on hf c inL (fun _ h => h) fun d v J S' x F' r => ?_
    cases v with
    | bl k =>
      cases r
      have F2 : Frm b (L ++ J) S' ρ σ := F'
      cases k with
      | false => exact .nx F2
      | true =>
        show OpR b (L ++ J) S' ((bd ρ (L ++ J)).turn fun ρ L => whN (fun ρ L => evE Φ c ρ L) bd n ρ L) ((bd' σ).turn fun σ => whNP (fun σ => evP Ψ c σ) bd' n σ)
        have h1 := hbd _ _ _ _ F2
        cases q : bd' σ with
        | bad => trivial
        | nx σ' =>
          rw [q] at h1
          obtain ⟨ρ', L', S2, e, x, F'⟩ := h1
          rw [e]
          exact .mono x (wh_run hbd n _ _ _ _ F')
        | ct σ' =>
          rw [q] at h1
          obtain ⟨ρ', L', S2, e, x, F'⟩ := h1
          rw [e]
          exact .mono x (wh_run hbd n _ _ _ _ F')
        | bk σ' =>
          rw [q] at h1
          obtain ⟨ρ', L', S', e, x, F'⟩ := h1
          rw [e]
          exact ⟨ρ', L', S', rfl, x, F'⟩
        | ex c σ' =>
          rw [q] at h1
          obtain ⟨ρ', L', S', e, x, F'⟩ := h1
          rw [e]
          exact ⟨ρ', L', S', rfl, x, F'⟩
        | rt v =>
          rw [q] at h1
          obtain ⟨d, L', S', e, x, r'⟩ := h1
          rw [e]
          exact ⟨d, L', S', rfl, x, r'⟩
    | _ => trivial
theorem runP_ok : ∀ (s : Sm) {L : Hd} {S : Nat → Prop} {ρ : MP.Env} {σ : Ev}, Frm b L S ρ σ → OpR b L S (run Φ s ρ L) (runP Ψ s σ)
  | .bad, L, S, ρ, σ, F => trivial
  | .pass, L, S, ρ, σ, F => .nx F
  | .brk, L, S, ρ, σ, F => ⟨ρ, L, S, rfl, .refl F.bd, F⟩
  | .cnt, L, S, ρ, σ, F => ⟨ρ, L, S, rfl, .refl F.bd, F⟩
  | .raise c, L, S, ρ, σ, F => ⟨ρ, L, S, rfl, .refl F.bd, F⟩
  | .retn, L, S, ρ, σ, F => ⟨.non, L, S, rfl, .refl F.bd, Rel.non⟩
  | .seq s1 s2, L, S, ρ, σ, F => by
    have h1 := runP_ok s1 F
    show OpR b L S ((run Φ s1 ρ L).then fun ρ L => run Φ s2 ρ L) ((runP Ψ s1 σ).then fun σ => runP Ψ s2 σ)
    cases q : runP Ψ s1 σ with
    | bad => trivial
    | nx σ' =>
      rw [q] at h1
      obtain ⟨ρ', L', S', e, x, F'⟩ := h1
      rw [e]
      exact .mono x (runP_ok s2 F')
    | ct σ' =>
      rw [q] at h1
      obtain ⟨ρ', L', S', e, x, F'⟩ := h1
      rw [e]
      exact ⟨ρ', L', S', rfl, x, F'⟩
    | bk σ' =>
      rw [q] at h1
      obtain ⟨ρ', L', S', e, x, F'⟩ := h1
      rw [e]
      exact ⟨ρ', L', S', rfl, x, F'⟩
    | ex c σ' =>
      rw [q] at h1
      obtain ⟨ρ', L', S', e, x, F'⟩ := h1
      rw [e]
      exact ⟨ρ', L', S', rfl, x, F'⟩
    | rt v =>
      rw [q] at h1
      obtain ⟨d, L', S', e, x, r'⟩ := h1
      rw [e]
      exact ⟨d, L', S', rfl, x, r'⟩
  | .set i e, L, S, ρ, σ, F => by
    rw [s_set]
    show OpR b L S _ (match meX e with | some (m, j, as) => meGo Ψ m j as σ fun d σ => .nx (σ.set i (some d)) | none => (evP Ψ e σ).on σ fun d => .nx ((frzIf (inL d) (vars e) σ).set i (some d)))
    have gen : OpR b L S ((evE Φ e ρ L).on ρ fun d L => .nx (ρ.set i (some d)) L) ((evP Ψ e σ).on σ fun d => .nx ((frzIf (inL d) (vars e) σ).set i (some d))) := by
      refine F.on hf e inL (fun _ h => h) fun d v J S' x F' r => ?_
      exact .nx (F'.set F.bb (F.own_lt hf) r)
    cases q : meX e with
    | none => exact gen
    | some p =>
      obtain ⟨m, j, as⟩ := p
      have he : e = .me m (.v j) as := by
        unfold meX at q
        split at q
        · cases q
          rfl
        · cases q
      subst he
      exact me_run hf F fun d v L' S' σ' x F' r => .nx (F'.setR r)
  | .setix a i e, L, S, ρ, σ, F => by
    rw [s_setix]
    show OpR b L S _ (match varX a with | some j => (evP Ψ e σ).on σ fun y => onOwn (frzIf (inL (frz y)) (varsX e) σ)[j]? fun xs => (evP Ψ i (frzIf (inL (frz y)) (varsX e) σ)).on (frzIf (inL (frz y)) (varsX e) σ) fun k => setixP xs k (frz y) fun xs => .nx ((frzIf (inL (frz y)) (varsX e) σ).set j (some (.own xs))) | none => .bad)
    cases q : varX a with
    | none => trivial
    | some j =>
      have he : a = .v j := by
        unfold varX at q
        split at q
        · cases q
          rfl
        · cases q
      subst he
      have K : ∀ (τ : Ev) (d : D) (v : Dv) (J : Hd) (S1 : Nat → Prop), Step b L S (L ++ J) S1 → Frm b (L ++ J) S1 ρ τ → (∀ (j : Nat) (ps : List Dv) (n : Nat), τ[j]? = some (some (.own ps)) → ρ[j]? = some (some (.ref n)) → n < L.length) → RelT (L ++ J) S1 L.length d v → OpR b (L ++ J) S1 ((evE Φ (.v j) ρ (L ++ J)).on ρ fun x L => (evE Φ i ρ L).on ρ fun k L => setixOp ρ d x k L) (onOwn τ[j]? fun xs => (evP Ψ i τ).on τ fun k => setixP xs k (frz v) fun xs => .nx (τ.set j (some (.own xs)))) := fun τ d v J S1 x1 F1 hlt r1 => by
        obtain ⟨S2, x2, F2, r2⟩ := F1.hand F.bb hlt r1
        refine .mono x2 ?_
        rw [x_v]
        cases q1 : τ[j]? with
        | none => trivial
        | some o =>
          cases o with
          | none => trivial
          | some w =>
            cases w with
            | own ps =>
              obtain ⟨d1, h1, n, ds, rfl, hb, hn, hg, hr⟩ := F2.sl j _ q1
              rw [h1]
              refine F2.on hf i inL (fun _ h => h) fun d3 v3 K S3 x3 F3 r3 => ?_
              show OpR b _ S3 _ (setixP ps v3 (frz v) _)
              cases v3 with
              | int k =>
                cases r3
                have F4 : Frm b (L ++ J ++ K) S3 ρ τ := F3
                have hn0 : n ≠ 0 := by have := F.b1; omega
                have hg' : getL (L ++ J ++ K) n = some ds := getL_app hg
                show OpR b _ S3 (if n = 0 then .bad else (match getL (L ++ J ++ K) n with | some xs => (match L2.ixN xs.length k with | some p => .nx ρ (setL (L ++ J ++ K) n (xs.set p d)) | none => .bad) | none => .bad)) (match L2.ixN ps.length k with | some p => .nx (τ.set j (some (.own (ps.set p (frz v))))) | none => .bad)
                rw [if_neg hn0, hg']
                show OpR b _ S3 (match L2.ixN ds.length k with | some p => .nx ρ (setL (L ++ J ++ K) n (ds.set p d)) | none => .bad) _
                rw [hr.length]
                cases q3 : L2.ixN ps.length k with
                | none => trivial
                | some p =>
                  obtain ⟨x5, F5⟩ := F4.mut q1 h1 (Rels.set p (x3.rels hr) (x3.rel r2))
                  exact ⟨ρ, _, S3, rfl, x5, F5⟩
              | _ => trivial
            | _ => trivial
      have gen : varsX e = vars e ∨ (∀ fl, frzIf fl (varsX e) σ = frzIf fl (vars e) σ) → OpR b L S ((evE Φ e ρ L).on ρ fun y L => (evE Φ (.v j) ρ L).on ρ fun x L => (evE Φ i ρ L).on ρ fun k L => setixOp ρ y x k L) ((evP Ψ e σ).on σ fun y => onOwn (frzIf (inL (frz y)) (varsX e) σ)[j]? fun xs => (evP Ψ i (frzIf (inL (frz y)) (varsX e) σ)).on (frzIf (inL (frz y)) (varsX e) σ) fun k => setixP xs k (frz y) fun xs => .nx ((frzIf (inL (frz y)) (varsX e) σ).set j (some (.own xs)))) := fun hv => by
        have hv : ∀ fl, frzIf fl (varsX e) σ = frzIf fl (vars e) σ := by
          rcases hv with h | h
          · intro fl; rw [h]
          · exact h
        simp only [hv]
        refine F.on hf e (fun v => inL (frz v)) (fun v h => ?_) fun d v J S1 x1 F1 r1 => ?_
        · cases v with
          | own ps => rfl
          | _ => exact h
        exact K _ d v J S1 x1 F1 (F.own_lt hf) r1
      by_cases sp : ∃ j' i', e = .ix (.v j') (.int i')
      · obtain ⟨j', i', rfl⟩ := sp
        have v0 : varsX (.ix (.v j') (.int i')) = [] := rfl
        have z0 : ∀ fl, frzIf fl [] σ = σ := fun fl => by cases fl <;> rfl
        by_cases own : ∃ ps, σ[j']? = some (some (.own ps))
        · obtain ⟨ps, q0⟩ := own
          rw [v0]
          simp only [z0]
          obtain ⟨d0, h0, n, ds, rfl, hb, hn, hg, hr⟩ := F.sl j' _ q0
          have eP : evP Ψ (.ix (.v j') (.int i')) σ = atP (L2.atI ps i') := by
            show (((getP σ[j']?).bind fun d => .ok (frz d)).bind fun x => (Rv.ok (Dv.int i')).bind fun y => ixP (frz x) y) = _
            rw [q0]
            rfl
          rw [eP]
          cases q1 : L2.atI ps i' with
          | none => trivial
          | some v =>
            obtain ⟨d, hd, rd⟩ := hr.atI q1
            have eM : evE Φ (.ix (.v j') (.int i')) ρ L = .ok d (L ++ []) := by
              rw [x_ix, x_v, h0, List.append_nil]
              show (match getL L n with | some xs => (match L2.atI xs i' with | some v => R.ok v L | none => .bad) | none => .bad) = _
              rw [hg]
              show (match L2.atI ds i' with | some v => R.ok v L | none => .bad) = _
              rw [hd]
            rw [eM]
            have e0 : L ++ [] = L := List.append_nil L
            have F' : Frm b (L ++ []) S ρ σ := by rw [e0]; exact F
            have k := K σ d v [] S (by rw [e0]; exact .refl F.bd) F' (fun j ps n h1 h2 => F.lt h1 h2) (by rw [e0]; exact RelT.of rd)
            rw [e0] at k
            rw [e0]
            exact k
        · exact gen (.inr fun fl => by
            rw [v0, z0]
            cases fl with
            | false => rfl
            | true =>
              show σ = frzs [j'] σ
              show σ = frzAt j' σ
              unfold frzAt
              split
              · rename_i w hw
                have e : frz w = w := frz_of (fun ps e => own ⟨ps, by rw [hw, e]⟩)
                rw [e]
                refine List.ext_getElem? fun k => ?_
                rw [List.getElem?_set]
                split
                · rename_i h
                  subst h
                  have hl : j' < σ.length := (List.getElem?_eq_some_iff.mp hw).1
                  rw [if_pos hl, hw]
                · rfl
              · rfl)
      · exact gen (.inl (by
          unfold varsX
          split
          · rename_i j' i'
            exact absurd ⟨j', i', rfl⟩ sp
          · rfl))
  | .aug i o e, L, S, ρ, σ, F => by
    rw [s_aug]
    show OpR b L S _ (onIntP σ[i]? fun x => (evP Ψ e σ).on σ fun y => onSome (augP o x y) fun z => .nx (σ.set i (some (.int z))))
    cases q : σ[i]? with
    | none => trivial
    | some o' =>
      cases o' with
      | none => trivial
      | some w =>
        cases w with
        | int k =>
          obtain ⟨d, h1, r⟩ := F.sl i _ q
          cases r
          rw [h1]
          refine F.on hf e inL (fun _ h => h) fun d v J S' x F' r => ?_
          cases q2 : augP o k v with
          | none => trivial
          | some z =>
            have : augop o k d = some z ∧ inL v = false := by
              cases o <;> cases v <;> first | (cases q2; done) | skip
              all_goals (cases r; exact ⟨q2, rfl⟩)
            rw [this.1]
            rw [this.2] at F'
            exact .nx (F'.setR (.int z))
        | _ => trivial
  | .ex e, L, S, ρ, σ, F => by
    rw [s_ex]
    show OpR b L S _ (match meX e with | some (m, j, as) => meGo Ψ m j as σ fun _ σ => .nx σ | none => (evP Ψ e σ).on σ fun _ => .nx σ)
    cases q : meX e with
    | none =>
      show OpR b L S _ ((evP Ψ e σ).on σ fun _ => .nx σ)
      cases q : evP Ψ e σ with
      | bad => trivial
      | exc c =>
        obtain ⟨J, e1⟩ := F.evX hf e q
        rw [e1]
        exact ⟨ρ, L ++ J, S, rfl, F.stepApp, F.app⟩
      | ok v =>
        obtain ⟨d, J, S', e1, x, F', r⟩ := F.ev hf e q true (fun _ => rfl)
        rw [e1]
        exact ⟨ρ, L ++ J, S, rfl, F.stepApp, F.app⟩
    | some p =>
      obtain ⟨m, j, as⟩ := p
      have he : e = .me m (.v j) as := by
        unfold meX at q
        split at q
        · cases q
          rfl
        · cases q
      subst he
      exact me_run hf F fun d v L' S' σ' x F' r => .nx F'
  | .ite c s1 s2, L, S, ρ, σ, F => by
    rw [s_ite]
    refine F.on hf c inL (fun _ h => h) fun d v J S' x F' r => ?_
    cases v with
    | bl k =>
      cases r
      cases k with
      | true => exact runP_ok s1 F'
      | false => exact runP_ok s2 F'
    | _ => trivial
  | .wh c s, L, S, ρ, σ, F => by
    have all := wh_run hf (c := c) (bd := fun ρ L => run Φ s ρ L) (bd' := fun σ => runP Ψ s σ) (fun L S ρ σ F => runP_ok s F)
    show OpR b L S (whL (fun ρ L => evE Φ c ρ L) (fun ρ L => run Φ s ρ L) ρ L) (whLP (fun σ => evP Ψ c σ) (fun σ => runP Ψ s σ) σ)
    unfold whLP
    split
    · rename_i h
      have h1 := all (Classical.choose h) L S ρ σ F
      have h2 := Classical.choose_spec h
      have h3 : whN (fun ρ L => evE Φ c ρ L) (fun ρ L => run Φ s ρ L) (Classical.choose h) ρ L ≠ .bad := by
        intro z
        rw [z] at h1
        cases q : whNP (fun σ => evP Ψ c σ) (fun σ => runP Ψ s σ) (Classical.choose h) σ with
        | bad => exact h2 q
        | rt v =>
          rw [q] at h1
          obtain ⟨_, _, _, e, _⟩ := h1
          cases e
        | _ =>
          rw [q] at h1
          obtain ⟨_, _, _, e, _⟩ := h1
          cases e
      rw [whL_of h3]
      exact h1
    · trivial
  | .for_ s it bd, L, S, ρ, σ, F => by
    rw [s_for]
    refine F.on hf it (fun d => isL d || inL d) (fun v h => by simp [h]) fun d v J S1 x1 F1 r1 => ?_
    obtain ⟨S2, x2, F2, r2⟩ := F1.hand F.bb (F.own_lt hf) r1
    refine .mono x2 ?_
    show OpR b (L ++ J) S2 (forOn (items d (L ++ J)) _) (onItemsP (itemsP (frz v)) .bad _)
    cases q : itemsP (frz v) with
    | none => trivial
    | some ps =>
      obtain ⟨w, ds, e0, t, hw⟩ := items_ok r2 q
      rw [e0]
      exact for_run hf (fun L S ρ σ F => runP_ok bd F) ds ps _ _ _ _ F2 t hw
  | .ret e, L, S, ρ, σ, F => by
    rw [s_ret]
    show OpR b L S _ (match varX e with | some j => rawP σ[j]? | none => (evP Ψ e σ).on σ fun d => .rt d)
    cases q : varX e with
    | none =>
      refine F.on hf e (fun _ => true) (fun _ _ => rfl) fun d v J S' x F' r => ?_
      refine ⟨d, L ++ J, S', rfl, .refl F'.bd, ?_⟩
      cases v with
      | own ps =>
        obtain ⟨n, ds, a, b, c⟩ := r
        exact ⟨n, ds, a, by have := F.bb; omega, c⟩
      | _ => exact r
    | some j =>
      have he : e = .v j := by
        unfold varX at q
        split at q
        · cases q
          rfl
        · cases q
      subst he
      rw [x_v]
      show OpR b L S _ (rawP σ[j]?)
      cases q1 : σ[j]? with
      | none => trivial
      | some o =>
        cases o with
        | none => trivial
        | some v =>
          obtain ⟨d, h1, r⟩ := F.sl j v q1
          rw [h1]
          have fin : (getV (some (some d)) L).on ρ (fun d L => O.rt d L) = .rt d L → OpR b L S ((getV (some (some d)) L).on ρ fun d L => O.rt d L) (.rt v) := fun h => ⟨d, L, S, h, .refl F.bd, r⟩
          cases v with
          | exc c => trivial
          | own ps =>
            obtain ⟨n, ds, rfl, _⟩ := r
            exact fin rfl
          | non => cases r; exact fin rfl
          | bl k => cases r; exact fin rfl
          | int k => cases r; exact fin rfl
          | str k => cases r; exact fin rfl
          | fn k => cases r; exact fin rfl
          | tup k => cases r; exact fin rfl
          | lst k => cases r; exact fin rfl
          | scr k => cases r; exact fin rfl
  | .try_ s1 c s s2, L, S, ρ, σ, F => by
    have h1 := runP_ok s1 F
    cases s with
    | none =>
      rw [s_tryN]
      show OpR b L S _ (tryNP (runP Ψ s1 σ) c fun σ => runP Ψ s2 σ)
      cases q : runP Ψ s1 σ with
      | bad => trivial
      | nx σ' =>
        rw [q] at h1
        obtain ⟨ρ', L', S', e, x, F'⟩ := h1
        rw [e]
        exact ⟨ρ', L', S', rfl, x, F'⟩
      | ct σ' =>
        rw [q] at h1
        obtain ⟨ρ', L', S', e, x, F'⟩ := h1
        rw [e]
        exact ⟨ρ', L', S', rfl, x, F'⟩
      | bk σ' =>
        rw [q] at h1
        obtain ⟨ρ', L', S', e, x, F'⟩ := h1
        rw [e]
        exact ⟨ρ', L', S', rfl, x, F'⟩
      | rt v =>
        rw [q] at h1
        obtain ⟨d, L', S', e, x, r'⟩ := h1
        rw [e]
        exact ⟨d, L', S', rfl, x, r'⟩
      | ex c' σ' =>
        rw [q] at h1
        obtain ⟨ρ', L', S', e, x, F'⟩ := h1
        rw [e]
        have h2 := runP_ok s2 F'
        show OpR b L S (if isSub c' c = true then (match run Φ s2 ρ' L' with | .ex _ _ _ => .bad | o => o) else .ex c' ρ' L') (if isSub c' c = true then (match runP Ψ s2 σ' with | .ex _ _ => .bad | o => o) else .ex c' σ')
        split
        · refine .mono x ?_
          cases q2 : runP Ψ s2 σ' with
          | bad => trivial
          | ex _ _ => trivial
          | nx σ' =>
            rw [q2] at h2
            obtain ⟨ρ', L', S', e, x, F'⟩ := h2
            rw [e]
            exact ⟨ρ', L', S', rfl, x, F'⟩
          | ct σ' =>
            rw [q2] at h2
            obtain ⟨ρ', L', S', e, x, F'⟩ := h2
            rw [e]
            exact ⟨ρ', L', S', rfl, x, F'⟩
          | bk σ' =>
            rw [q2] at h2
            obtain ⟨ρ', L', S', e, x, F'⟩ := h2
            rw [e]
            exact ⟨ρ', L', S', rfl, x, F'⟩
          | rt v =>
            rw [q2] at h2
            obtain ⟨d, L', S', e, x, r'⟩ := h2
            rw [e]
            exact ⟨d, L', S', rfl, x, r'⟩
        · exact ⟨ρ', L', S', rfl, x, F'⟩
    | some i =>
      rw [s_tryA]
      show OpR b L S _ (tryAP (runP Ψ s1 σ) c i fun σ => runP Ψ s2 σ)
      cases q : runP Ψ s1 σ with
      | bad => trivial
      | nx σ' =>
        rw [q] at h1
        obtain ⟨ρ', L', S', e, x, F'⟩ := h1
        rw [e]
        exact ⟨ρ', L', S', rfl, x, F'⟩
      | ct σ' =>
        rw [q] at h1
        obtain ⟨ρ', L', S', e, x, F'⟩ := h1
        rw [e]
        exact ⟨ρ', L', S', rfl, x, F'⟩
      | bk σ' =>
        rw [q] at h1
        obtain ⟨ρ', L', S', e, x, F'⟩ := h1
        rw [e]
        exact ⟨ρ', L', S', rfl, x, F'⟩
      | rt v =>
        rw [q] at h1
        obtain ⟨d, L', S', e, x, r'⟩ := h1
        rw [e]
        exact ⟨d, L', S', rfl, x, r'⟩
      | ex c' σ' =>
        rw [q] at h1
        obtain ⟨ρ', L', S', e, x, F'⟩ := h1
        rw [e]
        have h2 := runP_ok s2 (F'.setR (i := i) (.exc c'))
        show OpR b L S (if isSub c' c = true then (match run Φ s2 (ρ'.set i (some (.exc c'))) L' with | .rt d L2 => .rt d L2 | _ => .bad) else .ex c' ρ' L') (if isSub c' c = true then (match runP Ψ s2 (σ'.set i (some (.exc c'))) with | .rt d => .rt d | _ => .bad) else .ex c' σ')
        split
        · refine .mono x ?_
          cases q2 : runP Ψ s2 (σ'.set i (some (.exc c'))) with
          | rt v =>
            rw [q2] at h2
            obtain ⟨d, L', S', e, x, r'⟩ := h2
            rw [e]
            exact ⟨d, L', S', rfl, x, r'⟩
          | _ => trivial
        · exact ⟨ρ', L', S', rfl, x, F'⟩
end
theorem RvR_of_OpR {b : Nat} {L : Hd} {S : Nat → Prop} {o : O} {p : Op} (hb : b = L.length) (h : OpR b L S o p) : RvR L S (ofO o) (ofP p) := by
  have app : ∀ {L' : Hd} {S' : Nat → Prop}, Step b L S L' S' → ∃ J, L' = L ++ J ∧ Ext L S J S' := fun {L' S'} x => by
    refine ⟨L'.drop L.length, ?_, ?_⟩
    · apply List.ext_getElem?
      intro n
      by_cases hn : n < L.length
      · rw [List.getElem?_append_left hn]
        exact x.old n (by omega)
      · rw [List.getElem?_append_right (by omega), List.getElem?_drop]
        congr 1
        omega
    · refine ⟨x.up, fun n h => ?_⟩
      rcases x.nw n h with a | a
      · exact .inl a
      · refine .inr ⟨by omega, ?_⟩
        have := x.bd n h
        have := x.len
        rw [List.length_append, List.length_drop]
        omega
  cases p with
  | nx σ =>
    obtain ⟨ρ, L', S', e, x, F⟩ := h
    obtain ⟨J, rfl, y⟩ := app x
    rw [e]
    exact ⟨.non, J, S', rfl, y, Rel.non⟩
  | rt v =>
    obtain ⟨d, L', S', e, x, r⟩ := h
    obtain ⟨J, rfl, y⟩ := app x
    rw [e]
    exact ⟨d, J, S', rfl, y, hb ▸ r⟩
  | ex c σ =>
    obtain ⟨ρ, L', S', e, x, F⟩ := h
    obtain ⟨J, rfl, y⟩ := app x
    rw [e]
    exact ⟨J, rfl⟩
  | _ => trivial
theorem rels_get {L : Hd} {S : Nat → Prop} {ds : List D} {ps : List Dv} (t : Rels L S ds ps) (n : Nat) (i : Nat) (v : Dv) (h : (ps.map some ++ List.replicate n none)[i]? = some (some v)) : ∃ d, (ds.map some ++ List.replicate n none)[i]? = some (some d) ∧ Rel L S d v := by
  by_cases hi : i < ps.length
  · rw [List.getElem?_append_left (by rw [List.length_map]; exact hi), List.getElem?_map] at h
    cases q : ps[i]? with
    | none => rw [q] at h; cases h
    | some w =>
      rw [q] at h
      cases h
      obtain ⟨d, h1, r⟩ := t.get q
      refine ⟨d, ?_, r⟩
      rw [List.getElem?_append_left (by rw [List.length_map, t.length]; exact hi), List.getElem?_map, h1]
      rfl
  · rw [List.getElem?_append_right (by rw [List.length_map]; omega), List.getElem?_replicate] at h
    split at h <;> cases h
theorem runFP_ok {Φ : Str → List D → Hd → R D} {Ψ : Str → List Dv → Rv Dv} (hf : FnR Φ Ψ) (fd : Fd) {L : Hd} {S : Nat → Prop} {ds : List D} {ps : List Dv} (hb : Bd L S) (h1 : 1 ≤ L.length) (t : Rels L S ds ps) : RvR L S (runF Φ fd ds L) (runFP Ψ fd ps) := by
  unfold runFP
  by_cases hl : ps.length = fd.np
  · rw [if_pos hl]
    have e : runF Φ fd ds L = ofO (run Φ fd.body (ds.map some ++ List.replicate (fd.n - ds.length) none) L) := if_pos (by rw [t.length]; exact hl)
    rw [e, t.length]
    refine RvR_of_OpR rfl (runP_ok (b := L.length) hf fd.body ⟨?_, hb, Nat.le_refl _, h1, fun i v h => ?_, fun i j ps' qs n hij h1 h2 => ?_⟩)
    · simp only [List.length_append, List.length_map, t.length, List.length_replicate]
    · obtain ⟨d, h2, r⟩ := rels_get t _ i v h
      exact ⟨d, h2, .of r⟩
    · obtain ⟨d, h3, r⟩ := rels_get t _ i _ h1
      cases r
  · rw [if_neg hl]
    trivial
theorem runTP_ok (T : Str → Option Fd) : ∀ n, FnR (runT T n) (runTP T n)
  | 0 => fun f L S ds ps hb h1 t => trivial
  | n + 1 => fun f L S ds ps hb h1 t => by
    show RvR L S (match T f with | some fd => runF (runT T n) fd ds L | none => R.bad) (match T f with | some fd => runFP (runTP T n) fd ps | none => Rv.bad)
    cases T f with
    | none => trivial
    | some fd => exact runFP_ok (runTP_ok T n) fd hb h1 t
/-- a law, without a heap -/
theorem law_of {T : Str → Option Fd} {n : Nat} {ns : List Int} (h : runTP T n "law" [.scr (ns.map Dv.int)] = .ok (.bl true)) : ∃ L', runT T n "law" [.ref 0] [.lst (ns.map D.int)] = .ok (.bl true) L' := by
  have := runTP_ok T n "law" [.lst (ns.map D.int)] (fun n => n = 0) [.ref 0] [.scr (ns.map Dv.int)] (fun n h => by subst h; simp) (by simp) (.cons (.scr rfl rfl (Rels.ofInts ns)) .nil)
  rw [h] at this
  obtain ⟨d, J, S', e, x, r⟩ := this
  cases r
  exact ⟨_, e⟩
end FP

/-! How FP's runs are reckoned. -/
namespace FP
open PySem MP
theorem runTP_succ {T : Str → Option Fd} {k : Nat} {f : Str} {fd : Fd} {ds : List Dv} (h : T f = some fd) : runTP T (k + 1) f ds = runFP (runTP T k) fd ds := by
  show (match T f with | some fd => runFP (runTP T k) fd ds | none => Rv.bad) = _
  rw [h]
theorem runFP_mk {Φ : Str → List Dv → Rv Dv} {np n : Nat} {b : Sm} {ds : List Dv} : runFP Φ ⟨np, n, b⟩ ds = if ds.length = np then ofP (runP Φ b (ds.map some ++ List.replicate (n - ds.length) none)) else .bad := rfl
/-! the turns of FP -/
noncomputable def whP (Φ : Str → List Dv → Rv Dv) (c : Ex) (b : Sm) (σ : Ev) : Op := whLP (fun σ => evP Φ c σ) (fun σ => runP Φ b σ) σ
noncomputable def foP (Φ : Str → List Dv → Rv Dv) (s : Nat) (b : Sm) (xs : List Dv) (σ : Ev) : Op := forP (fun σ => runP Φ b σ) s xs σ
noncomputable def lcQ (Φ : Str → List Dv → Rv Dv) (s : Nat) (c e : Ex) (σ : Ev) (xs : List Dv) : Rv (List Dv) := lcP (fun x => evP Φ c (σ.set s (some x))) (fun x => evP Φ e (σ.set s (some x))) xs
section
variable {Φ : Str → List Dv → Rv Dv} {σ : Ev}
theorem e_non : evP Φ .non σ = .ok .non := rfl
theorem e_bl {b : Bool} : evP Φ (.bl b) σ = .ok (.bl b) := rfl
theorem e_int {i : Int} : evP Φ (.int i) σ = .ok (.int i) := rfl
theorem e_str {x : Str} : evP Φ (.str x) σ = .ok (.str x) := rfl
theorem e_v {i : Nat} : evP Φ (.v i) σ = (getP σ[i]?).bind fun d => .ok (frz d) := rfl
theorem e_k {x : Str} {e : Ex} : evP Φ (.k x e) σ = evP Φ e [] := rfl
theorem e_f {x : Str} : evP Φ (.f x) σ = .ok (.fn x) := rfl
theorem e_nil : evP Φ .nil σ = .ok (.tup []) := rfl
theorem e_absent : evP Φ .absent σ = .ok (.exc ⟨#[]⟩) := rfl
theorem e_cons {a b : Ex} : evP Φ (.cons a b) σ = (evP Φ a σ).bind fun x => (evP Φ b σ).bind fun y => consP x y := rfl
theorem e_tup {a : Ex} : evP Φ (.tup a) σ = (evP Φ a σ).bind tupP := rfl
theorem e_lst {a : Ex} : evP Φ (.lst a) σ = (evP Φ a σ).bind lstP := rfl
theorem e_bin {o : Bop} {a b : Ex} : evP Φ (.bin o a b) σ = (evP Φ a σ).bind fun x => (evP Φ b σ).bind fun y => binP o (frz x) (frz y) := rfl
theorem e_neg {a : Ex} : evP Φ (.neg a) σ = (evP Φ a σ).bind negP := rfl
theorem e_not {a : Ex} : evP Φ (.not a) σ = (evP Φ a σ).bind fun x => onBlP x (.ok (.bl false)) (.ok (.bl true)) := rfl
theorem e_and {a b : Ex} : evP Φ (.and a b) σ = (evP Φ a σ).bind fun x => onBlP x (evP Φ b σ) (.ok (.bl false)) := rfl
theorem e_or {a b : Ex} : evP Φ (.or a b) σ = (evP Φ a σ).bind fun x => onBlP x (.ok (.bl true)) (evP Φ b σ) := rfl
theorem e_cmp {o : Cop} {a b : Ex} : evP Φ (.cmp o a b) σ = (evP Φ a σ).bind fun x => (evP Φ b σ).bind fun y => cmpP o (frz x) (frz y) := rfl
theorem e_isn {a : Ex} : evP Φ (.isn a) σ = (evP Φ a σ).bind fun x => .ok (.bl (isNonP x)) := rfl
theorem e_notn {a : Ex} : evP Φ (.notn a) σ = (evP Φ a σ).bind fun x => .ok (.bl (!isNonP x)) := rfl
theorem e_ix {a i : Ex} : evP Φ (.ix a i) σ = (evP Φ a σ).bind fun x => (evP Φ i σ).bind fun y => ixP (frz x) y := rfl
theorem e_sl {a lo hi : Ex} : evP Φ (.sl a lo hi) σ = (evP Φ a σ).bind fun x => (evP Φ lo σ).bind fun l => onPartP l fun l => (evP Φ hi σ).bind fun u => onPartP u fun u => slP (frz x) l u := rfl
theorem e_call {f : Str} {as : Ex} : evP Φ (.call f as) σ = (evP Φ as σ).bind fun d => callP Φ f d := rfl
theorem e_callv {i : Nat} {as : Ex} : evP Φ (.callv i as) σ = onFnP σ[i]? fun f => (evP Φ as σ).bind fun d => okOnlyP (callP Φ f d) := rfl
theorem e_bi {b : Bi} {as : Ex} : evP Φ (.bi b as) σ = (evP Φ as σ).bind fun d => onTupP d fun ds => biP b ds := rfl
theorem e_tm {m : Tm} {o as : Ex} : evP Φ (.tm m o as) σ = (evP Φ o σ).bind fun x => if isStrP (frz x) = true then (evP Φ as σ).bind fun d => onTupP d fun ds => tmP m (frz x) ds else .bad := rfl
theorem e_isi {a : Ex} {t : Ty} : evP Φ (.isi a t) σ = (evP Φ a σ).bind fun x => tyP (frz x) t := rfl
theorem e_ise {i : Nat} {c : Str} : evP Φ (.ise i c) σ = onExcP σ[i]? fun a => .ok (.bl (isSub a c)) := rfl
theorem e_lc {s : Nat} {it c e : Ex} : evP Φ (.lc s it c e) σ = (evP Φ it σ).bind fun d => onItemsP (itemsP (frz d)) .bad fun xs => (lcQ Φ s c e σ xs).bind allocP := rfl
theorem e_rng {as : Ex} : evP Φ (.rng as) σ = (evP Φ as σ).bind fun d => onTupP d rngP := rfl
theorem e_rev {a : Ex} : evP Φ (.rev a) σ = (evP Φ a σ).bind revP := rfl
def setN (i : Nat) (d : Dv) (σ : Ev) : Op := .nx (σ.set i (some d))
theorem q_pass : runP Φ .pass σ = .nx σ := rfl
theorem q_seq {a b : Sm} : runP Φ (.seq a b) σ = (runP Φ a σ).then fun σ => runP Φ b σ := rfl
theorem qs_non {i : Nat}  : runP Φ (.set i .non) σ = (evP Φ .non σ).on σ fun d => .nx ((frzIf (inL d) (vars .non) σ).set i (some d)) := rfl
theorem qr_non  : runP Φ (.ret .non) σ = (evP Φ .non σ).on σ fun d => .rt d := rfl
theorem qs_bl {i : Nat} {b : Bool} : runP Φ (.set i (.bl b)) σ = (evP Φ (.bl b) σ).on σ fun d => .nx ((frzIf (inL d) (vars (.bl b)) σ).set i (some d)) := rfl
theorem qr_bl {b : Bool} : runP Φ (.ret (.bl b)) σ = (evP Φ (.bl b) σ).on σ fun d => .rt d := rfl
theorem qs_int {i : Nat} {k : Int} : runP Φ (.set i (.int k)) σ = (evP Φ (.int k) σ).on σ fun d => .nx ((frzIf (inL d) (vars (.int k)) σ).set i (some d)) := rfl
theorem qr_int {k : Int} : runP Φ (.ret (.int k)) σ = (evP Φ (.int k) σ).on σ fun d => .rt d := rfl
theorem qs_str {i : Nat} {x : Str} : runP Φ (.set i (.str x)) σ = (evP Φ (.str x) σ).on σ fun d => .nx ((frzIf (inL d) (vars (.str x)) σ).set i (some d)) := rfl
theorem qr_str {x : Str} : runP Φ (.ret (.str x)) σ = (evP Φ (.str x) σ).on σ fun d => .rt d := rfl
theorem qs_v {i : Nat} {k : Nat} : runP Φ (.set i (.v k)) σ = (evP Φ (.v k) σ).on σ fun d => .nx ((frzIf (inL d) (vars (.v k)) σ).set i (some d)) := rfl
theorem qs_k {i : Nat} {x : Str} {e : Ex} : runP Φ (.set i (.k x e)) σ = (evP Φ (.k x e) σ).on σ fun d => .nx ((frzIf (inL d) (vars (.k x e)) σ).set i (some d)) := rfl
theorem qr_k {x : Str} {e : Ex} : runP Φ (.ret (.k x e)) σ = (evP Φ (.k x e) σ).on σ fun d => .rt d := rfl
theorem qs_f {i : Nat} {x : Str} : runP Φ (.set i (.f x)) σ = (evP Φ (.f x) σ).on σ fun d => .nx ((frzIf (inL d) (vars (.f x)) σ).set i (some d)) := rfl
theorem qr_f {x : Str} : runP Φ (.ret (.f x)) σ = (evP Φ (.f x) σ).on σ fun d => .rt d := rfl
theorem qs_tup {i : Nat} {a : Ex} : runP Φ (.set i (.tup a)) σ = (evP Φ (.tup a) σ).on σ fun d => .nx ((frzIf (inL d) (vars (.tup a)) σ).set i (some d)) := rfl
theorem qr_tup {a : Ex} : runP Φ (.ret (.tup a)) σ = (evP Φ (.tup a) σ).on σ fun d => .rt d := rfl
theorem qs_lst {i : Nat} {a : Ex} : runP Φ (.set i (.lst a)) σ = (evP Φ (.lst a) σ).on σ fun d => .nx ((frzIf (inL d) (vars (.lst a)) σ).set i (some d)) := rfl
theorem qr_lst {a : Ex} : runP Φ (.ret (.lst a)) σ = (evP Φ (.lst a) σ).on σ fun d => .rt d := rfl
theorem qs_bin {i : Nat} {o : Bop} {a : Ex} {b : Ex} : runP Φ (.set i (.bin o a b)) σ = (evP Φ (.bin o a b) σ).on σ fun d => .nx ((frzIf (inL d) (vars (.bin o a b)) σ).set i (some d)) := rfl
theorem qr_bin {o : Bop} {a : Ex} {b : Ex} : runP Φ (.ret (.bin o a b)) σ = (evP Φ (.bin o a b) σ).on σ fun d => .rt d := rfl
theorem qs_neg {i : Nat} {a : Ex} : runP Φ (.set i (.neg a)) σ = (evP Φ (.neg a) σ).on σ fun d => .nx ((frzIf (inL d) (vars (.neg a)) σ).set i (some d)) := rfl
theorem qr_neg {a : Ex} : runP Φ (.ret (.neg a)) σ = (evP Φ (.neg a) σ).on σ fun d => .rt d := rfl
theorem qs_not {i : Nat} {a : Ex} : runP Φ (.set i (.not a)) σ = (evP Φ (.not a) σ).on σ fun d => .nx ((frzIf (inL d) (vars (.not a)) σ).set i (some d)) := rfl
theorem qr_not {a : Ex} : runP Φ (.ret (.not a)) σ = (evP Φ (.not a) σ).on σ fun d => .rt d := rfl
theorem qs_and {i : Nat} {a : Ex} {b : Ex} : runP Φ (.set i (.and a b)) σ = (evP Φ (.and a b) σ).on σ fun d => .nx ((frzIf (inL d) (vars (.and a b)) σ).set i (some d)) := rfl
theorem qr_and {a : Ex} {b : Ex} : runP Φ (.ret (.and a b)) σ = (evP Φ (.and a b) σ).on σ fun d => .rt d := rfl
theorem qs_or {i : Nat} {a : Ex} {b : Ex} : runP Φ (.set i (.or a b)) σ = (evP Φ (.or a b) σ).on σ fun d => .nx ((frzIf (inL d) (vars (.or a b)) σ).set i (some d)) := rfl
theorem qr_or {a : Ex} {b : Ex} : runP Φ (.ret (.or a b)) σ = (evP Φ (.or a b) σ).on σ fun d => .rt d := rfl
theorem qs_cmp {i : Nat} {o : Cop} {a : Ex} {b : Ex} : runP Φ (.set i (.cmp o a b)) σ = (evP Φ (.cmp o a b) σ).on σ fun d => .nx ((frzIf (inL d) (vars (.cmp o a b)) σ).set i (some d)) := rfl
theorem qr_cmp {o : Cop} {a : Ex} {b : Ex} : runP Φ (.ret (.cmp o a b)) σ = (evP Φ (.cmp o a b) σ).on σ fun d => .rt d := rfl
theorem qs_isn {i : Nat} {a : Ex} : runP Φ (.set i (.isn a)) σ = (evP Φ (.isn a) σ).on σ fun d => .nx ((frzIf (inL d) (vars (.isn a)) σ).set i (some d)) := rfl
theorem qr_isn {a : Ex} : runP Φ (.ret (.isn a)) σ = (evP Φ (.isn a) σ).on σ fun d => .rt d := rfl
theorem qs_notn {i : Nat} {a : Ex} : runP Φ (.set i (.notn a)) σ = (evP Φ (.notn a) σ).on σ fun d => .nx ((frzIf (inL d) (vars (.notn a)) σ).set i (some d)) := rfl
theorem qr_notn {a : Ex} : runP Φ (.ret (.notn a)) σ = (evP Φ (.notn a) σ).on σ fun d => .rt d := rfl
theorem qs_ix {i : Nat} {a : Ex} {b : Ex} : runP Φ (.set i (.ix a b)) σ = (evP Φ (.ix a b) σ).on σ fun d => .nx ((frzIf (inL d) (vars (.ix a b)) σ).set i (some d)) := rfl
theorem qr_ix {a : Ex} {b : Ex} : runP Φ (.ret (.ix a b)) σ = (evP Φ (.ix a b) σ).on σ fun d => .rt d := rfl
theorem qs_sl {i : Nat} {a : Ex} {b : Ex} {c : Ex} : runP Φ (.set i (.sl a b c)) σ = (evP Φ (.sl a b c) σ).on σ fun d => .nx ((frzIf (inL d) (vars (.sl a b c)) σ).set i (some d)) := rfl
theorem qr_sl {a : Ex} {b : Ex} {c : Ex} : runP Φ (.ret (.sl a b c)) σ = (evP Φ (.sl a b c) σ).on σ fun d => .rt d := rfl
theorem qs_call {i : Nat} {f : Str} {a : Ex} : runP Φ (.set i (.call f a)) σ = (evP Φ (.call f a) σ).on σ fun d => .nx ((frzIf (inL d) (vars (.call f a)) σ).set i (some d)) := rfl
theorem qr_call {f : Str} {a : Ex} : runP Φ (.ret (.call f a)) σ = (evP Φ (.call f a) σ).on σ fun d => .rt d := rfl
theorem qe_call {f : Str} {a : Ex} : runP Φ (.ex (.call f a)) σ = (evP Φ (.call f a) σ).on σ fun _ => .nx σ := rfl
theorem qs_callv {i : Nat} {k : Nat} {a : Ex} : runP Φ (.set i (.callv k a)) σ = (evP Φ (.callv k a) σ).on σ fun d => .nx ((frzIf (inL d) (vars (.callv k a)) σ).set i (some d)) := rfl
theorem qr_callv {k : Nat} {a : Ex} : runP Φ (.ret (.callv k a)) σ = (evP Φ (.callv k a) σ).on σ fun d => .rt d := rfl
theorem qe_callv {k : Nat} {a : Ex} : runP Φ (.ex (.callv k a)) σ = (evP Φ (.callv k a) σ).on σ fun _ => .nx σ := rfl
theorem qs_bi {i : Nat} {f : Bi} {a : Ex} : runP Φ (.set i (.bi f a)) σ = (evP Φ (.bi f a) σ).on σ fun d => .nx ((frzIf (inL d) (vars (.bi f a)) σ).set i (some d)) := rfl
theorem qr_bi {f : Bi} {a : Ex} : runP Φ (.ret (.bi f a)) σ = (evP Φ (.bi f a) σ).on σ fun d => .rt d := rfl
theorem qs_tm {i : Nat} {m : Tm} {o a : Ex} : runP Φ (.set i (.tm m o a)) σ = (evP Φ (.tm m o a) σ).on σ fun d => .nx ((frzIf (inL d) (vars (.tm m o a)) σ).set i (some d)) := rfl
theorem qr_tm {m : Tm} {o a : Ex} : runP Φ (.ret (.tm m o a)) σ = (evP Φ (.tm m o a) σ).on σ fun d => .rt d := rfl
theorem qs_isi {i : Nat} {a : Ex} {t : Ty} : runP Φ (.set i (.isi a t)) σ = (evP Φ (.isi a t) σ).on σ fun d => .nx ((frzIf (inL d) (vars (.isi a t)) σ).set i (some d)) := rfl
theorem qr_isi {a : Ex} {t : Ty} : runP Φ (.ret (.isi a t)) σ = (evP Φ (.isi a t) σ).on σ fun d => .rt d := rfl
theorem qs_ise {i : Nat} {k : Nat} {c : Str} : runP Φ (.set i (.ise k c)) σ = (evP Φ (.ise k c) σ).on σ fun d => .nx ((frzIf (inL d) (vars (.ise k c)) σ).set i (some d)) := rfl
theorem qr_ise {k : Nat} {c : Str} : runP Φ (.ret (.ise k c)) σ = (evP Φ (.ise k c) σ).on σ fun d => .rt d := rfl
theorem qs_lc {i : Nat} {k : Nat} {a : Ex} {b : Ex} {c : Ex} : runP Φ (.set i (.lc k a b c)) σ = (evP Φ (.lc k a b c) σ).on σ fun d => .nx ((frzIf (inL d) (vars (.lc k a b c)) σ).set i (some d)) := rfl
theorem qr_lc {k : Nat} {a : Ex} {b : Ex} {c : Ex} : runP Φ (.ret (.lc k a b c)) σ = (evP Φ (.lc k a b c) σ).on σ fun d => .rt d := rfl
theorem qs_rng {i : Nat} {a : Ex} : runP Φ (.set i (.rng a)) σ = (evP Φ (.rng a) σ).on σ fun d => .nx ((frzIf (inL d) (vars (.rng a)) σ).set i (some d)) := rfl
theorem qr_rng {a : Ex} : runP Φ (.ret (.rng a)) σ = (evP Φ (.rng a) σ).on σ fun d => .rt d := rfl
theorem qs_rev {i : Nat} {a : Ex} : runP Φ (.set i (.rev a)) σ = (evP Φ (.rev a) σ).on σ fun d => .nx ((frzIf (inL d) (vars (.rev a)) σ).set i (some d)) := rfl
theorem qr_rev {a : Ex} : runP Φ (.ret (.rev a)) σ = (evP Φ (.rev a) σ).on σ fun d => .rt d := rfl
theorem qs_me {i m j a} : runP Φ (.set i (.me m (.v j) a)) σ = meGo Φ m j a σ fun d σ => .nx (σ.set i (some d)) := rfl
theorem qe_me {m j a} : runP Φ (.ex (.me m (.v j) a)) σ = meGo Φ m j a σ fun _ σ => .nx σ := rfl
theorem qr_v {j : Nat} : runP Φ (.ret (.v j)) σ = rawP σ[j]? := rfl
theorem qx_v {j : Nat} {i e} : runP Φ (.setix (.v j) i e) σ = (evP Φ e σ).on σ fun y => onOwn (frzIf (inL (frz y)) (varsX e) σ)[j]? fun xs => (evP Φ i (frzIf (inL (frz y)) (varsX e) σ)).on (frzIf (inL (frz y)) (varsX e) σ) fun k => setixP xs k (frz y) fun xs => .nx ((frzIf (inL (frz y)) (varsX e) σ).set j (some (.own xs))) := rfl
theorem vx_int {i : Int} : varsX (.int i) = [] := rfl
theorem vx_bl {i : Bool} : varsX (.bl i) = [] := rfl
theorem vx_non : varsX .non = [] := rfl
theorem vx_v {i : Nat} : varsX (.v i) = [i] := rfl
theorem vx_bin {o a b} : varsX (.bin o a b) = vars (.bin o a b) := rfl
theorem vx_neg {a} : varsX (.neg a) = vars (.neg a) := rfl
theorem vx_call {f as} : varsX (.call f as) = vars (.call f as) := rfl
theorem vx_bi {f as} : varsX (.bi f as) = vars (.bi f as) := rfl
theorem vx_tup {as} : varsX (.tup as) = vars (.tup as) := rfl
theorem vx_lst {as} : varsX (.lst as) = vars (.lst as) := rfl
theorem vx_ix {j : Nat} {i : Int} : varsX (.ix (.v j) (.int i)) = [] := rfl
theorem frzIf_nil {b : Bool} {σ : Ev} : frzIf b [] σ = σ := by cases b <;> rfl
theorem q_aug {i : Nat} {o : Bop} {e : Ex} : runP Φ (.aug i o e) σ = onIntP σ[i]? fun x => (evP Φ e σ).on σ fun y => onSome (augP o x y) fun z => .nx (σ.set i (some (.int z))) := rfl
theorem q_ite {c : Ex} {a b : Sm} : runP Φ (.ite c a b) σ = (evP Φ c σ).on σ fun d => ifP d (runP Φ a σ) (runP Φ b σ) := rfl
theorem q_wh {c : Ex} {b : Sm} : runP Φ (.wh c b) σ = whP Φ c b σ := rfl
theorem q_for {s : Nat} {it : Ex} {b : Sm} : runP Φ (.for_ s it b) σ = (evP Φ it σ).on σ fun d => onItemsP (itemsP (frz d)) .bad fun xs => foP Φ s b xs (frzIf (isL d || inL d) (vars it) σ) := rfl
theorem q_retn : runP Φ .retn σ = .rt .non := rfl
theorem q_brk : runP Φ .brk σ = .bk σ := rfl
theorem q_cnt : runP Φ .cnt σ = .ct σ := rfl
theorem q_raise {c : Str} : runP Φ (.raise c) σ = .ex c σ := rfl
theorem q_tryN {b h : Sm} {c : Str} : runP Φ (.try_ b c none h) σ = tryNP (runP Φ b σ) c fun σ => runP Φ h σ := rfl
theorem q_tryA {b h : Sm} {c : Str} {i : Nat} : runP Φ (.try_ b c (some i) h) σ = tryAP (runP Φ b σ) c i fun σ => runP Φ h σ := rfl
theorem fo_nil {s : Nat} {b : Sm} : foP Φ s b [] σ = .nx σ := rfl
theorem fo_cons {s : Nat} {b : Sm} {x : Dv} {xs : List Dv} : foP Φ s b (x :: xs) σ = (runP Φ b (σ.set s (some x))).turn fun σ => foP Φ s b xs σ := rfl
theorem lc_nil {s : Nat} {c e : Ex} : lcQ Φ s c e σ [] = .ok [] := rfl
theorem lc_cons {s : Nat} {c e : Ex} {x y : Dv} {xs ys : List Dv} (h1 : evP Φ c (σ.set s (some x)) = .ok (.bl true)) (h2 : evP Φ e (σ.set s (some x)) = .ok y) (h3 : lcQ Φ s c e σ xs = .ok ys) : lcQ Φ s c e σ (x :: xs) = .ok (frz y :: ys) := by
  unfold lcQ at h3 ⊢
  rw [lcP]
  simp only [h1, h2, h3]
theorem lc_skip {s : Nat} {c e : Ex} {x : Dv} {xs ys : List Dv} (h1 : evP Φ c (σ.set s (some x)) = .ok (.bl false)) (h3 : lcQ Φ s c e σ xs = .ok ys) : lcQ Φ s c e σ (x :: xs) = .ok ys := by
  unfold lcQ at h3 ⊢
  rw [lcP]
  simp only [h1, h3]
/-- a comprehension over things of one kind -/
theorem lc_map {α : Type} {s : Nat} {c e : Ex} (f g : α → Dv) : ∀ xs : List α, (∀ x ∈ xs, evP Φ c (σ.set s (some (f x))) = .ok (.bl true)) → (∀ x ∈ xs, evP Φ e (σ.set s (some (f x))) = .ok (g x)) → lcQ Φ s c e σ (xs.map f) = .ok (xs.map fun x => frz (g x))
  | [], _, _ => rfl
  | x :: xs, h1, h2 => lc_cons (h1 x List.mem_cons_self) (h2 x List.mem_cons_self) (lc_map f g xs (fun y hy => h1 y (List.mem_cons_of_mem _ hy)) (fun y hy => h2 y (List.mem_cons_of_mem _ hy)))
theorem lc_filter {α : Type} {s : Nat} {c e : Ex} (p : α → Bool) (f g : α → Dv) : ∀ xs : List α, (∀ x ∈ xs, evP Φ c (σ.set s (some (f x))) = .ok (.bl (p x))) → (∀ x ∈ xs, p x = true → evP Φ e (σ.set s (some (f x))) = .ok (g x)) → lcQ Φ s c e σ (xs.map f) = .ok ((xs.filter p).map fun x => frz (g x))
  | [], _, _ => rfl
  | x :: xs, h1, h2 => by
    have ih := lc_filter p f g xs (fun y hy => h1 y (List.mem_cons_of_mem _ hy)) (fun y hy => h2 y (List.mem_cons_of_mem _ hy))
    have hx := h1 x List.mem_cons_self
    cases hp : p x with
    | false =>
      rw [hp] at hx
      rw [List.filter_cons_of_neg (by rw [hp]; decide)]
      exact lc_skip hx ih
    | true =>
      rw [hp] at hx
      rw [List.filter_cons_of_pos hp]
      exact lc_cons hx (h2 x List.mem_cons_self hp) ih
/-- a walk, thing by thing: what holds behind each holds behind all -/
theorem fo_inv {s : Nat} {b : Sm} (I : List Dv → Ev → Prop) : ∀ (xs done : List Dv) (σ : Ev), I done σ → (∀ d x r σ, done ++ xs = d ++ x :: r → I d σ → ∃ σ', runP Φ b (σ.set s (some x)) = .nx σ' ∧ I (d ++ [x]) σ') → ∃ σ', foP Φ s b xs σ = .nx σ' ∧ I (done ++ xs) σ'
  | [], done, σ, h, _ => ⟨σ, rfl, by rw [List.append_nil]; exact h⟩
  | x :: xs, done, σ, h, hs => by
    obtain ⟨σ1, e1, h1⟩ := hs done x xs σ rfl h
    obtain ⟨σ2, e2, h2⟩ := fo_inv I xs (done ++ [x]) σ1 h1 (fun d y r σ e hd => hs d y r σ (by rw [← e, List.append_assoc]; rfl) hd)
    refine ⟨σ2, ?_, by rw [List.append_assoc] at h2; exact h2⟩
    rw [fo_cons, e1]
    exact e2
/-- the same over a part, the rest behind it -/
theorem fo_pre {s : Nat} {b : Sm} (I : List Dv → Ev → Prop) (tl : List Dv) : ∀ (xs done : List Dv) (σ : Ev), I done σ → (∀ d x r σ, done ++ xs = d ++ x :: r → I d σ → ∃ σ', runP Φ b (σ.set s (some x)) = .nx σ' ∧ I (d ++ [x]) σ') → ∃ σ', foP Φ s b (xs ++ tl) σ = foP Φ s b tl σ' ∧ I (done ++ xs) σ'
  | [], done, σ, h, _ => ⟨σ, rfl, by rw [List.append_nil]; exact h⟩
  | x :: xs, done, σ, h, hs => by
    obtain ⟨σ1, e1, h1⟩ := hs done x xs σ rfl h
    obtain ⟨σ2, e2, h2⟩ := fo_pre I tl xs (done ++ [x]) σ1 h1 (fun d y r σ e hd => hs d y r σ (by rw [← e, List.append_assoc]; rfl) hd)
    refine ⟨σ2, ?_, by rw [List.append_assoc] at h2; exact h2⟩
    rw [List.cons_append, fo_cons, e1]
    exact e2
/-- a walk over numbers, one by one -/
theorem fo_steps {s : Nat} {b : Sm} (I : Nat → Ev → Prop) : ∀ (n k : Nat) (σ : Ev), I k σ → (∀ j σ, k ≤ j → j < k + n → I j σ → ∃ σ', runP Φ b (σ.set s (some (.int (j : Int)))) = .nx σ' ∧ I (j + 1) σ') → ∃ σ', foP Φ s b (stepsP (k : Int) 1 n) σ = .nx σ' ∧ I (k + n) σ'
  | 0, k, σ, h, _ => ⟨σ, rfl, h⟩
  | n + 1, k, σ, h, hs => by
    obtain ⟨σ1, e1, h1⟩ := hs k σ (Nat.le_refl _) (by omega) h
    obtain ⟨σ2, e2, h2⟩ := fo_steps I n (k + 1) σ1 h1 (fun j σ h1 h2 hi => hs j σ (by omega) (by omega) hi)
    refine ⟨σ2, ?_, by rw [show k + (n + 1) = k + 1 + n by omega]; exact h2⟩
    rw [stepsP, fo_cons, e1]
    exact e2
theorem fo_steps_pre {s : Nat} {b : Sm} (I : Nat → Ev → Prop) (m : Nat) : ∀ (n k : Nat) (σ : Ev), I k σ → (∀ j σ, k ≤ j → j < k + n → I j σ → ∃ σ', runP Φ b (σ.set s (some (.int (j : Int)))) = .nx σ' ∧ I (j + 1) σ') → ∃ σ', foP Φ s b (stepsP (k : Int) 1 (n + m)) σ = foP Φ s b (stepsP ((k + n : Nat) : Int) 1 m) σ' ∧ I (k + n) σ'
  | 0, k, σ, h, _ => ⟨σ, by rw [Nat.zero_add]; rfl, h⟩
  | n + 1, k, σ, h, hs => by
    obtain ⟨σ1, e1, h1⟩ := hs k σ (Nat.le_refl _) (by omega) h
    obtain ⟨σ2, e2, h2⟩ := fo_steps_pre I m n (k + 1) σ1 h1 (fun j σ h1 h2 hi => hs j σ (by omega) (by omega) hi)
    refine ⟨σ2, ?_, by rw [show k + (n + 1) = k + 1 + n by omega]; exact h2⟩
    rw [show n + 1 + m = (n + m) + 1 by omega, stepsP, fo_cons, e1]
    rw [show k + (n + 1) = k + 1 + n by omega]
    exact e2
/-! values -/
theorem consP_t {x : Dv} {ys : List Dv} : consP x (.tup ys) = .ok (.tup (frz x :: ys)) := rfl
theorem tupP_t {xs : List Dv} : tupP (.tup xs) = if xs.length ≤ LIM then .ok (.tup xs) else .bad := rfl
theorem lstP_t {xs : List Dv} : lstP (.tup xs) = allocP xs := rfl
theorem allocP_e {xs : List Dv} : allocP xs = if xs.length ≤ LIM then .ok (.own xs) else .bad := rfl
theorem negP_i {i : Int} : negP (.int i) = .ok (.int (-i)) := rfl
theorem onTupP_t {xs : List Dv} {f : List Dv → Rv Dv} : onTupP (.tup xs) f = f xs := rfl
theorem onTupO_t {xs : List Dv} {f : List Dv → Op} : onTupO (.tup xs) f = f xs := rfl
theorem callP_t {f : Str} {ds : List Dv} : callP Φ f (.tup ds) = Φ f ds := rfl
theorem onBlP_bl (b : Bool) (t f : Rv Dv) : onBlP (.bl b) t f = if b = true then t else f := by cases b <;> rfl
theorem ifP_bl (b : Bool) (t f : Op) : ifP (.bl b) t f = if b = true then t else f := by cases b <;> rfl
theorem getP_non : getP (some (some .non)) = .ok .non := rfl
theorem getP_bl {i : Bool} : getP (some (some (.bl i))) = .ok (.bl i) := rfl
theorem getP_int {i : Int} : getP (some (some (.int i))) = .ok (.int i) := rfl
theorem getP_str {i : Str} : getP (some (some (.str i))) = .ok (.str i) := rfl
theorem getP_tup {i : List Dv} : getP (some (some (.tup i))) = .ok (.tup i) := rfl
theorem getP_lst {i : List Dv} : getP (some (some (.lst i))) = .ok (.lst i) := rfl
theorem getP_scr {i : List Dv} : getP (some (some (.scr i))) = .ok (.scr i) := rfl
theorem getP_own {i : List Dv} : getP (some (some (.own i))) = .ok (.own i) := rfl
theorem getP_fn {i : Str} : getP (some (some (.fn i))) = .ok (.fn i) := rfl
theorem rawP_non : rawP (some (some .non)) = .rt .non := rfl
theorem rawP_bl {i : Bool} : rawP (some (some (.bl i))) = .rt (.bl i) := rfl
theorem rawP_int {i : Int} : rawP (some (some (.int i))) = .rt (.int i) := rfl
theorem rawP_str {i : Str} : rawP (some (some (.str i))) = .rt (.str i) := rfl
theorem rawP_tup {i : List Dv} : rawP (some (some (.tup i))) = .rt (.tup i) := rfl
theorem rawP_lst {i : List Dv} : rawP (some (some (.lst i))) = .rt (.lst i) := rfl
theorem rawP_scr {i : List Dv} : rawP (some (some (.scr i))) = .rt (.scr i) := rfl
theorem rawP_own {i : List Dv} : rawP (some (some (.own i))) = .rt (.own i) := rfl
theorem rawP_fn {i : Str} : rawP (some (some (.fn i))) = .rt (.fn i) := rfl
theorem frz_non : frz .non = .non := rfl
theorem frz_bl {i : Bool} : frz (.bl i) = .bl i := rfl
theorem frz_int {i : Int} : frz (.int i) = .int i := rfl
theorem frz_str {i : Str} : frz (.str i) = .str i := rfl
theorem frz_tup {i : List Dv} : frz (.tup i) = .tup i := rfl
theorem frz_lst {i : List Dv} : frz (.lst i) = .lst i := rfl
theorem frz_scr {i : List Dv} : frz (.scr i) = .scr i := rfl
theorem frz_own {i : List Dv} : frz (.own i) = .lst i := rfl
theorem frz_fn {i : Str} : frz (.fn i) = .fn i := rfl
theorem frz_exc {i : Str} : frz (.exc i) = .exc i := rfl
theorem inL_non : inL .non = false := rfl
theorem inL_bl {i : Bool} : inL (.bl i) = false := rfl
theorem inL_int {i : Int} : inL (.int i) = false := rfl
theorem inL_str {i : Str} : inL (.str i) = false := rfl
theorem inL_fn {i : Str} : inL (.fn i) = false := rfl
theorem inL_exc {i : Str} : inL (.exc i) = false := rfl
theorem inL_lst {i : List Dv} : inL (.lst i) = true := rfl
theorem inL_scr {i : List Dv} : inL (.scr i) = true := rfl
theorem inL_own {i : List Dv} : inL (.own i) = i.any (lsF FUEL) := rfl
theorem inL_tup {i : List Dv} : inL (.tup i) = i.any (lsF 11) := rfl
theorem fuel_eq : FUEL = 12 := rfl
theorem ls_non {n : Nat} : lsF (n + 1) .non = false := rfl
theorem ls_bl {n : Nat} {i : Bool} : lsF (n + 1) (.bl i) = false := rfl
theorem ls_int {n : Nat} {i : Int} : lsF (n + 1) (.int i) = false := rfl
theorem ls_str {n : Nat} {i : Str} : lsF (n + 1) (.str i) = false := rfl
theorem ls_fn {n : Nat} {i : Str} : lsF (n + 1) (.fn i) = false := rfl
theorem ls_exc {n : Nat} {i : Str} : lsF (n + 1) (.exc i) = false := rfl
theorem ls_lst {n : Nat} {i : List Dv} : lsF (n + 1) (.lst i) = true := rfl
theorem ls_scr {n : Nat} {i : List Dv} : lsF (n + 1) (.scr i) = true := rfl
theorem ls_tup {n : Nat} {i : List Dv} : lsF (n + 1) (.tup i) = i.any (lsF n) := rfl
theorem any_f {α : Type} {n : Nat} {f : α → Dv} (h : ∀ x, lsF n (f x) = false) (xs : List α) : (xs.map f).any (lsF n) = false := by
  induction xs with
  | nil => rfl
  | cons x xs ih => rw [List.map_cons, List.any_cons, h x, ih]; rfl
theorem any_int {n : Nat} {xs : List Int} : (xs.map Dv.int).any (lsF (n + 1)) = false := any_f (fun _ => rfl) xs
theorem any_steps {n : Nat} : ∀ (k : Nat) (i c : Int), (stepsP i c k).any (lsF (n + 1)) = false
  | 0, _, _ => rfl
  | k + 1, i, c => by
    rw [stepsP, List.any_cons, any_steps k]
    rfl
theorem frzIf_f {vs : List Nat} : frzIf false vs σ = σ := rfl
theorem frzIf_t {vs : List Nat} : frzIf true vs σ = frzs vs σ := rfl
theorem frzs_nil : frzs [] σ = σ := rfl
theorem frzs_cons {i : Nat} {vs : List Nat} : frzs (i :: vs) σ = frzs vs (frzAt i σ) := rfl
def frzO (o : Option Dv) : Option Dv := o.map frz
theorem frzAt_0 {o : Option Dv} : frzAt 0 (o :: σ) = frzO o :: σ := by cases o <;> rfl
theorem frzAt_s {i : Nat} {o : Option Dv} : frzAt (i + 1) (o :: σ) = o :: frzAt i σ := by
  unfold frzAt
  rw [List.getElem?_cons_succ]
  cases σ[i]? with
  | none => rfl
  | some p => cases p <;> rfl
theorem frzO_n : frzO none = none := rfl
theorem frzO_s {d : Dv} : frzO (some d) = some (frz d) := rfl
theorem isL_non : isL .non = false := rfl
theorem isL_bl {i : Bool} : isL (.bl i) = false := rfl
theorem isL_int {i : Int} : isL (.int i) = false := rfl
theorem isL_str {i : Str} : isL (.str i) = false := rfl
theorem isL_tup {i : List Dv} : isL (.tup i) = false := rfl
theorem isL_lst {i : List Dv} : isL (.lst i) = true := rfl
theorem isL_scr {i : List Dv} : isL (.scr i) = false := rfl
theorem isL_own {i : List Dv} : isL (.own i) = true := rfl
theorem onOwn_o {xs : List Dv} {f : List Dv → Op} : onOwn (some (some (.own xs))) f = f xs := rfl
theorem onSome_s {α : Type} {x : α} {f : α → Op} : onSome (some x) f = f x := rfl
theorem onIntP_i {x : Int} {f : Int → Op} : onIntP (some (some (.int x))) f = f x := rfl
theorem onFnP_f {g : Str} {f : Str → Rv Dv} : onFnP (some (some (.fn g))) f = f g := rfl
theorem onExcP_f {g : Str} {f : Str → Rv Dv} : onExcP (some (some (.exc g))) f = f g := rfl
theorem okOnlyP_ok {d : Dv} : okOnlyP (.ok d) = .ok d := rfl
theorem onItemsP_s {α : Type} {z : α} {xs : List Dv} {f : List Dv → α} : onItemsP (some xs) z f = f xs := rfl
theorem itemsP_t {xs : List Dv} : itemsP (.tup xs) = some xs := rfl
theorem itemsP_l {xs : List Dv} : itemsP (.lst xs) = some xs := rfl
theorem itemsP_s {xs : List Dv} : itemsP (.scr xs) = some xs := rfl
theorem augP_a {x y : Int} : augP .add x (.int y) = some (x + y) := rfl
theorem augP_s {x y : Int} : augP .sub x (.int y) = some (x - y) := rfl
theorem onPartP_int {i : Int} {f : Option Int → Rv Dv} : onPartP (.int i) f = f (some i) := rfl
theorem onPartP_abs {x : Str} {f : Option Int → Rv Dv} : onPartP (.exc x) f = f none := rfl
def onNat (o : Option Nat) (f : Nat → Op) : Op := match o with
  | some p => f p
  | none => .bad
theorem onNat_s {p : Nat} {f : Nat → Op} : onNat (some p) f = f p := rfl
theorem setixP_i {xs : List Dv} {k : Int} {y : Dv} {f : List Dv → Op} : setixP xs (.int k) y f = onNat (L2.ixN xs.length k) fun p => f (xs.set p y) := by
  show (match L2.ixN xs.length k with | some p => f (xs.set p y) | none => .bad) = _
  cases L2.ixN xs.length k <;> rfl
theorem meGo_e {m : Me} {j : Nat} {as : Ex} {f : Dv → Ev → Op} : meGo Φ m j as σ f = if recv m (.ref 0) = true then onOwn σ[j]? fun _ => (evP Φ as σ).on σ fun d => onTupO d fun ds => onOwn (frzIf (inL d) (vars as) σ)[j]? fun xs => onSome (meP m xs ds) fun p => f p.1 ((frzIf (inL d) (vars as) σ).set j (some (.own p.2))) else .bad := rfl
theorem meP_app {xs : List Dv} {y : Dv} (h : xs.length < LIM) : meP .append xs [y] = some (.non, xs ++ [y]) := if_pos h
theorem meP_app' {xs : List Dv} {y : Dv} : meP .append xs [y] = if xs.length < LIM then some (.non, xs ++ [y]) else none := rfl
theorem meP_rev {xs : List Dv} : meP .reverse xs [] = some (.non, xs.reverse) := rfl
theorem meP_clear {xs : List Dv} : meP .clear xs [] = some (.non, []) := rfl
theorem meP_pop {xs : List Dv} {y : Dv} (h : xs[xs.length - 1]? = some y) : meP .pop xs [] = some (y, xs.dropLast) := by
  show (match xs[xs.length - 1]? with | some y => some (y, xs.dropLast) | none => none) = _
  rw [h]
theorem onSome_if {α : Type} {p : Prop} [Decidable p] {x : α} {f : α → Op} : onSome (if p then some x else none) f = if p then f x else .bad := by split <;> rfl
theorem rc1 : (recv .append (.ref 0) = true) = True := by decide
theorem rc2 : (recv .pop (.ref 0) = true) = True := by decide
theorem rc3 : (recv .popAt (.ref 0) = true) = True := by decide
theorem rc4 : (recv .clear (.ref 0) = true) = True := by decide
theorem rc5 : (recv .insert (.ref 0) = true) = True := by decide
theorem rc6 : (recv .reverse (.ref 0) = true) = True := by decide
theorem bp_add {i j : Int} : binP .add (.int i) (.int j) = .ok (.int (i + j)) := rfl
theorem bp_sub {i j : Int} : binP .sub (.int i) (.int j) = .ok (.int (i - j)) := rfl
theorem bp_mul {i j : Int} : binP .mul (.int i) (.int j) = if mulOk i j then .ok (.int (i * j)) else .bad := rfl
theorem bp_fdiv {i j : Int} : binP .fdiv (.int i) (.int j) = if divOk i j then .ok (.int (i.fdiv j)) else .bad := rfl
theorem bp_mod {i j : Int} : binP .mod (.int i) (.int j) = if j ≠ 0 then .ok (.int (i.fmod j)) else .bad := rfl
theorem bp_pow {i j : Int} : binP .pow (.int i) (.int j) = if powOk i j then .ok (.int (i ^ j.toNat)) else .bad := rfl
theorem bp_addt {a b : List Dv} : binP .add (.tup a) (.tup b) = if a.length + b.length ≤ LIM then .ok (.tup (a ++ b)) else .bad := rfl
theorem bp_addl {a b : List Dv} : binP .add (.lst a) (.lst b) = if a.length + b.length ≤ LIM then .ok (.own (a ++ b)) else .bad := rfl
theorem cp_lt {i j : Int} : cmpP .lt (.int i) (.int j) = .ok (.bl (decide (i < j))) := rfl
theorem cp_le {i j : Int} : cmpP .le (.int i) (.int j) = .ok (.bl (decide (i ≤ j))) := rfl
theorem cp_gt {i j : Int} : cmpP .gt (.int i) (.int j) = .ok (.bl (decide (j < i))) := rfl
theorem cp_ge {i j : Int} : cmpP .ge (.int i) (.int j) = .ok (.bl (decide (j ≤ i))) := rfl
theorem cp_eq {x y : Dv} : cmpP .eq x y = eqP x y id := by cases x <;> cases y <;> rfl
theorem cp_ne {x y : Dv} : cmpP .ne x y = eqP x y not := by cases x <;> cases y <;> rfl
theorem ep_int (i j : Int) : eqP (.int i) (.int j) id = .ok (.bl (decide (i = j))) := by
  have e : PyData.eqv (.int i) (.int j) = decide (i = j) := by
    unfold PyData.eqv
    exact Bool.beq_eq_decide_eq i j
  show (if SeqAt.shaped (.int i) = true ∧ SeqAt.shaped (.int j) = true then Rv.ok (Dv.bl (id (PyData.eqv (.int i) (.int j)))) else .bad) = _
  rw [if_pos ⟨rfl, rfl⟩, e]
  rfl
theorem np_int (i j : Int) : eqP (.int i) (.int j) not = .ok (.bl (!decide (i = j))) := by
  have e : PyData.eqv (.int i) (.int j) = decide (i = j) := by
    unfold PyData.eqv
    exact Bool.beq_eq_decide_eq i j
  show (if SeqAt.shaped (.int i) = true ∧ SeqAt.shaped (.int j) = true then Rv.ok (Dv.bl (not (PyData.eqv (.int i) (.int j)))) else .bad) = _
  rw [if_pos ⟨rfl, rfl⟩, e]
theorem ep_bl (i j : Bool) : eqP (.bl i) (.bl j) id = .ok (.bl (i == j)) := by cases i <;> cases j <;> rfl
theorem np_bl (i j : Bool) : eqP (.bl i) (.bl j) not = .ok (.bl (!(i == j))) := by cases i <;> cases j <;> rfl
theorem xp_t {xs : List Dv} {i : Int} : ixP (.tup xs) (.int i) = atP (L2.atI xs i) := rfl
theorem xp_l {xs : List Dv} {i : Int} : ixP (.lst xs) (.int i) = atP (L2.atI xs i) := rfl
theorem xp_s {xs : List Dv} {i : Int} : ixP (.scr xs) (.int i) = atP (L2.atI xs i) := rfl
theorem atP_s {v : Dv} : atP (some v) = .ok v := rfl
theorem slp_t {xs : List Dv} {lo hi : Option Int} : slP (.tup xs) lo hi = .ok (.tup (cut xs lo hi)) := rfl
theorem slp_l {xs : List Dv} {lo hi : Option Int} : slP (.lst xs) lo hi = allocP (cut xs lo hi) := rfl
theorem slp_s {xs : List Dv} {lo hi : Option Int} : slP (.scr xs) lo hi = allocP (cut xs lo hi) := rfl
theorem isStr_s {z : Str} : isStrP (.str z) = true := rfl
theorem tm_part {a b : Str} : tmP .partition (.str a) [.str b] = if (b.length == 0) = false ∧ a.length ≤ LIM then .ok (.tup [.str (Txt.partition a b).1, .str (Txt.partition a b).2.1, .str (Txt.partition a b).2.2]) else .bad := rfl
theorem tm_split {a b : Str} : tmP .split (.str a) [.str b] = if (b.length == 0) = false ∧ a.length ≤ LIM then allocP ((Txt.split a b).map Dv.str) else .bad := rfl
theorem tm_starts {a b : Str} : tmP .startswith (.str a) [.str b] = .ok (.bl (Txt.startswith a b)) := rfl
theorem strsP_map (ys : List Str) : strsP (ys.map Dv.str) = some ys := by
  induction ys with
  | nil => rfl
  | cons y ys ih =>
    show (strsP (ys.map Dv.str)).map (y :: ·) = _
    rw [ih]
    rfl
theorem tm_joinL {a : Str} {ys : List Str} : tmP .join (.str a) [.lst (ys.map Dv.str)] = if (ys.map (·.length)).sum + ys.length * a.length ≤ LIM then .ok (.str (Txt.join a ys)) else .bad := by
  show (match strsP (ys.map Dv.str) with | some ys => _ | none => _) = _
  rw [strsP_map]
theorem slp_str {z : Str} {lo hi : Option Int} : slP (.str z) lo hi = if z.length ≤ LIM then .ok (.str (L2.cutS z lo hi)) else .bad := rfl
theorem xp_str {z : Str} {i : Int} : ixP (.str z) (.int i) = if z.length ≤ LIM then (match L2.atI z.cps.toList i with
    | some c => .ok (.str ⟨#[c]⟩)
    | none => .bad) else .bad := rfl
theorem i_lenstr {z : Str} : biP .len [.str z] = if z.length ≤ LIM then .ok (.int z.length) else .bad := rfl
theorem bp_adds {a b : Str} : binP .add (.str a) (.str b) = if a.length + b.length ≤ LIM then .ok (.str (a ++ b)) else .bad := rfl
theorem i_str {i : Int} : biP .str [.int i] = if i.natAbs.log2 < 1920 then .ok (.str (Str.ofString (toString i))) else .bad := rfl
theorem i_ints {z : Str} : biP .int [.str z] = (match intText? z with
    | some n => if z.length ≤ 640 then .ok (.int n) else .bad
    | none => .bad) := rfl
theorem itemsP_str {z : Str} : itemsP (.str z) = some (z.cps.toList.map fun c => Dv.str ⟨#[c]⟩) := rfl
theorem nn_str {z : Str} : isNonP (.str z) = false := rfl
theorem i_abs {i : Int} : biP .abs [.int i] = .ok (.int (if i < 0 then -i else i)) := rfl
theorem i_lent {xs : List Dv} : biP .len [.tup xs] = .ok (.int xs.length) := rfl
theorem i_lenl {xs : List Dv} : biP .len [.lst xs] = .ok (.int xs.length) := rfl
theorem i_lens {xs : List Dv} : biP .len [.scr xs] = .ok (.int xs.length) := rfl
theorem i_max {i j : Int} : biP .max [.int i, .int j] = .ok (.int (if j > i then j else i)) := rfl
theorem i_min {i j : Int} : biP .min [.int i, .int j] = .ok (.int (if j < i then j else i)) := rfl
theorem i_int {i : Int} : biP .int [.int i] = .ok (.int i) := rfl
theorem i_intb {k : Bool} : biP .int [.bl k] = .ok (.int (if k then 1 else 0)) := rfl
theorem i_listt {xs : List Dv} : biP .list [.tup xs] = allocP xs := rfl
theorem i_listl {xs : List Dv} : biP .list [.lst xs] = allocP xs := rfl
theorem i_lists {xs : List Dv} : biP .list [.scr xs] = allocP xs := rfl
theorem i_tupt {xs : List Dv} : biP .tuple [.tup xs] = .ok (.tup xs) := rfl
theorem i_tupl {xs : List Dv} : biP .tuple [.lst xs] = .ok (.tup xs) := rfl
theorem i_sorted {xs : List Dv} : biP .sorted [.lst xs] = sortP (intsP xs) false := rfl
theorem i_sortedR {xs : List Dv} : biP .sortedR [.lst xs] = sortP (intsP xs) true := rfl
theorem intsP_map : ∀ ns : List Int, intsP (ns.map Dv.int) = some ns
  | [] => rfl
  | n :: ns => by
    show (intsP (ns.map Dv.int)).map (n :: ·) = _
    rw [intsP_map ns]
    rfl
theorem sortP_f {ns : List Int} : sortP (some ns) false = allocP ((up ns).map Dv.int) := rfl
theorem sortP_t {ns : List Int} : sortP (some ns) true = allocP ((up ns).reverse.map Dv.int) := rfl
theorem t_non {t : Ty} : tyP .non t = .ok (.bl false) := rfl
theorem t_bl {b : Bool} {t : Ty} : tyP (.bl b) t = .ok (.bl (t == .bool || t == .int)) := rfl
theorem t_int {i : Int} {t : Ty} : tyP (.int i) t = .ok (.bl (t == .int)) := rfl
theorem t_str {i : Str} {t : Ty} : tyP (.str i) t = .ok (.bl (t == .str)) := rfl
theorem t_tup {i : List Dv} {t : Ty} : tyP (.tup i) t = .ok (.bl (t == .tuple)) := rfl
theorem t_lst {i : List Dv} {t : Ty} : tyP (.lst i) t = .ok (.bl (t == .list)) := rfl
theorem tz1 : (Ty.tuple == Ty.list) = false := rfl
theorem tz2 : (Ty.list == Ty.tuple) = false := rfl
theorem tz3 : (Ty.int == Ty.list) = false := rfl
theorem nn_non : isNonP .non = true := rfl
theorem nn_tup {x : List Dv} : isNonP (.tup x) = false := rfl
theorem nn_int {x : Int} : isNonP (.int x) = false := rfl
theorem nn_lst {x : List Dv} : isNonP (.lst x) = false := rfl
theorem nn_own {x : List Dv} : isNonP (.own x) = false := rfl
theorem rv_t {xs : List Dv} : revP (.tup xs) = .ok (.tup xs.reverse) := rfl
theorem rp_1 {j : Int} : rngP [.int j] = if small j then .ok (.tup (stepsP 0 1 j.toNat)) else .bad := rfl
theorem rp_2 {i j : Int} : rngP [.int i, .int j] = if small i ∧ small j then .ok (.tup (stepsP i 1 (j - i).toNat)) else .bad := rfl
theorem rp_3 {i j c : Int} : rngP [.int i, .int j, .int c] = if rngOk i j c then .ok (.tup (stepsP i c (Builtin.Range.rangeSize i j c).toNat)) else .bad := rfl
theorem stepsP_0 {i c : Int} : stepsP i c 0 = [] := rfl
theorem stepsP_s {i c : Int} {n : Nat} : stepsP i c (n + 1) = .int i :: stepsP (i + c) c n := rfl
end
theorem Op.then_nx (σ : Ev) (f : Ev → Op) : (Op.nx σ).then f = f σ := rfl
theorem Op.then_rt (d : Dv) (f : Ev → Op) : (Op.rt d).then f = .rt d := rfl
theorem Op.then_ex (c : Str) (σ : Ev) (f : Ev → Op) : (Op.ex c σ).then f = .ex c σ := rfl
theorem Op.then_bk (σ : Ev) (f : Ev → Op) : (Op.bk σ).then f = .bk σ := rfl
theorem Op.then_ct (σ : Ev) (f : Ev → Op) : (Op.ct σ).then f = .ct σ := rfl
theorem Op.then_bad (f : Ev → Op) : Op.bad.then f = .bad := rfl
theorem Op.turn_nx (σ : Ev) (f : Ev → Op) : (Op.nx σ).turn f = f σ := rfl
theorem Op.turn_ct (σ : Ev) (f : Ev → Op) : (Op.ct σ).turn f = f σ := rfl
theorem Op.turn_bk (σ : Ev) (f : Ev → Op) : (Op.bk σ).turn f = .nx σ := rfl
theorem Op.turn_rt (d : Dv) (f : Ev → Op) : (Op.rt d).turn f = .rt d := rfl
theorem Op.turn_ex (c : Str) (σ : Ev) (f : Ev → Op) : (Op.ex c σ).turn f = .ex c σ := rfl
theorem ofP_nx {σ : Ev} : ofP (.nx σ) = .ok .non := rfl
theorem ofP_rt {d : Dv} : ofP (.rt d) = .ok d := rfl
theorem ofP_ex {c : Str} {σ : Ev} : ofP (.ex c σ) = .exc c := rfl
theorem op_then_nx (o : Op) : (o.then fun σ => .nx σ) = o := by cases o <;> rfl
theorem op_then_then (o : Op) (f g : Ev → Op) : (o.then f).then g = o.then fun σ => (f σ).then g := by cases o <;> rfl
theorem runP_cut (Φ : Str → List Dv → Rv Dv) : ∀ (n : Nat) (s : Sm) (σ : Ev), runP Φ s σ = (runP Φ (takeS n s) σ).then fun σ => runP Φ (dropS n s) σ
  | 0, s, σ => rfl
  | n + 1, s, σ => by
    cases s with
    | seq a b =>
      rw [takeS_s, dropS_s, q_seq, q_seq, op_then_then]
      rw [show (fun σ => runP Φ b σ) = (fun σ => (runP Φ (takeS n b) σ).then fun σ => runP Φ (dropS n b) σ) from funext fun σ => runP_cut Φ n b σ]
    | _ => exact (op_then_nx _).symm
theorem runFP_cut {Φ : Str → List Dv → Rv Dv} {fd : Fd} (k : Nat) {ds : List Dv} (h : ds.length = fd.np) : runFP Φ fd ds = ofP ((runP Φ (takeS k fd.body) (ds.map some ++ List.replicate (fd.n - ds.length) none)).then fun σ => runP Φ (dropS k fd.body) σ) := by
  rw [← runP_cut]
  exact if_pos h
theorem tryN_nx {σ : Ev} {c : Str} {h : Ev → Op} : tryNP (.nx σ) c h = .nx σ := rfl
theorem tryA_nx {σ : Ev} {c : Str} {i : Nat} {h : Ev → Op} : tryAP (.nx σ) c i h = .nx σ := rfl
theorem tryN_rt {d : Dv} {c : Str} {h : Ev → Op} : tryNP (.rt d) c h = .rt d := rfl
theorem tryA_rt {d : Dv} {c : Str} {i : Nat} {h : Ev → Op} : tryAP (.rt d) c i h = .rt d := rfl
def tryA2 (o : Op) : Op := match o with
  | .rt d => .rt d
  | _ => .bad
theorem tryA2_rt {d : Dv} : tryA2 (.rt d) = .rt d := rfl
theorem tryA_ex {c c' : Str} {σ : Ev} {i : Nat} {h : Ev → Op} : tryAP (.ex c' σ) c i h = if isSub c' c = true then tryA2 (h (σ.set i (some (.exc c')))) else .ex c' σ := by
  show (if isSub c' c = true then (match h (σ.set i (some (.exc c'))) with | .rt d => Op.rt d | _ => Op.bad) else Op.ex c' σ) = _
  split
  · cases h (σ.set i (some (.exc c'))) <;> rfl
  · rfl
def tryN2 (o : Op) : Op := match o with
  | .ex _ _ => .bad
  | o => o
theorem tryN2_rt {d : Dv} : tryN2 (.rt d) = .rt d := rfl
theorem tryN2_nx {σ : Ev} : tryN2 (.nx σ) = .nx σ := rfl
theorem tryN_ex {c c' : Str} {σ : Ev} {h : Ev → Op} : tryNP (.ex c' σ) c h = if isSub c' c = true then tryN2 (h σ) else .ex c' σ := by
  show (if isSub c' c = true then (match h σ with | .ex _ _ => Op.bad | o => o) else Op.ex c' σ) = _
  split
  · cases h σ <;> rfl
  · rfl

theorem lt0 : (0 < LIM) = True := by decide
theorem lt1 : (1 < LIM) = True := by decide
theorem lt2 : (2 < LIM) = True := by decide
theorem lt3 : (3 < LIM) = True := by decide
theorem lt4 : (4 < LIM) = True := by decide
theorem lt5 : (5 < LIM) = True := by decide
theorem lt6 : (6 < LIM) = True := by decide
theorem lt7 : (7 < LIM) = True := by decide
theorem lt8 : (8 < LIM) = True := by decide
theorem lt9 : (9 < LIM) = True := by decide
theorem lt10 : (10 < LIM) = True := by decide
theorem lt11 : (11 < LIM) = True := by decide
theorem lt12 : (12 < LIM) = True := by decide
theorem lt13 : (13 < LIM) = True := by decide
theorem lt14 : (14 < LIM) = True := by decide
theorem lt15 : (15 < LIM) = True := by decide
theorem le6 : (6 ≤ LIM) = True := by decide
theorem le7 : (7 ≤ LIM) = True := by decide
theorem le8 : (8 ≤ LIM) = True := by decide
theorem le9 : (9 ≤ LIM) = True := by decide
theorem le10 : (10 ≤ LIM) = True := by decide
theorem le11 : (11 ≤ LIM) = True := by decide
theorem le12 : (12 ≤ LIM) = True := by decide
theorem le13 : (13 ≤ LIM) = True := by decide
theorem le14 : (14 ≤ LIM) = True := by decide
theorem le15 : (15 ≤ LIM) = True := by decide
theorem le16 : (16 ≤ LIM) = True := by decide
theorem le17 : (17 ≤ LIM) = True := by decide
theorem le18 : (18 ≤ LIM) = True := by decide
theorem le19 : (19 ≤ LIM) = True := by decide
theorem le20 : (20 ≤ LIM) = True := by decide
theorem le21 : (21 ≤ LIM) = True := by decide
theorem le22 : (22 ≤ LIM) = True := by decide
theorem le23 : (23 ≤ LIM) = True := by decide
theorem le24 : (24 ≤ LIM) = True := by decide
theorem le25 : (25 ≤ LIM) = True := by decide
/-! ### while -/
theorem whNP_mono {c : Ev → Rv Dv} {b : Ev → Op} : ∀ {n : Nat} {σ : Ev}, whNP c b n σ ≠ .bad → whNP c b (n + 1) σ = whNP c b n σ
  | 0, _, h => absurd rfl h
  | n + 1, σ, h => by
    unfold whNP at h ⊢
    cases hc : c σ with
    | ok d =>
      rw [hc] at h
      simp only [Rv.on_ok] at h ⊢
      cases d with
      | bl t =>
        cases t with
        | false => rfl
        | true =>
          simp only [ifP] at h ⊢
          cases hb : b σ with
          | nx σ' =>
            rw [hb] at h
            exact whNP_mono h
          | ct σ' =>
            rw [hb] at h
            exact whNP_mono h
          | _ => rfl
      | _ => exact absurd rfl h
    | _ => rfl
theorem whNP_le {c : Ev → Rv Dv} {b : Ev → Op} {n m : Nat} {σ : Ev} (h : whNP c b n σ ≠ .bad) (hm : n ≤ m) : whNP c b m σ = whNP c b n σ := by
  induction hm with
  | refl => rfl
  | step hm ih => rw [whNP_mono (by rw [ih]; exact h), ih]
theorem whLP_of {c : Ev → Rv Dv} {b : Ev → Op} {n : Nat} {σ : Ev} (h : whNP c b n σ ≠ .bad) : whLP c b σ = whNP c b n σ := by
  unfold whLP
  have hex : ∃ n, whNP c b n σ ≠ .bad := ⟨n, h⟩
  rw [dif_pos hex]
  have h2 := Classical.choose_spec hex
  by_cases hle : n ≤ Classical.choose hex
  · exact whNP_le h hle
  · exact (whNP_le h2 (by omega)).symm
/-- a while's first turn, where it goes on -/
theorem whLP_go {c : Ev → Rv Dv} {b : Ev → Op} {σ σ' : Ev} {o : Op} (h1 : c σ = .ok (.bl true)) (h2 : b σ = .nx σ') (h3 : whLP c b σ' = o) (hb : o ≠ .bad) : whLP c b σ = o := by
  have hex : ∃ n, whNP c b n σ' ≠ .bad := by
    by_cases hex : ∃ n, whNP c b n σ' ≠ .bad
    · exact hex
    · exfalso
      unfold whLP at h3
      rw [dif_neg hex] at h3
      exact hb h3.symm
  obtain ⟨n, hn⟩ := hex
  have e : whNP c b (n + 1) σ = whNP c b n σ' := by
    rw [whNP, h1]
    show ifP (.bl true) ((b σ).turn fun σ => whNP c b n σ) (.nx σ) = _
    rw [h2]
    rfl
  rw [whLP_of (n := n + 1) (by rw [e]; exact hn), e, ← h3, whLP_of hn]
theorem wh_go {Φ : Str → List Dv → Rv Dv} {c : Ex} {b : Sm} {σ σ' : Ev} {o : Op} (h1 : evP Φ c σ = .ok (.bl true)) (h2 : runP Φ b σ = .nx σ') (h3 : whP Φ c b σ' = o) (hb : o ≠ .bad) : whP Φ c b σ = o := whLP_go h1 h2 h3 hb
theorem wh_end {Φ : Str → List Dv → Rv Dv} {c : Ex} {b : Sm} {σ : Ev} (h1 : evP Φ c σ = .ok (.bl false)) : whP Φ c b σ = .nx σ := by
  unfold whP
  rw [whLP_of (n := 1)]
  · rw [whNP, h1]
    rfl
  · rw [whNP, h1]
    exact fun z => by cases z
/-- a while, by what holds at each turn and what grows less -/
theorem wh_inv {Φ : Str → List Dv → Rv Dv} {c : Ex} {b : Sm} (I : Nat → Ev → Prop) (E : Ev → Prop) (step : ∀ n σ, I n σ → (evP Φ c σ = .ok (.bl false) ∧ E σ) ∨ (evP Φ c σ = .ok (.bl true) ∧ ∃ m σ', m < n ∧ runP Φ b σ = .nx σ' ∧ I m σ')) : ∀ (n : Nat) (σ : Ev), I n σ → ∃ σ', whP Φ c b σ = .nx σ' ∧ E σ' := by
  intro n
  induction n using Nat.strongRecOn with
  | ind n ih =>
    intro σ h
    rcases step n σ h with ⟨h1, h2⟩ | ⟨h1, m, σ', hm, h2, h3⟩
    · exact ⟨σ, wh_end h1, h2⟩
    · obtain ⟨σ2, h4, h5⟩ := ih m hm σ' h3
      exact ⟨σ2, wh_go h1 h2 h4 (fun z => by cases z), h5⟩
/-! places -/
section
variable {xs : List Dv}
theorem at_0 {a : Dv} : L2.atI (a :: xs) 0 = some a := by
  unfold L2.atI L2.ixN
  simp
theorem at_nat {α : Type} {xs : List α} {k : Nat} (h : k < xs.length) : L2.atI xs (k : Int) = xs[k]? := by
  unfold L2.atI L2.ixN
  rw [if_pos (by omega), if_pos (by omega)]
  rfl
theorem at_1 {a b : Dv} : L2.atI (a :: b :: xs) 1 = some b := (at_nat (k := 1) (by simp)).trans rfl
theorem at_2 {a b c : Dv} : L2.atI (a :: b :: c :: xs) 2 = some c := (at_nat (k := 2) (by simp)).trans rfl
theorem at_3 {a b c d : Dv} : L2.atI (a :: b :: c :: d :: xs) 3 = some d := (at_nat (k := 3) (by simp)).trans rfl
theorem at_m1 {a : Dv} : L2.atI (xs ++ [a]) (-1) = some a := by
  unfold L2.atI L2.ixN
  rw [if_neg (by decide), if_pos (by simp; omega)]
  have e : (-1 + ((xs ++ [a]).length : Int)).toNat = xs.length := by simp; omega
  show (xs ++ [a])[(-1 + ((xs ++ [a]).length : Int)).toNat]? = _
  rw [e]
  simp
theorem at_m2 {a b : Dv} : L2.atI (xs ++ [a, b]) (-2) = some a := by
  unfold L2.atI L2.ixN
  rw [if_neg (by decide), if_pos (by simp; omega)]
  have e : (-2 + ((xs ++ [a, b]).length : Int)).toNat = xs.length := by simp; omega
  show (xs ++ [a, b])[(-2 + ((xs ++ [a, b]).length : Int)).toNat]? = _
  rw [e]
  simp
theorem at_app {pre r : List Dv} {d : Dv} {k : Int} (h : k = pre.length) : L2.atI (pre ++ d :: r) k = some d := by
  subst h
  rw [at_nat (by simp), List.getElem?_append_right (Nat.le_refl _), Nat.sub_self]
  rfl
/-- a place of a row of things of one kind -/
theorem at_map {α : Type} {f : α → Dv} {ys : List α} {k : Nat} {y : α} (h : ys[k]? = some y) : L2.atI (ys.map f) (k : Int) = some (f y) := by
  have hk : k < ys.length := by
    by_cases hk : k < ys.length
    · exact hk
    · rw [List.getElem?_eq_none (by omega)] at h
      cases h
  rw [at_nat (by rw [List.length_map]; exact hk), List.getElem?_map, h]
  rfl
end
end FP

namespace Q
open PySem PySem.Spec PyProof.Rows L2 MP FP
/- is_whole: 0:thing -/
def F_is_whole : Fd := ⟨1, 1,
  (.seq (.ret (.and (.isi (.v 0) .int) (.not (.isi (.v 0) .bool))))
  .pass)⟩
/- divisor: 0:one 1:other 2:rest -/
def C_divisor_1 : Ex := (.cmp .gt (.v 1) (.int 0))
theorem VC_divisor_1 {Φ : Str → List Dv → Rv Dv} {σ : Ev} : evP Φ C_divisor_1 σ = evP Φ (.cmp .gt (.v 1) (.int 0)) σ := rfl
def B_divisor_1 : Sm := (.seq (.set 2 (.bin .mod (.v 0) (.v 1)))
  (.seq (.set 0 (.v 1))
  (.seq (.set 1 (.v 2))
  .pass)))
theorem VB_divisor_1 {Φ : Str → List Dv → Rv Dv} {σ : Ev} : runP Φ B_divisor_1 σ = runP Φ (.seq (.set 2 (.bin .mod (.v 0) (.v 1)))
  (.seq (.set 0 (.v 1))
  (.seq (.set 1 (.v 2))
  .pass))) σ := rfl
def F_divisor : Fd := ⟨2, 3,
  (.seq (.set 0 (.bi .abs (.cons (.v 0) .nil)))
  (.seq (.set 1 (.bi .abs (.cons (.v 1) .nil)))
  (.seq (.wh C_divisor_1 B_divisor_1)
  (.seq (.ret (.v 0))
  .pass))))⟩
/- ratio: 0:top 1:bottom 2:many -/
def F_ratio : Fd := ⟨2, 3,
  (.seq (.ite (.or (.not (.call "is_whole" (.cons (.v 0) .nil))) (.or (.not (.call "is_whole" (.cons (.v 1) .nil))) (.cmp .eq (.v 1) (.int 0))))
    (.seq (.raise "NoRatio")
    .pass)
    .pass)
  (.seq (.ite (.cmp .eq (.v 1) (.int 1))
    (.seq (.ret (.tup (.cons (.v 0) (.cons (.int 1) .nil))))
    .pass)
    .pass)
  (.seq (.set 2 (.call "divisor" (.cons (.v 0) (.cons (.v 1) .nil))))
  (.seq (.ite (.cmp .lt (.v 1) (.int 0))
    (.seq (.set 2 (.neg (.v 2)))
    .pass)
    .pass)
  (.seq (.ret (.tup (.cons (.bin .fdiv (.v 0) (.v 2)) (.cons (.bin .fdiv (.v 1) (.v 2)) .nil))))
  .pass)))))⟩
/- plus: 0:one 1:other -/
def F_plus : Fd := ⟨2, 2,
  (.seq (.ite (.cmp .eq (.ix (.v 0) (.int 1)) (.ix (.v 1) (.int 1)))
    (.seq (.ret (.call "ratio" (.cons (.bin .add (.ix (.v 0) (.int 0)) (.ix (.v 1) (.int 0))) (.cons (.ix (.v 0) (.int 1)) .nil))))
    .pass)
    .pass)
  (.seq (.ret (.call "ratio" (.cons (.bin .add (.bin .mul (.ix (.v 0) (.int 0)) (.ix (.v 1) (.int 1))) (.bin .mul (.ix (.v 1) (.int 0)) (.ix (.v 0) (.int 1)))) (.cons (.bin .mul (.ix (.v 0) (.int 1)) (.ix (.v 1) (.int 1))) .nil))))
  .pass))⟩
/- minus: 0:one 1:other -/
def F_minus : Fd := ⟨2, 2,
  (.seq (.ite (.cmp .eq (.ix (.v 0) (.int 1)) (.ix (.v 1) (.int 1)))
    (.seq (.ret (.call "ratio" (.cons (.bin .sub (.ix (.v 0) (.int 0)) (.ix (.v 1) (.int 0))) (.cons (.ix (.v 0) (.int 1)) .nil))))
    .pass)
    .pass)
  (.seq (.ret (.call "ratio" (.cons (.bin .sub (.bin .mul (.ix (.v 0) (.int 0)) (.ix (.v 1) (.int 1))) (.bin .mul (.ix (.v 1) (.int 0)) (.ix (.v 0) (.int 1)))) (.cons (.bin .mul (.ix (.v 0) (.int 1)) (.ix (.v 1) (.int 1))) .nil))))
  .pass))⟩
/- times: 0:one 1:other -/
def F_times : Fd := ⟨2, 2,
  (.seq (.ret (.call "ratio" (.cons (.bin .mul (.ix (.v 0) (.int 0)) (.ix (.v 1) (.int 0))) (.cons (.bin .mul (.ix (.v 0) (.int 1)) (.ix (.v 1) (.int 1))) .nil))))
  .pass)⟩
/- over: 0:one 1:other -/
def F_over : Fd := ⟨2, 2,
  (.seq (.ite (.cmp .eq (.ix (.v 1) (.int 0)) (.int 0))
    (.seq (.raise "NoRatio")
    .pass)
    .pass)
  (.seq (.ret (.call "ratio" (.cons (.bin .mul (.ix (.v 0) (.int 0)) (.ix (.v 1) (.int 1))) (.cons (.bin .mul (.ix (.v 0) (.int 1)) (.ix (.v 1) (.int 0))) .nil))))
  .pass))⟩
/- under: 0:one 1:other -/
def F_under : Fd := ⟨2, 2,
  (.seq (.ret (.cmp .lt (.bin .mul (.ix (.v 0) (.int 0)) (.ix (.v 1) (.int 1))) (.bin .mul (.ix (.v 1) (.int 0)) (.ix (.v 0) (.int 1)))))
  .pass)⟩
/- lesser: 0:one 1:other -/
def F_lesser : Fd := ⟨2, 2,
  (.seq (.ite (.call "under" (.cons (.v 1) (.cons (.v 0) .nil)))
    (.seq (.ret (.v 1))
    .pass)
    .pass)
  (.seq (.ret (.v 0))
  .pass))⟩
/- slope_between: 0:one 1:other -/
def F_slope_between : Fd := ⟨2, 2,
  (.seq (.ret (.call "over" (.cons (.call "minus" (.cons (.ix (.v 1) (.int 1)) (.cons (.ix (.v 0) (.int 1)) .nil))) (.cons (.call "minus" (.cons (.ix (.v 1) (.int 0)) (.cons (.ix (.v 0) (.int 0)) .nil))) .nil))))
  .pass)⟩
/- slopes_of: 0:corners 1:last 2:slopes 3:k -/
def B_slopes_of_1 : Sm := (.seq (.ex (.me .append (.v 2) (.cons (.call "slope_between" (.cons (.ix (.v 0) (.bin .sub (.v 3) (.int 1))) (.cons (.ix (.v 0) (.v 3)) .nil))) .nil)))
  .pass)
theorem VB_slopes_of_1 {Φ : Str → List Dv → Rv Dv} {σ : Ev} : runP Φ B_slopes_of_1 σ = runP Φ (.seq (.ex (.me .append (.v 2) (.cons (.call "slope_between" (.cons (.ix (.v 0) (.bin .sub (.v 3) (.int 1))) (.cons (.ix (.v 0) (.v 3)) .nil))) .nil)))
  .pass) σ := rfl
def F_slopes_of : Fd := ⟨2, 4,
  (.seq (.set 2 (.lst .nil))
  (.seq (.for_ 3 (.rng (.cons (.int 1) (.cons (.bi .len (.cons (.v 0) .nil)) .nil))) B_slopes_of_1)
  (.seq (.ex (.me .append (.v 2) (.cons (.v 1) .nil)))
  (.seq (.ret (.v 2))
  .pass))))⟩
/- folded: 0:corners 1:last 2:slopes 3:kept 4:k -/
def B_folded_1 : Sm := (.seq (.ite (.cmp .ne (.ix (.v 2) (.bin .sub (.v 4) (.int 1))) (.ix (.v 2) (.v 4)))
    (.seq (.ex (.me .append (.v 3) (.cons (.ix (.v 0) (.v 4)) .nil)))
    .pass)
    .pass)
  .pass)
theorem VB_folded_1 {Φ : Str → List Dv → Rv Dv} {σ : Ev} : runP Φ B_folded_1 σ = runP Φ (.seq (.ite (.cmp .ne (.ix (.v 2) (.bin .sub (.v 4) (.int 1))) (.ix (.v 2) (.v 4)))
    (.seq (.ex (.me .append (.v 3) (.cons (.ix (.v 0) (.v 4)) .nil)))
    .pass)
    .pass)
  .pass) σ := rfl
def F_folded : Fd := ⟨2, 5,
  (.seq (.set 2 (.call "slopes_of" (.cons (.v 0) (.cons (.v 1) .nil))))
  (.seq (.set 3 (.lst (.cons (.ix (.v 0) (.int 0)) .nil)))
  (.seq (.for_ 4 (.rng (.cons (.int 1) (.cons (.bi .len (.cons (.v 0) .nil)) .nil))) B_folded_1)
  (.seq (.ret (.v 3))
  .pass))))⟩
/- made: 0:corners 1:last -/
def F_made : Fd := ⟨2, 2,
  (.seq (.ret (.tup (.cons (.bi .tuple (.cons (.call "folded" (.cons (.v 0) (.cons (.v 1) .nil))) .nil)) (.cons (.v 1) .nil))))
  .pass)⟩
/- curve: 0:corners 1:last 2:k -/
def B_curve_1 : Sm := (.seq (.ite (.not (.call "under" (.cons (.ix (.ix (.v 0) (.bin .sub (.v 2) (.int 1))) (.int 0)) (.cons (.ix (.ix (.v 0) (.v 2)) (.int 0)) .nil))))
    (.seq (.raise "NoCurve")
    .pass)
    .pass)
  (.seq (.ite (.call "under" (.cons (.ix (.ix (.v 0) (.v 2)) (.int 1)) (.cons (.ix (.ix (.v 0) (.bin .sub (.v 2) (.int 1))) (.int 1)) .nil)))
    (.seq (.raise "NoCurve")
    .pass)
    .pass)
  .pass))
theorem VB_curve_1 {Φ : Str → List Dv → Rv Dv} {σ : Ev} : runP Φ B_curve_1 σ = runP Φ (.seq (.ite (.not (.call "under" (.cons (.ix (.ix (.v 0) (.bin .sub (.v 2) (.int 1))) (.int 0)) (.cons (.ix (.ix (.v 0) (.v 2)) (.int 0)) .nil))))
    (.seq (.raise "NoCurve")
    .pass)
    .pass)
  (.seq (.ite (.call "under" (.cons (.ix (.ix (.v 0) (.v 2)) (.int 1)) (.cons (.ix (.ix (.v 0) (.bin .sub (.v 2) (.int 1))) (.int 1)) .nil)))
    (.seq (.raise "NoCurve")
    .pass)
    .pass)
  .pass)) σ := rfl
def F_curve : Fd := ⟨2, 3,
  (.seq (.ite (.or (.cmp .eq (.bi .len (.cons (.v 0) .nil)) (.int 0)) (.call "under" (.cons (.v 1) (.cons (.k "NOUGHT" (.tup (.cons (.int 0) (.cons (.int 1) .nil)))) .nil))))
    (.seq (.raise "NoCurve")
    .pass)
    .pass)
  (.seq (.ite (.or (.cmp .ne (.ix (.ix (.v 0) (.int 0)) (.int 0)) (.k "NOUGHT" (.tup (.cons (.int 0) (.cons (.int 1) .nil))))) (.call "under" (.cons (.ix (.ix (.v 0) (.int 0)) (.int 1)) (.cons (.k "NOUGHT" (.tup (.cons (.int 0) (.cons (.int 1) .nil)))) .nil))))
    (.seq (.raise "NoCurve")
    .pass)
    .pass)
  (.seq (.for_ 2 (.rng (.cons (.int 1) (.cons (.bi .len (.cons (.v 0) .nil)) .nil))) B_curve_1)
  (.seq (.ret (.call "made" (.cons (.v 0) (.cons (.v 1) .nil))))
  .pass))))⟩
/- place_of: 0:f 1:t 2:corners 3:place -/
def C_place_of_1 : Ex := (.and (.cmp .lt (.bin .add (.v 3) (.int 1)) (.bi .len (.cons (.v 2) .nil))) (.not (.call "under" (.cons (.v 1) (.cons (.ix (.ix (.v 2) (.bin .add (.v 3) (.int 1))) (.int 0)) .nil)))))
theorem VC_place_of_1 {Φ : Str → List Dv → Rv Dv} {σ : Ev} : evP Φ C_place_of_1 σ = evP Φ (.and (.cmp .lt (.bin .add (.v 3) (.int 1)) (.bi .len (.cons (.v 2) .nil))) (.not (.call "under" (.cons (.v 1) (.cons (.ix (.ix (.v 2) (.bin .add (.v 3) (.int 1))) (.int 0)) .nil))))) σ := rfl
def B_place_of_1 : Sm := (.seq (.aug 3 .add (.int 1))
  .pass)
theorem VB_place_of_1 {Φ : Str → List Dv → Rv Dv} {σ : Ev} : runP Φ B_place_of_1 σ = runP Φ (.seq (.aug 3 .add (.int 1))
  .pass) σ := rfl
def F_place_of : Fd := ⟨2, 4,
  (.seq (.ite (.call "under" (.cons (.v 1) (.cons (.k "NOUGHT" (.tup (.cons (.int 0) (.cons (.int 1) .nil)))) .nil)))
    (.seq (.raise "NoTime")
    .pass)
    .pass)
  (.seq (.set 2 (.ix (.v 0) (.int 0)))
  (.seq (.set 3 (.int 0))
  (.seq (.wh C_place_of_1 B_place_of_1)
  (.seq (.ret (.v 3))
  .pass)))))⟩
/- slope_behind: 0:f 1:place -/
def F_slope_behind : Fd := ⟨2, 2,
  (.seq (.ite (.cmp .lt (.bin .add (.v 1) (.int 1)) (.bi .len (.cons (.ix (.v 0) (.int 0)) .nil)))
    (.seq (.ret (.call "slope_between" (.cons (.ix (.ix (.v 0) (.int 0)) (.v 1)) (.cons (.ix (.ix (.v 0) (.int 0)) (.bin .add (.v 1) (.int 1))) .nil))))
    .pass)
    .pass)
  (.seq (.ret (.ix (.v 0) (.int 1)))
  .pass))⟩
/- value_at: 0:f 1:t 2:place 3:corner -/
def F_value_at : Fd := ⟨2, 4,
  (.seq (.set 2 (.call "place_of" (.cons (.v 0) (.cons (.v 1) .nil))))
  (.seq (.set 3 (.ix (.ix (.v 0) (.int 0)) (.v 2)))
  (.seq (.ite (.cmp .eq (.ix (.v 3) (.int 0)) (.v 1))
    (.seq (.ret (.ix (.v 3) (.int 1)))
    .pass)
    .pass)
  (.seq (.ret (.call "plus" (.cons (.ix (.v 3) (.int 1)) (.cons (.call "times" (.cons (.call "slope_behind" (.cons (.v 0) (.cons (.v 2) .nil))) (.cons (.call "minus" (.cons (.v 1) (.cons (.ix (.v 3) (.int 0)) .nil))) .nil))) .nil))))
  .pass))))⟩
/- along: 0:f 1:place 2:at 3:corner -/
def F_along : Fd := ⟨3, 4,
  (.seq (.set 3 (.ix (.ix (.v 0) (.int 0)) (.v 1)))
  (.seq (.ret (.call "plus" (.cons (.ix (.v 3) (.int 1)) (.cons (.call "times" (.cons (.call "slope_behind" (.cons (.v 0) (.cons (.v 1) .nil))) (.cons (.call "minus" (.cons (.v 2) (.cons (.ix (.v 3) (.int 0)) .nil))) .nil))) .nil))))
  .pass))⟩
/- grid: 0:f 1:g 2:rows 3:i 4:j 5:corner -/
def C_grid_1 : Ex := (.or (.cmp .lt (.v 3) (.bi .len (.cons (.ix (.v 0) (.int 0)) .nil))) (.cmp .lt (.v 4) (.bi .len (.cons (.ix (.v 1) (.int 0)) .nil))))
theorem VC_grid_1 {Φ : Str → List Dv → Rv Dv} {σ : Ev} : evP Φ C_grid_1 σ = evP Φ (.or (.cmp .lt (.v 3) (.bi .len (.cons (.ix (.v 0) (.int 0)) .nil))) (.cmp .lt (.v 4) (.bi .len (.cons (.ix (.v 1) (.int 0)) .nil)))) σ := rfl
def B_grid_1 : Sm := (.seq (.ite (.or (.cmp .eq (.v 4) (.bi .len (.cons (.ix (.v 1) (.int 0)) .nil))) (.and (.cmp .lt (.v 3) (.bi .len (.cons (.ix (.v 0) (.int 0)) .nil))) (.call "under" (.cons (.ix (.ix (.ix (.v 0) (.int 0)) (.v 3)) (.int 0)) (.cons (.ix (.ix (.ix (.v 1) (.int 0)) (.v 4)) (.int 0)) .nil)))))
    (.seq (.set 5 (.ix (.ix (.v 0) (.int 0)) (.v 3)))
    (.seq (.ex (.me .append (.v 2) (.cons (.tup (.cons (.ix (.v 5) (.int 0)) (.cons (.ix (.v 5) (.int 1)) (.cons (.call "along" (.cons (.v 1) (.cons (.bin .sub (.v 4) (.int 1)) (.cons (.ix (.v 5) (.int 0)) .nil)))) .nil)))) .nil)))
    (.seq (.aug 3 .add (.int 1))
    .pass)))
    (.seq (.ite (.or (.cmp .eq (.v 3) (.bi .len (.cons (.ix (.v 0) (.int 0)) .nil))) (.call "under" (.cons (.ix (.ix (.ix (.v 1) (.int 0)) (.v 4)) (.int 0)) (.cons (.ix (.ix (.ix (.v 0) (.int 0)) (.v 3)) (.int 0)) .nil))))
      (.seq (.set 5 (.ix (.ix (.v 1) (.int 0)) (.v 4)))
      (.seq (.ex (.me .append (.v 2) (.cons (.tup (.cons (.ix (.v 5) (.int 0)) (.cons (.call "along" (.cons (.v 0) (.cons (.bin .sub (.v 3) (.int 1)) (.cons (.ix (.v 5) (.int 0)) .nil)))) (.cons (.ix (.v 5) (.int 1)) .nil)))) .nil)))
      (.seq (.aug 4 .add (.int 1))
      .pass)))
      (.seq (.ex (.me .append (.v 2) (.cons (.tup (.cons (.ix (.ix (.ix (.v 0) (.int 0)) (.v 3)) (.int 0)) (.cons (.ix (.ix (.ix (.v 0) (.int 0)) (.v 3)) (.int 1)) (.cons (.ix (.ix (.ix (.v 1) (.int 0)) (.v 4)) (.int 1)) .nil)))) .nil)))
      (.seq (.aug 3 .add (.int 1))
      (.seq (.aug 4 .add (.int 1))
      .pass))))
    .pass))
  .pass)
theorem VB_grid_1 {Φ : Str → List Dv → Rv Dv} {σ : Ev} : runP Φ B_grid_1 σ = runP Φ (.seq (.ite (.or (.cmp .eq (.v 4) (.bi .len (.cons (.ix (.v 1) (.int 0)) .nil))) (.and (.cmp .lt (.v 3) (.bi .len (.cons (.ix (.v 0) (.int 0)) .nil))) (.call "under" (.cons (.ix (.ix (.ix (.v 0) (.int 0)) (.v 3)) (.int 0)) (.cons (.ix (.ix (.ix (.v 1) (.int 0)) (.v 4)) (.int 0)) .nil)))))
    (.seq (.set 5 (.ix (.ix (.v 0) (.int 0)) (.v 3)))
    (.seq (.ex (.me .append (.v 2) (.cons (.tup (.cons (.ix (.v 5) (.int 0)) (.cons (.ix (.v 5) (.int 1)) (.cons (.call "along" (.cons (.v 1) (.cons (.bin .sub (.v 4) (.int 1)) (.cons (.ix (.v 5) (.int 0)) .nil)))) .nil)))) .nil)))
    (.seq (.aug 3 .add (.int 1))
    .pass)))
    (.seq (.ite (.or (.cmp .eq (.v 3) (.bi .len (.cons (.ix (.v 0) (.int 0)) .nil))) (.call "under" (.cons (.ix (.ix (.ix (.v 1) (.int 0)) (.v 4)) (.int 0)) (.cons (.ix (.ix (.ix (.v 0) (.int 0)) (.v 3)) (.int 0)) .nil))))
      (.seq (.set 5 (.ix (.ix (.v 1) (.int 0)) (.v 4)))
      (.seq (.ex (.me .append (.v 2) (.cons (.tup (.cons (.ix (.v 5) (.int 0)) (.cons (.call "along" (.cons (.v 0) (.cons (.bin .sub (.v 3) (.int 1)) (.cons (.ix (.v 5) (.int 0)) .nil)))) (.cons (.ix (.v 5) (.int 1)) .nil)))) .nil)))
      (.seq (.aug 4 .add (.int 1))
      .pass)))
      (.seq (.ex (.me .append (.v 2) (.cons (.tup (.cons (.ix (.ix (.ix (.v 0) (.int 0)) (.v 3)) (.int 0)) (.cons (.ix (.ix (.ix (.v 0) (.int 0)) (.v 3)) (.int 1)) (.cons (.ix (.ix (.ix (.v 1) (.int 0)) (.v 4)) (.int 1)) .nil)))) .nil)))
      (.seq (.aug 3 .add (.int 1))
      (.seq (.aug 4 .add (.int 1))
      .pass))))
    .pass))
  .pass) σ := rfl
def F_grid : Fd := ⟨2, 6,
  (.seq (.set 2 (.lst .nil))
  (.seq (.set 3 (.int 0))
  (.seq (.set 4 (.int 0))
  (.seq (.wh C_grid_1 B_grid_1)
  (.seq (.ret (.v 2))
  .pass)))))⟩
/- gap_of: 0:row -/
def F_gap_of : Fd := ⟨1, 1,
  (.seq (.ret (.call "minus" (.cons (.ix (.v 0) (.int 1)) (.cons (.ix (.v 0) (.int 2)) .nil))))
  .pass)⟩
/- met_between: 0:row 1:later 2:gap 3:other 4:part 5:both -/
def F_met_between : Fd := ⟨2, 6,
  (.seq (.set 2 (.call "gap_of" (.cons (.v 0) .nil)))
  (.seq (.set 3 (.call "gap_of" (.cons (.v 1) .nil)))
  (.seq (.ite (.cmp .ge (.bin .mul (.ix (.v 2) (.int 0)) (.ix (.v 3) (.int 0))) (.int 0))
    (.seq (.ret .non)
    .pass)
    .pass)
  (.seq (.set 4 (.call "over" (.cons (.v 2) (.cons (.call "minus" (.cons (.v 2) (.cons (.v 3) .nil))) .nil))))
  (.seq (.set 5 (.call "plus" (.cons (.ix (.v 0) (.int 1)) (.cons (.call "times" (.cons (.v 4) (.cons (.call "minus" (.cons (.ix (.v 1) (.int 1)) (.cons (.ix (.v 0) (.int 1)) .nil))) .nil))) .nil))))
  (.seq (.ret (.tup (.cons (.call "plus" (.cons (.ix (.v 0) (.int 0)) (.cons (.call "times" (.cons (.v 4) (.cons (.call "minus" (.cons (.ix (.v 1) (.int 0)) (.cons (.ix (.v 0) (.int 0)) .nil))) .nil))) .nil))) (.cons (.v 5) (.cons (.v 5) .nil)))))
  .pass))))))⟩
/- met_behind: 0:row 1:slope 2:other 3:gap 4:loss 5:span 6:both -/
def F_met_behind : Fd := ⟨3, 7,
  (.seq (.set 3 (.call "gap_of" (.cons (.v 0) .nil)))
  (.seq (.set 4 (.call "minus" (.cons (.v 2) (.cons (.v 1) .nil))))
  (.seq (.ite (.cmp .le (.bin .mul (.ix (.v 3) (.int 0)) (.ix (.v 4) (.int 0))) (.int 0))
    (.seq (.ret .non)
    .pass)
    .pass)
  (.seq (.set 5 (.call "over" (.cons (.v 3) (.cons (.v 4) .nil))))
  (.seq (.set 6 (.call "plus" (.cons (.ix (.v 0) (.int 1)) (.cons (.call "times" (.cons (.v 1) (.cons (.v 5) .nil))) .nil))))
  (.seq (.ret (.tup (.cons (.call "plus" (.cons (.ix (.v 0) (.int 0)) (.cons (.v 5) .nil))) (.cons (.v 6) (.cons (.v 6) .nil)))))
  .pass))))))⟩
/- stops: 0:f 1:g 2:rows 3:found 4:k 5:met -/
def B_stops_1 : Sm := (.seq (.ex (.me .append (.v 3) (.cons (.ix (.v 2) (.v 4)) .nil)))
  (.seq (.ite (.cmp .lt (.bin .add (.v 4) (.int 1)) (.bi .len (.cons (.v 2) .nil)))
    (.seq (.set 5 (.call "met_between" (.cons (.ix (.v 2) (.v 4)) (.cons (.ix (.v 2) (.bin .add (.v 4) (.int 1))) .nil))))
    .pass)
    (.seq (.set 5 (.call "met_behind" (.cons (.ix (.v 2) (.v 4)) (.cons (.ix (.v 0) (.int 1)) (.cons (.ix (.v 1) (.int 1)) .nil)))))
    .pass))
  (.seq (.ite (.notn (.v 5))
    (.seq (.ex (.me .append (.v 3) (.cons (.v 5) .nil)))
    .pass)
    .pass)
  .pass)))
theorem VB_stops_1 {Φ : Str → List Dv → Rv Dv} {σ : Ev} : runP Φ B_stops_1 σ = runP Φ (.seq (.ex (.me .append (.v 3) (.cons (.ix (.v 2) (.v 4)) .nil)))
  (.seq (.ite (.cmp .lt (.bin .add (.v 4) (.int 1)) (.bi .len (.cons (.v 2) .nil)))
    (.seq (.set 5 (.call "met_between" (.cons (.ix (.v 2) (.v 4)) (.cons (.ix (.v 2) (.bin .add (.v 4) (.int 1))) .nil))))
    .pass)
    (.seq (.set 5 (.call "met_behind" (.cons (.ix (.v 2) (.v 4)) (.cons (.ix (.v 0) (.int 1)) (.cons (.ix (.v 1) (.int 1)) .nil)))))
    .pass))
  (.seq (.ite (.notn (.v 5))
    (.seq (.ex (.me .append (.v 3) (.cons (.v 5) .nil)))
    .pass)
    .pass)
  .pass))) σ := rfl
def F_stops : Fd := ⟨2, 6,
  (.seq (.set 2 (.call "grid" (.cons (.v 0) (.cons (.v 1) .nil))))
  (.seq (.set 3 (.lst .nil))
  (.seq (.for_ 4 (.rng (.cons (.bi .len (.cons (.v 2) .nil)) .nil)) B_stops_1)
  (.seq (.ret (.v 3))
  .pass))))⟩
/- chosen: 0:f 1:g 2:choose 3:rows 4:row 5:corners 6:end 7:later -/
def C_chosen_1 : Ex := (.bl true)
theorem VC_chosen_1 {Φ : Str → List Dv → Rv Dv} {σ : Ev} : evP Φ C_chosen_1 σ = evP Φ (.bl true) σ := rfl
def E_chosen_1 : Ex := (.tup (.cons (.ix (.v 4) (.int 0)) (.cons (.callv 2 (.cons (.ix (.v 4) (.int 1)) (.cons (.ix (.v 4) (.int 2)) .nil))) .nil)))
theorem VE_chosen_1 {Φ : Str → List Dv → Rv Dv} {σ : Ev} : evP Φ E_chosen_1 σ = evP Φ (.tup (.cons (.ix (.v 4) (.int 0)) (.cons (.callv 2 (.cons (.ix (.v 4) (.int 1)) (.cons (.ix (.v 4) (.int 2)) .nil))) .nil))) σ := rfl
def F_chosen : Fd := ⟨3, 8,
  (.seq (.set 3 (.call "stops" (.cons (.v 0) (.cons (.v 1) .nil))))
  (.seq (.set 5 (.lc 4 (.v 3) C_chosen_1 E_chosen_1))
  (.seq (.set 6 (.ix (.v 3) (.neg (.int 1))))
  (.seq (.set 7 (.callv 2 (.cons (.call "plus" (.cons (.ix (.v 6) (.int 1)) (.cons (.ix (.v 0) (.int 1)) .nil))) (.cons (.call "plus" (.cons (.ix (.v 6) (.int 2)) (.cons (.ix (.v 1) (.int 1)) .nil))) .nil))))
  (.seq (.ret (.call "curve" (.cons (.v 5) (.cons (.call "minus" (.cons (.v 7) (.cons (.ix (.ix (.v 5) (.neg (.int 1))) (.int 1)) .nil))) .nil))))
  .pass)))))⟩
/- least: 0:f 1:g -/
def F_least : Fd := ⟨2, 2,
  (.seq (.ret (.call "chosen" (.cons (.v 0) (.cons (.v 1) (.cons (.f "lesser") .nil)))))
  .pass)⟩
/- spliced: 0:f 1:a 2:g 3:high 4:corner 5:corners 6:base -/
def C_spliced_1 : Ex := (.call "under" (.cons (.ix (.v 4) (.int 0)) (.cons (.v 1) .nil)))
theorem VC_spliced_1 {Φ : Str → List Dv → Rv Dv} {σ : Ev} : evP Φ C_spliced_1 σ = evP Φ (.call "under" (.cons (.ix (.v 4) (.int 0)) (.cons (.v 1) .nil))) σ := rfl
def E_spliced_1 : Ex := (.v 4)
theorem VE_spliced_1 {Φ : Str → List Dv → Rv Dv} {σ : Ev} : evP Φ E_spliced_1 σ = evP Φ (.v 4) σ := rfl
def B_spliced_2 : Sm := (.seq (.ex (.me .append (.v 5) (.cons (.tup (.cons (.call "plus" (.cons (.v 1) (.cons (.ix (.v 4) (.int 0)) .nil))) (.cons (.call "plus" (.cons (.v 6) (.cons (.ix (.v 4) (.int 1)) .nil))) .nil))) .nil)))
  .pass)
theorem VB_spliced_2 {Φ : Str → List Dv → Rv Dv} {σ : Ev} : runP Φ B_spliced_2 σ = runP Φ (.seq (.ex (.me .append (.v 5) (.cons (.tup (.cons (.call "plus" (.cons (.v 1) (.cons (.ix (.v 4) (.int 0)) .nil))) (.cons (.call "plus" (.cons (.v 6) (.cons (.ix (.v 4) (.int 1)) .nil))) .nil))) .nil)))
  .pass) σ := rfl
def F_spliced : Fd := ⟨3, 7,
  (.seq (.set 3 (.call "value_at" (.cons (.v 0) (.cons (.v 1) .nil))))
  (.seq (.set 5 (.lc 4 (.ix (.v 0) (.int 0)) C_spliced_1 E_spliced_1))
  (.seq (.ex (.me .append (.v 5) (.cons (.tup (.cons (.v 1) (.cons (.v 3) .nil))) .nil)))
  (.seq (.set 6 (.call "minus" (.cons (.v 3) (.cons (.ix (.ix (.ix (.v 2) (.int 0)) (.int 0)) (.int 1)) .nil))))
  (.seq (.for_ 4 (.sl (.ix (.v 2) (.int 0)) (.int 1) .absent) B_spliced_2)
  (.seq (.ret (.call "made" (.cons (.v 5) (.cons (.ix (.v 2) (.int 1)) .nil))))
  .pass))))))⟩
/- raised: 0:f 1:value 2:corner -/
def C_raised_1 : Ex := (.bl true)
theorem VC_raised_1 {Φ : Str → List Dv → Rv Dv} {σ : Ev} : evP Φ C_raised_1 σ = evP Φ (.bl true) σ := rfl
def E_raised_1 : Ex := (.tup (.cons (.ix (.v 2) (.int 0)) (.cons (.call "plus" (.cons (.ix (.v 2) (.int 1)) (.cons (.v 1) .nil))) .nil)))
theorem VE_raised_1 {Φ : Str → List Dv → Rv Dv} {σ : Ev} : evP Φ E_raised_1 σ = evP Φ (.tup (.cons (.ix (.v 2) (.int 0)) (.cons (.call "plus" (.cons (.ix (.v 2) (.int 1)) (.cons (.v 1) .nil))) .nil))) σ := rfl
def F_raised : Fd := ⟨2, 3,
  (.seq (.ret (.tup (.cons (.bi .tuple (.cons (.lc 2 (.ix (.v 0) (.int 0)) C_raised_1 E_raised_1) .nil)) (.cons (.ix (.v 0) (.int 1)) .nil))))
  .pass)⟩
/- one_then_other: 0:f 1:g 2:rows 3:corner -/
def B_one_then_other_1 : Sm := (.seq (.ex (.me .append (.v 2) (.cons (.call "raised" (.cons (.call "spliced" (.cons (.v 0) (.cons (.ix (.v 3) (.int 0)) (.cons (.v 1) .nil)))) (.cons (.ix (.ix (.ix (.v 1) (.int 0)) (.int 0)) (.int 1)) .nil))) .nil)))
  .pass)
theorem VB_one_then_other_1 {Φ : Str → List Dv → Rv Dv} {σ : Ev} : runP Φ B_one_then_other_1 σ = runP Φ (.seq (.ex (.me .append (.v 2) (.cons (.call "raised" (.cons (.call "spliced" (.cons (.v 0) (.cons (.ix (.v 3) (.int 0)) (.cons (.v 1) .nil)))) (.cons (.ix (.ix (.ix (.v 1) (.int 0)) (.int 0)) (.int 1)) .nil))) .nil)))
  .pass) σ := rfl
def F_one_then_other : Fd := ⟨2, 4,
  (.seq (.set 2 (.lst .nil))
  (.seq (.for_ 3 (.ix (.v 0) (.int 0)) B_one_then_other_1)
  (.seq (.ret (.v 2))
  .pass)))⟩
/- gathered: 0:rows 1:lay 2:halved 3:k -/
def B_gathered_1 : Sm := (.seq (.ex (.me .append (.v 2) (.cons (.callv 1 (.cons (.ix (.v 0) (.v 3)) (.cons (.ix (.v 0) (.bin .add (.v 3) (.int 1))) .nil))) .nil)))
  .pass)
theorem VB_gathered_1 {Φ : Str → List Dv → Rv Dv} {σ : Ev} : runP Φ B_gathered_1 σ = runP Φ (.seq (.ex (.me .append (.v 2) (.cons (.callv 1 (.cons (.ix (.v 0) (.v 3)) (.cons (.ix (.v 0) (.bin .add (.v 3) (.int 1))) .nil))) .nil)))
  .pass) σ := rfl
def C_gathered_2 : Ex := (.cmp .gt (.bi .len (.cons (.v 0) .nil)) (.int 1))
theorem VC_gathered_2 {Φ : Str → List Dv → Rv Dv} {σ : Ev} : evP Φ C_gathered_2 σ = evP Φ (.cmp .gt (.bi .len (.cons (.v 0) .nil)) (.int 1)) σ := rfl
def B_gathered_2 : Sm := (.seq (.set 2 (.lst .nil))
  (.seq (.for_ 3 (.rng (.cons (.int 0) (.cons (.bin .sub (.bi .len (.cons (.v 0) .nil)) (.int 1)) (.cons (.int 2) .nil)))) B_gathered_1)
  (.seq (.ite (.cmp .eq (.bin .mod (.bi .len (.cons (.v 0) .nil)) (.int 2)) (.int 1))
    (.seq (.ex (.me .append (.v 2) (.cons (.ix (.v 0) (.neg (.int 1))) .nil)))
    .pass)
    .pass)
  (.seq (.set 0 (.v 2))
  .pass))))
theorem VB_gathered_2 {Φ : Str → List Dv → Rv Dv} {σ : Ev} : runP Φ B_gathered_2 σ = runP Φ (.seq (.set 2 (.lst .nil))
  (.seq (.for_ 3 (.rng (.cons (.int 0) (.cons (.bin .sub (.bi .len (.cons (.v 0) .nil)) (.int 1)) (.cons (.int 2) .nil)))) B_gathered_1)
  (.seq (.ite (.cmp .eq (.bin .mod (.bi .len (.cons (.v 0) .nil)) (.int 2)) (.int 1))
    (.seq (.ex (.me .append (.v 2) (.cons (.ix (.v 0) (.neg (.int 1))) .nil)))
    .pass)
    .pass)
  (.seq (.set 0 (.v 2))
  .pass)))) σ := rfl
def F_gathered : Fd := ⟨2, 4,
  (.seq (.wh C_gathered_2 B_gathered_2)
  (.seq (.ret (.ix (.v 0) (.int 0)))
  .pass))⟩
/- joined: 0:f 1:g -/
def F_joined : Fd := ⟨2, 2,
  (.seq (.ret (.call "gathered" (.cons (.bin .add (.bin .add (.lst (.cons (.v 0) (.cons (.v 1) .nil))) (.call "one_then_other" (.cons (.v 0) (.cons (.v 1) .nil)))) (.call "one_then_other" (.cons (.v 1) (.cons (.v 0) .nil)))) (.cons (.f "least") .nil))))
  .pass)⟩
/- _law_cell_at: 0:_law_script 1:_law_k -/
def F__law_cell_at : Fd := ⟨2, 2,
  (.seq (.ite (.cmp .lt (.v 1) (.bi .len (.cons (.v 0) .nil)))
    (.seq (.ret (.ix (.v 0) (.v 1)))
    .pass)
    .pass)
  (.seq (.ret (.int 0))
  .pass))⟩
/- _law_lowest: 0:_law_top 1:_law_bottom 2:_law_one 3:_law_other 4:_law_rest -/
def C__law_lowest_1 : Ex := (.cmp .ne (.v 3) (.int 0))
theorem VC__law_lowest_1 {Φ : Str → List Dv → Rv Dv} {σ : Ev} : evP Φ C__law_lowest_1 σ = evP Φ (.cmp .ne (.v 3) (.int 0)) σ := rfl
def B__law_lowest_1 : Sm := (.seq (.set 4 (.bin .mod (.v 2) (.v 3)))
  (.seq (.set 2 (.v 3))
  (.seq (.set 3 (.v 4))
  .pass)))
theorem VB__law_lowest_1 {Φ : Str → List Dv → Rv Dv} {σ : Ev} : runP Φ B__law_lowest_1 σ = runP Φ (.seq (.set 4 (.bin .mod (.v 2) (.v 3)))
  (.seq (.set 2 (.v 3))
  (.seq (.set 3 (.v 4))
  .pass))) σ := rfl
def F__law_lowest : Fd := ⟨2, 5,
  (.seq (.set 2 (.bi .abs (.cons (.v 0) .nil)))
  (.seq (.set 3 (.v 1))
  (.seq (.wh C__law_lowest_1 B__law_lowest_1)
  (.seq (.ret (.tup (.cons (.bin .fdiv (.v 0) (.v 2)) (.cons (.bin .fdiv (.v 1) (.v 2)) .nil))))
  .pass))))⟩
/- _law_less: 0:_law_one 1:_law_other -/
def F__law_less : Fd := ⟨2, 2,
  (.seq (.ret (.cmp .lt (.bin .mul (.ix (.v 0) (.int 0)) (.ix (.v 1) (.int 1))) (.bin .mul (.ix (.v 1) (.int 0)) (.ix (.v 0) (.int 1)))))
  .pass)⟩
/- _law_minus: 0:_law_one 1:_law_other -/
def F__law_minus : Fd := ⟨2, 2,
  (.seq (.ret (.tup (.cons (.bin .sub (.bin .mul (.ix (.v 0) (.int 0)) (.ix (.v 1) (.int 1))) (.bin .mul (.ix (.v 1) (.int 0)) (.ix (.v 0) (.int 1)))) (.cons (.bin .mul (.ix (.v 0) (.int 1)) (.ix (.v 1) (.int 1))) .nil))))
  .pass)⟩
/- _law_slope_by: 0:_law_cell 1:_law_low -/
def F__law_slope_by : Fd := ⟨2, 2,
  (.seq (.ite (.cmp .eq (.bin .mod (.v 0) (.int 4)) (.int 0))
    (.seq (.ret (.tup (.cons (.int 0) (.cons (.int 1) .nil))))
    .pass)
    .pass)
  (.seq (.ite (.cmp .eq (.bin .mod (.v 0) (.int 4)) (.int 1))
    (.seq (.ret (.tup (.cons (.bin .mod (.bin .fdiv (.v 0) (.int 4)) (.int 3)) (.cons (.int 1) .nil))))
    .pass)
    .pass)
  (.seq (.ite (.cmp .eq (.bin .mod (.v 0) (.int 4)) (.int 2))
    (.seq (.ret (.call "_law_lowest" (.cons (.bin .mod (.bin .fdiv (.v 0) (.int 4)) (.int 20)) (.cons (.v 1) .nil))))
    .pass)
    .pass)
  (.seq (.ret (.call "_law_lowest" (.cons (.bin .mod (.bin .fdiv (.v 0) (.int 4)) (.bin .pow (.int 10) (.int 6))) (.cons (.v 1) .nil))))
  .pass))))⟩
/- _law_curve_by: 0:_law_cells_here 1:_law_many 2:_law_low 3:_law_high 4:_law_at 5:_law_value 6:_law_corners 7:_law_k 8:_law_cell 9:_law_other 10:_law_gap 11:_law_rise -/
def B__law_curve_by_1 : Sm := (.seq (.set 8 (.ix (.v 0) (.bin .add (.int 3) (.bin .mul (.int 2) (.v 7)))))
  (.seq (.set 9 (.ix (.v 0) (.bin .add (.int 4) (.bin .mul (.int 2) (.v 7)))))
  (.seq (.set 10 (.bin .add (.int 1) (.bin .mod (.bin .fdiv (.v 8) (.int 2)) (.int 5))))
  (.seq (.ite (.cmp .eq (.bin .mod (.v 8) (.int 2)) (.int 1))
    (.seq (.set 10 (.bin .add (.int 1) (.bin .mod (.bin .fdiv (.v 8) (.int 2)) (.bin .pow (.int 10) (.int 6)))))
    .pass)
    .pass)
  (.seq (.set 11 (.bin .mul (.v 10) (.bin .mod (.bin .fdiv (.v 9) (.int 4)) (.int 3))))
  (.seq (.ite (.cmp .eq (.bin .mod (.v 9) (.int 4)) (.int 0))
    (.seq (.set 11 (.int 0))
    .pass)
    .pass)
  (.seq (.ite (.cmp .eq (.bin .mod (.v 9) (.int 4)) (.int 2))
    (.seq (.set 11 (.bin .mod (.bin .fdiv (.v 9) (.int 4)) (.int 10)))
    .pass)
    .pass)
  (.seq (.ite (.cmp .eq (.bin .mod (.v 9) (.int 4)) (.int 3))
    (.seq (.set 11 (.bin .mod (.bin .fdiv (.v 9) (.int 4)) (.bin .pow (.int 10) (.int 6))))
    .pass)
    .pass)
  (.seq (.set 4 (.bin .add (.v 4) (.v 10)))
  (.seq (.set 5 (.bin .add (.v 5) (.v 11)))
  (.seq (.ex (.me .append (.v 6) (.cons (.tup (.cons (.call "_law_lowest" (.cons (.v 4) (.cons (.v 2) .nil))) (.cons (.call "_law_lowest" (.cons (.v 5) (.cons (.v 3) .nil))) .nil))) .nil)))
  .pass)))))))))))
theorem VB__law_curve_by_1 {Φ : Str → List Dv → Rv Dv} {σ : Ev} : runP Φ B__law_curve_by_1 σ = runP Φ (.seq (.set 8 (.ix (.v 0) (.bin .add (.int 3) (.bin .mul (.int 2) (.v 7)))))
  (.seq (.set 9 (.ix (.v 0) (.bin .add (.int 4) (.bin .mul (.int 2) (.v 7)))))
  (.seq (.set 10 (.bin .add (.int 1) (.bin .mod (.bin .fdiv (.v 8) (.int 2)) (.int 5))))
  (.seq (.ite (.cmp .eq (.bin .mod (.v 8) (.int 2)) (.int 1))
    (.seq (.set 10 (.bin .add (.int 1) (.bin .mod (.bin .fdiv (.v 8) (.int 2)) (.bin .pow (.int 10) (.int 6)))))
    .pass)
    .pass)
  (.seq (.set 11 (.bin .mul (.v 10) (.bin .mod (.bin .fdiv (.v 9) (.int 4)) (.int 3))))
  (.seq (.ite (.cmp .eq (.bin .mod (.v 9) (.int 4)) (.int 0))
    (.seq (.set 11 (.int 0))
    .pass)
    .pass)
  (.seq (.ite (.cmp .eq (.bin .mod (.v 9) (.int 4)) (.int 2))
    (.seq (.set 11 (.bin .mod (.bin .fdiv (.v 9) (.int 4)) (.int 10)))
    .pass)
    .pass)
  (.seq (.ite (.cmp .eq (.bin .mod (.v 9) (.int 4)) (.int 3))
    (.seq (.set 11 (.bin .mod (.bin .fdiv (.v 9) (.int 4)) (.bin .pow (.int 10) (.int 6))))
    .pass)
    .pass)
  (.seq (.set 4 (.bin .add (.v 4) (.v 10)))
  (.seq (.set 5 (.bin .add (.v 5) (.v 11)))
  (.seq (.ex (.me .append (.v 6) (.cons (.tup (.cons (.call "_law_lowest" (.cons (.v 4) (.cons (.v 2) .nil))) (.cons (.call "_law_lowest" (.cons (.v 5) (.cons (.v 3) .nil))) .nil))) .nil)))
  .pass))))))))))) σ := rfl
def F__law_curve_by : Fd := ⟨2, 12,
  (.seq (.set 2 (.bin .add (.int 1) (.bin .mod (.ix (.v 0) (.int 0)) (.int 12))))
  (.seq (.set 3 (.bin .add (.int 1) (.bin .mod (.bin .fdiv (.ix (.v 0) (.int 0)) (.int 12)) (.int 12))))
  (.seq (.set 4 (.int 0))
  (.seq (.set 5 (.int 0))
  (.seq (.ite (.cmp .ne (.bin .mod (.ix (.v 0) (.int 1)) (.int 3)) (.int 0))
    (.seq (.set 5 (.bin .mod (.bin .fdiv (.ix (.v 0) (.int 1)) (.int 3)) (.bin .pow (.int 10) (.int 6))))
    .pass)
    .pass)
  (.seq (.set 6 (.lst (.cons (.tup (.cons (.tup (.cons (.int 0) (.cons (.int 1) .nil))) (.cons (.call "_law_lowest" (.cons (.v 5) (.cons (.v 3) .nil))) .nil))) .nil)))
  (.seq (.for_ 7 (.rng (.cons (.v 1) .nil)) B__law_curve_by_1)
  (.seq (.ret (.tup (.cons (.v 6) (.cons (.call "_law_slope_by" (.cons (.ix (.v 0) (.int 2)) (.cons (.v 2) .nil))) .nil))))
  .pass))))))))⟩
/- _law_cells: 0:_law_script 1:_law_begin 2:_law_many 3:_law_k -/
def C__law_cells_1 : Ex := (.bl true)
theorem VC__law_cells_1 {Φ : Str → List Dv → Rv Dv} {σ : Ev} : evP Φ C__law_cells_1 σ = evP Φ (.bl true) σ := rfl
def E__law_cells_1 : Ex := (.call "_law_cell_at" (.cons (.v 0) (.cons (.bin .add (.v 1) (.v 3)) .nil)))
theorem VE__law_cells_1 {Φ : Str → List Dv → Rv Dv} {σ : Ev} : evP Φ E__law_cells_1 σ = evP Φ (.call "_law_cell_at" (.cons (.v 0) (.cons (.bin .add (.v 1) (.v 3)) .nil))) σ := rfl
def F__law_cells : Fd := ⟨3, 4,
  (.seq (.ret (.lc 3 (.rng (.cons (.bin .add (.int 3) (.bin .mul (.int 2) (.v 2))) .nil)) C__law_cells_1 E__law_cells_1))
  .pass)⟩
/- _law_is_ratio: 0:_law_found 1:_law_number -/
def B__law_is_ratio_1 : Sm := (.seq (.ite (.or (.not (.isi (.v 1) .int)) (.isi (.v 1) .bool))
    (.seq (.ret (.bl false))
    .pass)
    .pass)
  .pass)
theorem VB__law_is_ratio_1 {Φ : Str → List Dv → Rv Dv} {σ : Ev} : runP Φ B__law_is_ratio_1 σ = runP Φ (.seq (.ite (.or (.not (.isi (.v 1) .int)) (.isi (.v 1) .bool))
    (.seq (.ret (.bl false))
    .pass)
    .pass)
  .pass) σ := rfl
def F__law_is_ratio : Fd := ⟨1, 2,
  (.seq (.ite (.or (.not (.isi (.v 0) .tuple)) (.cmp .ne (.bi .len (.cons (.v 0) .nil)) (.int 2)))
    (.seq (.ret (.bl false))
    .pass)
    .pass)
  (.seq (.for_ 1 (.v 0) B__law_is_ratio_1)
  (.seq (.ret (.and (.cmp .gt (.ix (.v 0) (.int 1)) (.int 0)) (.cmp .eq (.call "_law_lowest" (.cons (.ix (.v 0) (.int 0)) (.cons (.ix (.v 0) (.int 1)) .nil))) (.v 0))))
  .pass)))⟩
/- _law_bends: 0:_law_found 1:_law_k 2:_law_corners 3:_law_rise 4:_law_span 5:_law_behind 6:_law_wide 7:_law_ahead -/
def F__law_bends : Fd := ⟨2, 8,
  (.seq (.set 2 (.ix (.v 0) (.int 0)))
  (.seq (.set 3 (.call "_law_minus" (.cons (.ix (.ix (.v 2) (.v 1)) (.int 1)) (.cons (.ix (.ix (.v 2) (.bin .sub (.v 1) (.int 1))) (.int 1)) .nil))))
  (.seq (.set 4 (.call "_law_minus" (.cons (.ix (.ix (.v 2) (.v 1)) (.int 0)) (.cons (.ix (.ix (.v 2) (.bin .sub (.v 1) (.int 1))) (.int 0)) .nil))))
  (.seq (.set 5 (.ix (.v 0) (.int 1)))
  (.seq (.set 6 (.tup (.cons (.int 1) (.cons (.int 1) .nil))))
  (.seq (.ite (.cmp .lt (.bin .add (.v 1) (.int 1)) (.bi .len (.cons (.v 2) .nil)))
    (.seq (.set 5 (.call "_law_minus" (.cons (.ix (.ix (.v 2) (.bin .add (.v 1) (.int 1))) (.int 1)) (.cons (.ix (.ix (.v 2) (.v 1)) (.int 1)) .nil))))
    (.seq (.set 6 (.call "_law_minus" (.cons (.ix (.ix (.v 2) (.bin .add (.v 1) (.int 1))) (.int 0)) (.cons (.ix (.ix (.v 2) (.v 1)) (.int 0)) .nil))))
    .pass))
    .pass)
  (.seq (.set 7 (.bin .mul (.bin .mul (.bin .mul (.ix (.v 3) (.int 0)) (.ix (.v 4) (.int 1))) (.ix (.v 5) (.int 1))) (.ix (.v 6) (.int 0))))
  (.seq (.ret (.cmp .ne (.v 7) (.bin .mul (.bin .mul (.bin .mul (.ix (.v 5) (.int 0)) (.ix (.v 6) (.int 1))) (.ix (.v 3) (.int 1))) (.ix (.v 4) (.int 0)))))
  .pass))))))))⟩
/- _law_is_curve: 0:_law_found 1:_law_corner 2:_law_k -/
def B__law_is_curve_1 : Sm := (.seq (.ite (.or (.not (.isi (.v 1) .tuple)) (.cmp .ne (.bi .len (.cons (.v 1) .nil)) (.int 2)))
    (.seq (.ret (.bl false))
    .pass)
    .pass)
  (.seq (.ite (.or (.not (.call "_law_is_ratio" (.cons (.ix (.v 1) (.int 0)) .nil))) (.not (.call "_law_is_ratio" (.cons (.ix (.v 1) (.int 1)) .nil))))
    (.seq (.ret (.bl false))
    .pass)
    .pass)
  .pass))
theorem VB__law_is_curve_1 {Φ : Str → List Dv → Rv Dv} {σ : Ev} : runP Φ B__law_is_curve_1 σ = runP Φ (.seq (.ite (.or (.not (.isi (.v 1) .tuple)) (.cmp .ne (.bi .len (.cons (.v 1) .nil)) (.int 2)))
    (.seq (.ret (.bl false))
    .pass)
    .pass)
  (.seq (.ite (.or (.not (.call "_law_is_ratio" (.cons (.ix (.v 1) (.int 0)) .nil))) (.not (.call "_law_is_ratio" (.cons (.ix (.v 1) (.int 1)) .nil))))
    (.seq (.ret (.bl false))
    .pass)
    .pass)
  .pass)) σ := rfl
def B__law_is_curve_2 : Sm := (.seq (.ite (.not (.call "_law_less" (.cons (.ix (.ix (.ix (.v 0) (.int 0)) (.bin .sub (.v 2) (.int 1))) (.int 0)) (.cons (.ix (.ix (.ix (.v 0) (.int 0)) (.v 2)) (.int 0)) .nil))))
    (.seq (.ret (.bl false))
    .pass)
    .pass)
  (.seq (.ite (.or (.call "_law_less" (.cons (.ix (.ix (.ix (.v 0) (.int 0)) (.v 2)) (.int 1)) (.cons (.ix (.ix (.ix (.v 0) (.int 0)) (.bin .sub (.v 2) (.int 1))) (.int 1)) .nil))) (.not (.call "_law_bends" (.cons (.v 0) (.cons (.v 2) .nil)))))
    (.seq (.ret (.bl false))
    .pass)
    .pass)
  .pass))
theorem VB__law_is_curve_2 {Φ : Str → List Dv → Rv Dv} {σ : Ev} : runP Φ B__law_is_curve_2 σ = runP Φ (.seq (.ite (.not (.call "_law_less" (.cons (.ix (.ix (.ix (.v 0) (.int 0)) (.bin .sub (.v 2) (.int 1))) (.int 0)) (.cons (.ix (.ix (.ix (.v 0) (.int 0)) (.v 2)) (.int 0)) .nil))))
    (.seq (.ret (.bl false))
    .pass)
    .pass)
  (.seq (.ite (.or (.call "_law_less" (.cons (.ix (.ix (.ix (.v 0) (.int 0)) (.v 2)) (.int 1)) (.cons (.ix (.ix (.ix (.v 0) (.int 0)) (.bin .sub (.v 2) (.int 1))) (.int 1)) .nil))) (.not (.call "_law_bends" (.cons (.v 0) (.cons (.v 2) .nil)))))
    (.seq (.ret (.bl false))
    .pass)
    .pass)
  .pass)) σ := rfl
def F__law_is_curve : Fd := ⟨1, 3,
  (.seq (.ite (.or (.not (.isi (.v 0) .tuple)) (.or (.cmp .ne (.bi .len (.cons (.v 0) .nil)) (.int 2)) (.not (.isi (.ix (.v 0) (.int 0)) .tuple))))
    (.seq (.ret (.bl false))
    .pass)
    .pass)
  (.seq (.ite (.or (.not (.call "_law_is_ratio" (.cons (.ix (.v 0) (.int 1)) .nil))) (.or (.cmp .lt (.ix (.ix (.v 0) (.int 1)) (.int 0)) (.int 0)) (.cmp .eq (.bi .len (.cons (.ix (.v 0) (.int 0)) .nil)) (.int 0))))
    (.seq (.ret (.bl false))
    .pass)
    .pass)
  (.seq (.for_ 1 (.ix (.v 0) (.int 0)) B__law_is_curve_1)
  (.seq (.ite (.or (.cmp .ne (.ix (.ix (.ix (.v 0) (.int 0)) (.int 0)) (.int 0)) (.tup (.cons (.int 0) (.cons (.int 1) .nil)))) (.cmp .lt (.ix (.ix (.ix (.ix (.v 0) (.int 0)) (.int 0)) (.int 1)) (.int 0)) (.int 0)))
    (.seq (.ret (.bl false))
    .pass)
    .pass)
  (.seq (.for_ 2 (.rng (.cons (.int 1) (.cons (.bi .len (.cons (.ix (.v 0) (.int 0)) .nil)) .nil))) B__law_is_curve_2)
  (.seq (.ret (.bl true))
  .pass))))))⟩
/- _law_digits_curve: 0:_law_cell 1:_law_room 2:_law_low 3:_law_high 4:_law_value 5:_law_many 6:_law_at 7:_law_corners 8:_law_k -/
def B__law_digits_curve_1 : Sm := (.seq (.set 6 (.bin .add (.bin .add (.v 6) (.int 1)) (.bin .mod (.v 0) (.int 100))))
  (.seq (.set 4 (.bin .add (.v 4) (.bin .mod (.bin .fdiv (.v 0) (.int 100)) (.int 100))))
  (.seq (.set 0 (.bin .fdiv (.v 0) (.int 10000)))
  (.seq (.ex (.me .append (.v 7) (.cons (.tup (.cons (.call "_law_lowest" (.cons (.v 6) (.cons (.v 2) .nil))) (.cons (.call "_law_lowest" (.cons (.v 4) (.cons (.v 3) .nil))) .nil))) .nil)))
  .pass))))
theorem VB__law_digits_curve_1 {Φ : Str → List Dv → Rv Dv} {σ : Ev} : runP Φ B__law_digits_curve_1 σ = runP Φ (.seq (.set 6 (.bin .add (.bin .add (.v 6) (.int 1)) (.bin .mod (.v 0) (.int 100))))
  (.seq (.set 4 (.bin .add (.v 4) (.bin .mod (.bin .fdiv (.v 0) (.int 100)) (.int 100))))
  (.seq (.set 0 (.bin .fdiv (.v 0) (.int 10000)))
  (.seq (.ex (.me .append (.v 7) (.cons (.tup (.cons (.call "_law_lowest" (.cons (.v 6) (.cons (.v 2) .nil))) (.cons (.call "_law_lowest" (.cons (.v 4) (.cons (.v 3) .nil))) .nil))) .nil)))
  .pass)))) σ := rfl
def F__law_digits_curve : Fd := ⟨2, 9,
  (.seq (.set 2 (.bin .add (.int 1) (.bin .mod (.v 0) (.int 12))))
  (.seq (.set 3 (.bin .add (.int 1) (.bin .mod (.bin .fdiv (.v 0) (.int 12)) (.int 12))))
  (.seq (.set 4 (.bin .mod (.bin .fdiv (.v 0) (.int 144)) (.int 1000)))
  (.seq (.set 5 (.bin .mod (.bin .fdiv (.v 0) (.int 144000)) (.v 1)))
  (.seq (.set 0 (.bin .fdiv (.bin .fdiv (.v 0) (.int 144000)) (.v 1)))
  (.seq (.set 6 (.int 0))
  (.seq (.set 7 (.lst (.cons (.tup (.cons (.tup (.cons (.int 0) (.cons (.int 1) .nil))) (.cons (.call "_law_lowest" (.cons (.v 4) (.cons (.v 3) .nil))) .nil))) .nil)))
  (.seq (.for_ 8 (.rng (.cons (.v 5) .nil)) B__law_digits_curve_1)
  (.seq (.ret (.tup (.cons (.v 7) (.cons (.call "_law_lowest" (.cons (.bin .mod (.v 0) (.int 100)) (.cons (.bin .add (.int 1) (.bin .mod (.bin .fdiv (.v 0) (.int 100)) (.int 12))) .nil))) .nil))))
  .pass)))))))))⟩
/- _law_three: 0:_law_script 1:_law_k 2:_law_some 3:_law_rows -/
def C__law_three_1 : Ex := (.bl true)
theorem VC__law_three_1 {Φ : Str → List Dv → Rv Dv} {σ : Ev} : evP Φ C__law_three_1 σ = evP Φ (.bl true) σ := rfl
def E__law_three_1 : Ex := (.call "_law_digits_curve" (.cons (.call "_law_cell_at" (.cons (.v 0) (.cons (.v 1) .nil))) (.cons (.int 3) .nil)))
theorem VE__law_three_1 {Φ : Str → List Dv → Rv Dv} {σ : Ev} : evP Φ E__law_three_1 σ = evP Φ (.call "_law_digits_curve" (.cons (.call "_law_cell_at" (.cons (.v 0) (.cons (.v 1) .nil))) (.cons (.int 3) .nil))) σ := rfl
def F__law_three : Fd := ⟨1, 4,
  (.seq (.ite (.cmp .eq (.bin .mod (.call "_law_cell_at" (.cons (.v 0) (.cons (.int 0) .nil))) (.int 2)) (.int 1))
    (.seq (.ret (.lc 1 (.rng (.cons (.int 2) (.cons (.int 5) .nil))) C__law_three_1 E__law_three_1))
    .pass)
    .pass)
  (.seq (.set 2 (.bin .fdiv (.call "_law_cell_at" (.cons (.v 0) (.cons (.int 0) .nil))) (.int 2)))
  (.seq (.set 3 (.lst (.cons (.call "_law_curve_by" (.cons (.call "_law_cells" (.cons (.v 0) (.cons (.int 2) (.cons (.bin .mod (.v 2) (.int 3)) .nil)))) (.cons (.bin .mod (.v 2) (.int 3)) .nil))) .nil)))
  (.seq (.ex (.me .append (.v 3) (.cons (.call "_law_curve_by" (.cons (.call "_law_cells" (.cons (.v 0) (.cons (.int 9) (.cons (.bin .mod (.bin .fdiv (.v 2) (.int 3)) (.int 3)) .nil)))) (.cons (.bin .mod (.bin .fdiv (.v 2) (.int 3)) (.int 3)) .nil))) .nil)))
  (.seq (.ex (.me .append (.v 3) (.cons (.call "_law_curve_by" (.cons (.call "_law_cells" (.cons (.v 0) (.cons (.int 16) (.cons (.bin .mod (.bin .fdiv (.v 2) (.int 9)) (.int 3)) .nil)))) (.cons (.bin .mod (.bin .fdiv (.v 2) (.int 9)) (.int 3)) .nil))) .nil)))
  (.seq (.ret (.v 3))
  .pass))))))⟩
/- law: 0:_law_script 1:_law_rows 2:_law_row 3:_law_told 4:_law_pair 5:_law_found -/
def C_law_1 : Ex := (.bl true)
theorem VC_law_1 {Φ : Str → List Dv → Rv Dv} {σ : Ev} : evP Φ C_law_1 σ = evP Φ (.bl true) σ := rfl
def E_law_1 : Ex := (.call "curve" (.cons (.bi .list (.cons (.ix (.v 2) (.int 0)) .nil)) (.cons (.ix (.v 2) (.int 1)) .nil)))
theorem VE_law_1 {Φ : Str → List Dv → Rv Dv} {σ : Ev} : evP Φ E_law_1 σ = evP Φ (.call "curve" (.cons (.bi .list (.cons (.ix (.v 2) (.int 0)) .nil)) (.cons (.ix (.v 2) (.int 1)) .nil))) σ := rfl
def F_law : Fd := ⟨1, 6,
  (.seq (.set 1 (.call "_law_three" (.cons (.v 0) .nil)))
  (.seq (.ite (.cmp .eq (.bin .mod (.call "_law_cell_at" (.cons (.v 0) (.cons (.int 1) .nil))) (.int 3)) (.int 2))
    (.seq (.setix (.v 1) (.int 2) (.ix (.v 1) (.int 0)))
    .pass)
    .pass)
  (.seq (.set 3 (.lc 2 (.v 1) C_law_1 E_law_1))
  (.seq (.set 4 (.call "joined" (.cons (.ix (.v 3) (.int 0)) (.cons (.ix (.v 3) (.int 1)) .nil))))
  (.seq (.ite (.or (.not (.call "_law_is_curve" (.cons (.v 4) .nil))) (.cmp .ne (.call "joined" (.cons (.ix (.v 3) (.int 1)) (.cons (.ix (.v 3) (.int 0)) .nil))) (.v 4)))
    (.seq (.ret (.bl false))
    .pass)
    .pass)
  (.seq (.set 5 (.call "joined" (.cons (.v 4) (.cons (.ix (.v 3) (.int 2)) .nil))))
  (.seq (.ite (.not (.call "_law_is_curve" (.cons (.v 5) .nil)))
    (.seq (.ret (.bl false))
    .pass)
    .pass)
  (.seq (.ret (.and (.cmp .eq (.v 5) (.call "joined" (.cons (.ix (.v 3) (.int 0)) (.cons (.call "joined" (.cons (.ix (.v 3) (.int 1)) (.cons (.ix (.v 3) (.int 2)) .nil))) .nil)))) (.cmp .eq (.v 5) (.call "joined" (.cons (.ix (.v 3) (.int 2)) (.cons (.v 4) .nil))))))
  .pass))))))))⟩
def tab0 : List (Str × Fd) := [("is_whole", F_is_whole), ("divisor", F_divisor), ("ratio", F_ratio), ("plus", F_plus), ("minus", F_minus), ("times", F_times), ("over", F_over), ("under", F_under), ("lesser", F_lesser), ("slope_between", F_slope_between), ("slopes_of", F_slopes_of), ("folded", F_folded), ("made", F_made), ("curve", F_curve), ("place_of", F_place_of), ("slope_behind", F_slope_behind), ("value_at", F_value_at), ("along", F_along), ("grid", F_grid), ("gap_of", F_gap_of)]
def tab1 : List (Str × Fd) := [("met_between", F_met_between), ("met_behind", F_met_behind), ("stops", F_stops), ("chosen", F_chosen), ("least", F_least), ("spliced", F_spliced), ("raised", F_raised), ("one_then_other", F_one_then_other), ("gathered", F_gathered), ("joined", F_joined), ("_law_cell_at", F__law_cell_at), ("_law_lowest", F__law_lowest), ("_law_less", F__law_less), ("_law_minus", F__law_minus), ("_law_slope_by", F__law_slope_by), ("_law_curve_by", F__law_curve_by), ("_law_cells", F__law_cells), ("_law_is_ratio", F__law_is_ratio), ("_law_bends", F__law_bends), ("_law_is_curve", F__law_is_curve)]
def tab2 : List (Str × Fd) := [("_law_digits_curve", F__law_digits_curve), ("_law_three", F__law_three), ("law", F_law)]
def tab : List (Str × Fd) := tab0 ++ tab1 ++ tab2
def T : Str → Option Fd := fun x => tab.lookup x
theorem T_is_whole : T "is_whole" = some F_is_whole := by decide +kernel
theorem T_divisor : T "divisor" = some F_divisor := by decide +kernel
theorem T_ratio : T "ratio" = some F_ratio := by decide +kernel
theorem T_plus : T "plus" = some F_plus := by decide +kernel
theorem T_minus : T "minus" = some F_minus := by decide +kernel
theorem T_times : T "times" = some F_times := by decide +kernel
theorem T_over : T "over" = some F_over := by decide +kernel
theorem T_under : T "under" = some F_under := by decide +kernel
theorem T_lesser : T "lesser" = some F_lesser := by decide +kernel
theorem T_slope_between : T "slope_between" = some F_slope_between := by decide +kernel
theorem T_slopes_of : T "slopes_of" = some F_slopes_of := by decide +kernel
theorem T_folded : T "folded" = some F_folded := by decide +kernel
theorem T_made : T "made" = some F_made := by decide +kernel
theorem T_curve : T "curve" = some F_curve := by decide +kernel
theorem T_place_of : T "place_of" = some F_place_of := by decide +kernel
theorem T_slope_behind : T "slope_behind" = some F_slope_behind := by decide +kernel
theorem T_value_at : T "value_at" = some F_value_at := by decide +kernel
theorem T_along : T "along" = some F_along := by decide +kernel
theorem T_grid : T "grid" = some F_grid := by decide +kernel
theorem T_gap_of : T "gap_of" = some F_gap_of := by decide +kernel
theorem T_met_between : T "met_between" = some F_met_between := by decide +kernel
theorem T_met_behind : T "met_behind" = some F_met_behind := by decide +kernel
theorem T_stops : T "stops" = some F_stops := by decide +kernel
theorem T_chosen : T "chosen" = some F_chosen := by decide +kernel
theorem T_least : T "least" = some F_least := by decide +kernel
theorem T_spliced : T "spliced" = some F_spliced := by decide +kernel
theorem T_raised : T "raised" = some F_raised := by decide +kernel
theorem T_one_then_other : T "one_then_other" = some F_one_then_other := by decide +kernel
theorem T_gathered : T "gathered" = some F_gathered := by decide +kernel
theorem T_joined : T "joined" = some F_joined := by decide +kernel
theorem T__law_cell_at : T "_law_cell_at" = some F__law_cell_at := by decide +kernel
theorem T__law_lowest : T "_law_lowest" = some F__law_lowest := by decide +kernel
theorem T__law_less : T "_law_less" = some F__law_less := by decide +kernel
theorem T__law_minus : T "_law_minus" = some F__law_minus := by decide +kernel
theorem T__law_slope_by : T "_law_slope_by" = some F__law_slope_by := by decide +kernel
theorem T__law_curve_by : T "_law_curve_by" = some F__law_curve_by := by decide +kernel
theorem T__law_cells : T "_law_cells" = some F__law_cells := by decide +kernel
theorem T__law_is_ratio : T "_law_is_ratio" = some F__law_is_ratio := by decide +kernel
theorem T__law_bends : T "_law_bends" = some F__law_bends := by decide +kernel
theorem T__law_is_curve : T "_law_is_curve" = some F__law_is_curve := by decide +kernel
theorem T__law_digits_curve : T "_law_digits_curve" = some F__law_digits_curve := by decide +kernel
theorem T__law_three : T "_law_three" = some F__law_three := by decide +kernel
theorem T_law : T "law" = some F_law := by decide +kernel
end Q
set_option hygiene false in
local macro_rules
  | `(tactic| simp only [ME_] $[$loc:location]?) => `(tactic| simp only [vx_int, vx_bl, vx_non, vx_v, vx_bin, vx_neg, vx_call, vx_bi, vx_tup, vx_lst, vx_ix, frzIf_nil, e_tm, qs_tm, qr_tm, isStr_s, slp_str, i_lenstr, bp_adds, itemsP_str, nn_str, Rv.bind_ok, Rv.bind_exc, Rv.bind_bad, Rv.on_ok, Rv.on_exc, Rv.on_bad, fuel_eq, vars, runFP_mk, e_non, e_bl, e_int, e_str, e_v, e_k, e_f, e_nil, e_absent, e_cons, e_tup, e_lst, e_bin, e_neg, e_not, e_and, e_or, e_cmp, e_isn, e_notn, e_ix, e_sl, e_call, e_callv, e_bi, e_isi, e_ise, e_lc, e_rng, e_rev, q_pass, qs_non, qr_non, qs_bl, qr_bl, qs_int, qr_int, qs_str, qr_str, qs_v, qs_k, qr_k, qs_f, qr_f, qs_tup, qr_tup, qs_lst, qr_lst, qs_bin, qr_bin, qs_neg, qr_neg, qs_not, qr_not, qs_and, qr_and, qs_or, qr_or, qs_cmp, qr_cmp, qs_isn, qr_isn, qs_notn, qr_notn, qs_ix, qr_ix, qs_sl, qr_sl, qs_call, qr_call, qe_call, qs_callv, qr_callv, qe_callv, qs_bi, qr_bi, qs_isi, qr_isi, qs_ise, qr_ise, qs_lc, qr_lc, qs_rng, qr_rng, qs_rev, qr_rev, qs_me, qe_me, qr_v, qx_v, q_seq, q_aug, q_ite, q_wh, q_for, q_retn, q_brk, q_cnt, q_raise, q_tryN, q_tryA, fo_nil, consP_t, tupP_t, lstP_t, allocP_e, negP_i, onTupP_t, onTupO_t, callP_t, onBlP_bl, ifP_bl, getP_non, getP_bl, getP_int, getP_str, getP_tup, getP_lst, getP_scr, getP_own, getP_fn, rawP_non, rawP_bl, rawP_int, rawP_str, rawP_tup, rawP_lst, rawP_scr, rawP_own, rawP_fn, frz_non, frz_bl, frz_int, frz_str, frz_tup, frz_lst, frz_scr, frz_own, frz_fn, frz_exc, inL_non, inL_bl, inL_int, inL_str, inL_fn, inL_exc, inL_lst, inL_scr, inL_own, inL_tup, ls_non, ls_bl, ls_int, ls_str, ls_fn, ls_exc, ls_lst, ls_scr, ls_tup, any_int, any_steps, frzIf_f, frzIf_t, frzs_nil, frzs_cons, frzAt_0, frzAt_s, frzO_n, frzO_s, isL_non, isL_bl, isL_int, isL_str, isL_tup, isL_lst, isL_scr, isL_own, onOwn_o, onSome_s, onIntP_i, onFnP_f, onExcP_f, okOnlyP_ok, onItemsP_s, itemsP_t, itemsP_l, itemsP_s, augP_a, augP_s, onPartP_int, onPartP_abs, meGo_e, onNat_s, setixP_i, meP_app', meP_rev, meP_clear, onSome_if, rc1, rc2, rc3, rc4, rc5, rc6, bp_add, bp_sub, bp_mul, bp_fdiv, bp_mod, bp_addt, bp_addl, cp_lt, cp_le, cp_gt, cp_ge, cp_eq, cp_ne, ep_int, np_int, ep_bl, np_bl, xp_t, xp_l, xp_s, atP_s, slp_t, slp_l, slp_s, i_abs, i_lent, i_lenl, i_lens, i_max, i_min, i_int, i_intb, i_listt, i_listl, i_lists, i_tupt, i_tupl, i_sorted, i_sortedR, intsP_map, sortP_f, sortP_t, t_non, t_bl, t_int, t_str, t_tup, t_lst, tz1, tz2, tz3, nn_non, nn_tup, nn_int, nn_lst, nn_own, rv_t, rp_1, rp_2, rp_3, stepsP_0, Op.then_nx, Op.then_rt, Op.then_ex, Op.then_bk, Op.then_ct, Op.then_bad, Op.turn_nx, Op.turn_ct, Op.turn_bk, Op.turn_rt, Op.turn_ex, ofP_nx, ofP_rt, ofP_ex, tryN_nx, tryA_nx, tryN_rt, tryA_rt, tryA2_rt, tryA_ex, tryN2_rt, tryN2_nx, tryN_ex, at_0, at_1, at_2, at_3, at_m1, at_m2, lt0, lt1, lt2, lt3, lt4, lt5, lt6, lt7, lt8, lt9, lt10, lt11, lt12, lt13, lt14, lt15, le6, le7, le8, le9, le10, le11, le12, le13, le14, le15, le16, le17, le18, le19, le20, le21, le22, le23, le24, le25, takeS_0, takeS_s, dropS_0, dropS_s, MP.tb1, MP.tb2, MP.tb3, MP.tb4, MP.tb5, MP.tn1, MP.tn2, MP.tn3, MP.tn4, MP.tn5, MP.tn6, MP.lim1, MP.lim2, MP.lim3, MP.lim4, MP.lim5, List.getElem?_cons_zero, List.getElem?_cons_succ, List.set_cons_zero, List.set_cons_succ, List.length_cons, List.length_nil, List.map_cons, List.map_nil, List.cons_append, List.nil_append, List.replicate_succ, List.replicate_zero, List.any_cons, List.any_nil, Nat.reduceAdd, Nat.reduceSub, Nat.reduceEqDiff, Nat.reduceLT, Nat.reduceLeDiff, if_true, if_false, ite_true, ite_false, eq_self, Bool.not_true, Bool.not_false, Bool.true_eq_false, Bool.false_eq_true, Bool.or_true, Bool.or_false, Bool.true_or, Bool.false_or, Bool.and_true, Bool.and_false, Bool.or_self, reduceIte, reduceCtorEq, decide_true, decide_false, decide_eq_true_eq, Bool.not_eq_true', decide_eq_false_iff_not, Nat.zero_le, Int.reduceLE, Int.reduceLT, Int.reduceEq, Int.reduceNe, ne_eq, not_false_eq_true, not_true_eq_false, Int.reduceNeg, and_true, true_and, and_false, false_and, or_true, true_or, or_false, false_or] $[$loc]?)
  | `(tactic| simp only [ME_, $xs,*] $[$loc:location]?) => `(tactic| simp only [vx_int, vx_bl, vx_non, vx_v, vx_bin, vx_neg, vx_call, vx_bi, vx_tup, vx_lst, vx_ix, frzIf_nil, e_tm, qs_tm, qr_tm, isStr_s, slp_str, i_lenstr, bp_adds, itemsP_str, nn_str, Rv.bind_ok, Rv.bind_exc, Rv.bind_bad, Rv.on_ok, Rv.on_exc, Rv.on_bad, fuel_eq, vars, runFP_mk, e_non, e_bl, e_int, e_str, e_v, e_k, e_f, e_nil, e_absent, e_cons, e_tup, e_lst, e_bin, e_neg, e_not, e_and, e_or, e_cmp, e_isn, e_notn, e_ix, e_sl, e_call, e_callv, e_bi, e_isi, e_ise, e_lc, e_rng, e_rev, q_pass, qs_non, qr_non, qs_bl, qr_bl, qs_int, qr_int, qs_str, qr_str, qs_v, qs_k, qr_k, qs_f, qr_f, qs_tup, qr_tup, qs_lst, qr_lst, qs_bin, qr_bin, qs_neg, qr_neg, qs_not, qr_not, qs_and, qr_and, qs_or, qr_or, qs_cmp, qr_cmp, qs_isn, qr_isn, qs_notn, qr_notn, qs_ix, qr_ix, qs_sl, qr_sl, qs_call, qr_call, qe_call, qs_callv, qr_callv, qe_callv, qs_bi, qr_bi, qs_isi, qr_isi, qs_ise, qr_ise, qs_lc, qr_lc, qs_rng, qr_rng, qs_rev, qr_rev, qs_me, qe_me, qr_v, qx_v, q_seq, q_aug, q_ite, q_wh, q_for, q_retn, q_brk, q_cnt, q_raise, q_tryN, q_tryA, fo_nil, consP_t, tupP_t, lstP_t, allocP_e, negP_i, onTupP_t, onTupO_t, callP_t, onBlP_bl, ifP_bl, getP_non, getP_bl, getP_int, getP_str, getP_tup, getP_lst, getP_scr, getP_own, getP_fn, rawP_non, rawP_bl, rawP_int, rawP_str, rawP_tup, rawP_lst, rawP_scr, rawP_own, rawP_fn, frz_non, frz_bl, frz_int, frz_str, frz_tup, frz_lst, frz_scr, frz_own, frz_fn, frz_exc, inL_non, inL_bl, inL_int, inL_str, inL_fn, inL_exc, inL_lst, inL_scr, inL_own, inL_tup, ls_non, ls_bl, ls_int, ls_str, ls_fn, ls_exc, ls_lst, ls_scr, ls_tup, any_int, any_steps, frzIf_f, frzIf_t, frzs_nil, frzs_cons, frzAt_0, frzAt_s, frzO_n, frzO_s, isL_non, isL_bl, isL_int, isL_str, isL_tup, isL_lst, isL_scr, isL_own, onOwn_o, onSome_s, onIntP_i, onFnP_f, onExcP_f, okOnlyP_ok, onItemsP_s, itemsP_t, itemsP_l, itemsP_s, augP_a, augP_s, onPartP_int, onPartP_abs, meGo_e, onNat_s, setixP_i, meP_app', meP_rev, meP_clear, onSome_if, rc1, rc2, rc3, rc4, rc5, rc6, bp_add, bp_sub, bp_mul, bp_fdiv, bp_mod, bp_addt, bp_addl, cp_lt, cp_le, cp_gt, cp_ge, cp_eq, cp_ne, ep_int, np_int, ep_bl, np_bl, xp_t, xp_l, xp_s, atP_s, slp_t, slp_l, slp_s, i_abs, i_lent, i_lenl, i_lens, i_max, i_min, i_int, i_intb, i_listt, i_listl, i_lists, i_tupt, i_tupl, i_sorted, i_sortedR, intsP_map, sortP_f, sortP_t, t_non, t_bl, t_int, t_str, t_tup, t_lst, tz1, tz2, tz3, nn_non, nn_tup, nn_int, nn_lst, nn_own, rv_t, rp_1, rp_2, rp_3, stepsP_0, Op.then_nx, Op.then_rt, Op.then_ex, Op.then_bk, Op.then_ct, Op.then_bad, Op.turn_nx, Op.turn_ct, Op.turn_bk, Op.turn_rt, Op.turn_ex, ofP_nx, ofP_rt, ofP_ex, tryN_nx, tryA_nx, tryN_rt, tryA_rt, tryA2_rt, tryA_ex, tryN2_rt, tryN2_nx, tryN_ex, at_0, at_1, at_2, at_3, at_m1, at_m2, lt0, lt1, lt2, lt3, lt4, lt5, lt6, lt7, lt8, lt9, lt10, lt11, lt12, lt13, lt14, lt15, le6, le7, le8, le9, le10, le11, le12, le13, le14, le15, le16, le17, le18, le19, le20, le21, le22, le23, le24, le25, takeS_0, takeS_s, dropS_0, dropS_s, MP.tb1, MP.tb2, MP.tb3, MP.tb4, MP.tb5, MP.tn1, MP.tn2, MP.tn3, MP.tn4, MP.tn5, MP.tn6, MP.lim1, MP.lim2, MP.lim3, MP.lim4, MP.lim5, List.getElem?_cons_zero, List.getElem?_cons_succ, List.set_cons_zero, List.set_cons_succ, List.length_cons, List.length_nil, List.map_cons, List.map_nil, List.cons_append, List.nil_append, List.replicate_succ, List.replicate_zero, List.any_cons, List.any_nil, Nat.reduceAdd, Nat.reduceSub, Nat.reduceEqDiff, Nat.reduceLT, Nat.reduceLeDiff, if_true, if_false, ite_true, ite_false, eq_self, Bool.not_true, Bool.not_false, Bool.true_eq_false, Bool.false_eq_true, Bool.or_true, Bool.or_false, Bool.true_or, Bool.false_or, Bool.and_true, Bool.and_false, Bool.or_self, reduceIte, reduceCtorEq, decide_true, decide_false, decide_eq_true_eq, Bool.not_eq_true', decide_eq_false_iff_not, Nat.zero_le, Int.reduceLE, Int.reduceLT, Int.reduceEq, Int.reduceNe, ne_eq, not_false_eq_true, not_true_eq_false, Int.reduceNeg, and_true, true_and, and_false, false_and, or_true, true_or, or_false, false_or, $xs,*] $[$loc]?)
set_option hygiene false in
local macro_rules
  | `(tactic| simp only [MR_] $[$loc:location]?) => `(tactic| simp only [vx_int, vx_bl, vx_non, vx_v, vx_bin, vx_neg, vx_call, vx_bi, vx_tup, vx_lst, vx_ix, frzIf_nil, e_tm, qs_tm, qr_tm, isStr_s, slp_str, i_lenstr, bp_adds, itemsP_str, nn_str, Rv.bind_ok, Rv.bind_exc, Rv.bind_bad, Rv.on_ok, Rv.on_exc, Rv.on_bad, fuel_eq, vars, runFP_mk, e_non, e_bl, e_int, e_str, e_v, e_k, e_f, e_nil, e_absent, e_cons, e_tup, e_lst, e_bin, e_neg, e_not, e_and, e_or, e_cmp, e_isn, e_notn, e_ix, e_sl, e_call, e_callv, e_bi, e_isi, e_ise, e_lc, e_rng, e_rev, q_pass, qs_non, qr_non, qs_bl, qr_bl, qs_int, qr_int, qs_str, qr_str, qs_v, qs_k, qr_k, qs_f, qr_f, qs_tup, qr_tup, qs_lst, qr_lst, qs_bin, qr_bin, qs_neg, qr_neg, qs_not, qr_not, qs_and, qr_and, qs_or, qr_or, qs_cmp, qr_cmp, qs_isn, qr_isn, qs_notn, qr_notn, qs_ix, qr_ix, qs_sl, qr_sl, qs_call, qr_call, qe_call, qs_callv, qr_callv, qe_callv, qs_bi, qr_bi, qs_isi, qr_isi, qs_ise, qr_ise, qs_lc, qr_lc, qs_rng, qr_rng, qs_rev, qr_rev, qs_me, qe_me, qr_v, qx_v, q_seq, q_aug, q_ite, q_wh, q_for, q_retn, q_brk, q_cnt, q_raise, q_tryN, q_tryA, fo_nil, consP_t, tupP_t, lstP_t, allocP_e, negP_i, onTupP_t, onTupO_t, callP_t, onBlP_bl, ifP_bl, getP_non, getP_bl, getP_int, getP_str, getP_tup, getP_lst, getP_scr, getP_own, getP_fn, rawP_non, rawP_bl, rawP_int, rawP_str, rawP_tup, rawP_lst, rawP_scr, rawP_own, rawP_fn, frz_non, frz_bl, frz_int, frz_str, frz_tup, frz_lst, frz_scr, frz_own, frz_fn, frz_exc, inL_non, inL_bl, inL_int, inL_str, inL_fn, inL_exc, inL_lst, inL_scr, inL_own, inL_tup, ls_non, ls_bl, ls_int, ls_str, ls_fn, ls_exc, ls_lst, ls_scr, ls_tup, any_int, any_steps, frzIf_f, frzIf_t, frzs_nil, frzs_cons, frzAt_0, frzAt_s, frzO_n, frzO_s, isL_non, isL_bl, isL_int, isL_str, isL_tup, isL_lst, isL_scr, isL_own, onOwn_o, onSome_s, onIntP_i, onFnP_f, onExcP_f, okOnlyP_ok, onItemsP_s, itemsP_t, itemsP_l, itemsP_s, augP_a, augP_s, onPartP_int, onPartP_abs, meGo_e, onNat_s, setixP_i, meP_app', meP_rev, meP_clear, onSome_if, rc1, rc2, rc3, rc4, rc5, rc6, bp_add, bp_sub, bp_mul, bp_fdiv, bp_mod, bp_addt, bp_addl, cp_lt, cp_le, cp_gt, cp_ge, cp_eq, cp_ne, ep_int, np_int, ep_bl, np_bl, xp_t, xp_l, xp_s, atP_s, slp_t, slp_l, slp_s, i_abs, i_lent, i_lenl, i_lens, i_max, i_min, i_int, i_intb, i_listt, i_listl, i_lists, i_tupt, i_tupl, i_sorted, i_sortedR, intsP_map, sortP_f, sortP_t, t_non, t_bl, t_int, t_str, t_tup, t_lst, tz1, tz2, tz3, nn_non, nn_tup, nn_int, nn_lst, nn_own, rv_t, rp_1, rp_2, rp_3, stepsP_0, Op.then_nx, Op.then_rt, Op.then_ex, Op.then_bk, Op.then_ct, Op.then_bad, Op.turn_nx, Op.turn_ct, Op.turn_bk, Op.turn_rt, Op.turn_ex, ofP_nx, ofP_rt, ofP_ex, tryN_nx, tryA_nx, tryN_rt, tryA_rt, tryA2_rt, tryA_ex, tryN2_rt, tryN2_nx, tryN_ex, at_0, at_1, at_2, at_3, at_m1, at_m2, lt0, lt1, lt2, lt3, lt4, lt5, lt6, lt7, lt8, lt9, lt10, lt11, lt12, lt13, lt14, lt15, le6, le7, le8, le9, le10, le11, le12, le13, le14, le15, le16, le17, le18, le19, le20, le21, le22, le23, le24, le25, takeS_0, takeS_s, dropS_0, dropS_s, MP.tb1, MP.tb2, MP.tb3, MP.tb4, MP.tb5, MP.tn1, MP.tn2, MP.tn3, MP.tn4, MP.tn5, MP.tn6, MP.lim1, MP.lim2, MP.lim3, MP.lim4, MP.lim5, List.getElem?_cons_zero, List.getElem?_cons_succ, List.set_cons_zero, List.set_cons_succ, List.length_cons, List.length_nil, List.map_cons, List.map_nil, List.cons_append, List.nil_append, List.replicate_succ, List.replicate_zero, List.any_cons, List.any_nil, Nat.reduceAdd, Nat.reduceSub, Nat.reduceEqDiff, Nat.reduceLT, Nat.reduceLeDiff, if_true, if_false, ite_true, ite_false, eq_self, Bool.not_true, Bool.not_false, Bool.true_eq_false, Bool.false_eq_true, Bool.or_true, Bool.or_false, Bool.true_or, Bool.false_or, Bool.and_true, Bool.and_false, Bool.or_self, reduceIte, reduceCtorEq, decide_true, decide_false, decide_eq_true_eq, Bool.not_eq_true', decide_eq_false_iff_not, Nat.zero_le, Int.reduceLE, Int.reduceLT, Int.reduceEq, Int.reduceNe, ne_eq, not_false_eq_true, not_true_eq_false, Int.reduceNeg, and_true, true_and, and_false, false_and, or_true, true_or, or_false, false_or, fmp, pp_4, pp_6, pp_9, pp_12, pp_18, pp_20, pp_28, pp_30, pp_40, pp_44, pp_50, pp_57, pp_58, pp_59, pp_60, getP_R, xp_R0, xp_R1, t_R, l_R, nn_R, tupP_R, callP_R, onTupP_R, consP_R, frz_R, rawP_R, inL_R, isL_R, ls_R, items_R, ep_R, np_R, R0n, R0d, R1n, R1d, R_eta, R_0, R_1, R_neg, R_den', R_den1, R_den0] $[$loc]?)
  | `(tactic| simp only [MR_, $xs,*] $[$loc:location]?) => `(tactic| simp only [vx_int, vx_bl, vx_non, vx_v, vx_bin, vx_neg, vx_call, vx_bi, vx_tup, vx_lst, vx_ix, frzIf_nil, e_tm, qs_tm, qr_tm, isStr_s, slp_str, i_lenstr, bp_adds, itemsP_str, nn_str, Rv.bind_ok, Rv.bind_exc, Rv.bind_bad, Rv.on_ok, Rv.on_exc, Rv.on_bad, fuel_eq, vars, runFP_mk, e_non, e_bl, e_int, e_str, e_v, e_k, e_f, e_nil, e_absent, e_cons, e_tup, e_lst, e_bin, e_neg, e_not, e_and, e_or, e_cmp, e_isn, e_notn, e_ix, e_sl, e_call, e_callv, e_bi, e_isi, e_ise, e_lc, e_rng, e_rev, q_pass, qs_non, qr_non, qs_bl, qr_bl, qs_int, qr_int, qs_str, qr_str, qs_v, qs_k, qr_k, qs_f, qr_f, qs_tup, qr_tup, qs_lst, qr_lst, qs_bin, qr_bin, qs_neg, qr_neg, qs_not, qr_not, qs_and, qr_and, qs_or, qr_or, qs_cmp, qr_cmp, qs_isn, qr_isn, qs_notn, qr_notn, qs_ix, qr_ix, qs_sl, qr_sl, qs_call, qr_call, qe_call, qs_callv, qr_callv, qe_callv, qs_bi, qr_bi, qs_isi, qr_isi, qs_ise, qr_ise, qs_lc, qr_lc, qs_rng, qr_rng, qs_rev, qr_rev, qs_me, qe_me, qr_v, qx_v, q_seq, q_aug, q_ite, q_wh, q_for, q_retn, q_brk, q_cnt, q_raise, q_tryN, q_tryA, fo_nil, consP_t, tupP_t, lstP_t, allocP_e, negP_i, onTupP_t, onTupO_t, callP_t, onBlP_bl, ifP_bl, getP_non, getP_bl, getP_int, getP_str, getP_tup, getP_lst, getP_scr, getP_own, getP_fn, rawP_non, rawP_bl, rawP_int, rawP_str, rawP_tup, rawP_lst, rawP_scr, rawP_own, rawP_fn, frz_non, frz_bl, frz_int, frz_str, frz_tup, frz_lst, frz_scr, frz_own, frz_fn, frz_exc, inL_non, inL_bl, inL_int, inL_str, inL_fn, inL_exc, inL_lst, inL_scr, inL_own, inL_tup, ls_non, ls_bl, ls_int, ls_str, ls_fn, ls_exc, ls_lst, ls_scr, ls_tup, any_int, any_steps, frzIf_f, frzIf_t, frzs_nil, frzs_cons, frzAt_0, frzAt_s, frzO_n, frzO_s, isL_non, isL_bl, isL_int, isL_str, isL_tup, isL_lst, isL_scr, isL_own, onOwn_o, onSome_s, onIntP_i, onFnP_f, onExcP_f, okOnlyP_ok, onItemsP_s, itemsP_t, itemsP_l, itemsP_s, augP_a, augP_s, onPartP_int, onPartP_abs, meGo_e, onNat_s, setixP_i, meP_app', meP_rev, meP_clear, onSome_if, rc1, rc2, rc3, rc4, rc5, rc6, bp_add, bp_sub, bp_mul, bp_fdiv, bp_mod, bp_addt, bp_addl, cp_lt, cp_le, cp_gt, cp_ge, cp_eq, cp_ne, ep_int, np_int, ep_bl, np_bl, xp_t, xp_l, xp_s, atP_s, slp_t, slp_l, slp_s, i_abs, i_lent, i_lenl, i_lens, i_max, i_min, i_int, i_intb, i_listt, i_listl, i_lists, i_tupt, i_tupl, i_sorted, i_sortedR, intsP_map, sortP_f, sortP_t, t_non, t_bl, t_int, t_str, t_tup, t_lst, tz1, tz2, tz3, nn_non, nn_tup, nn_int, nn_lst, nn_own, rv_t, rp_1, rp_2, rp_3, stepsP_0, Op.then_nx, Op.then_rt, Op.then_ex, Op.then_bk, Op.then_ct, Op.then_bad, Op.turn_nx, Op.turn_ct, Op.turn_bk, Op.turn_rt, Op.turn_ex, ofP_nx, ofP_rt, ofP_ex, tryN_nx, tryA_nx, tryN_rt, tryA_rt, tryA2_rt, tryA_ex, tryN2_rt, tryN2_nx, tryN_ex, at_0, at_1, at_2, at_3, at_m1, at_m2, lt0, lt1, lt2, lt3, lt4, lt5, lt6, lt7, lt8, lt9, lt10, lt11, lt12, lt13, lt14, lt15, le6, le7, le8, le9, le10, le11, le12, le13, le14, le15, le16, le17, le18, le19, le20, le21, le22, le23, le24, le25, takeS_0, takeS_s, dropS_0, dropS_s, MP.tb1, MP.tb2, MP.tb3, MP.tb4, MP.tb5, MP.tn1, MP.tn2, MP.tn3, MP.tn4, MP.tn5, MP.tn6, MP.lim1, MP.lim2, MP.lim3, MP.lim4, MP.lim5, List.getElem?_cons_zero, List.getElem?_cons_succ, List.set_cons_zero, List.set_cons_succ, List.length_cons, List.length_nil, List.map_cons, List.map_nil, List.cons_append, List.nil_append, List.replicate_succ, List.replicate_zero, List.any_cons, List.any_nil, Nat.reduceAdd, Nat.reduceSub, Nat.reduceEqDiff, Nat.reduceLT, Nat.reduceLeDiff, if_true, if_false, ite_true, ite_false, eq_self, Bool.not_true, Bool.not_false, Bool.true_eq_false, Bool.false_eq_true, Bool.or_true, Bool.or_false, Bool.true_or, Bool.false_or, Bool.and_true, Bool.and_false, Bool.or_self, reduceIte, reduceCtorEq, decide_true, decide_false, decide_eq_true_eq, Bool.not_eq_true', decide_eq_false_iff_not, Nat.zero_le, Int.reduceLE, Int.reduceLT, Int.reduceEq, Int.reduceNe, ne_eq, not_false_eq_true, not_true_eq_false, Int.reduceNeg, and_true, true_and, and_false, false_and, or_true, true_or, or_false, false_or, fmp, pp_4, pp_6, pp_9, pp_12, pp_18, pp_20, pp_28, pp_30, pp_40, pp_44, pp_50, pp_57, pp_58, pp_59, pp_60, getP_R, xp_R0, xp_R1, t_R, l_R, nn_R, tupP_R, callP_R, onTupP_R, consP_R, frz_R, rawP_R, inL_R, isL_R, ls_R, items_R, ep_R, np_R, R0n, R0d, R1n, R1d, R_eta, R_0, R_1, R_neg, R_den', R_den1, R_den0, $xs,*] $[$loc]?)
set_option hygiene false in
local macro_rules
  | `(tactic| simp only [MC_] $[$loc:location]?) => `(tactic| simp only [vx_int, vx_bl, vx_non, vx_v, vx_bin, vx_neg, vx_call, vx_bi, vx_tup, vx_lst, vx_ix, frzIf_nil, e_tm, qs_tm, qr_tm, isStr_s, slp_str, i_lenstr, bp_adds, itemsP_str, nn_str, Rv.bind_ok, Rv.bind_exc, Rv.bind_bad, Rv.on_ok, Rv.on_exc, Rv.on_bad, fuel_eq, vars, runFP_mk, e_non, e_bl, e_int, e_str, e_v, e_k, e_f, e_nil, e_absent, e_cons, e_tup, e_lst, e_bin, e_neg, e_not, e_and, e_or, e_cmp, e_isn, e_notn, e_ix, e_sl, e_call, e_callv, e_bi, e_isi, e_ise, e_lc, e_rng, e_rev, q_pass, qs_non, qr_non, qs_bl, qr_bl, qs_int, qr_int, qs_str, qr_str, qs_v, qs_k, qr_k, qs_f, qr_f, qs_tup, qr_tup, qs_lst, qr_lst, qs_bin, qr_bin, qs_neg, qr_neg, qs_not, qr_not, qs_and, qr_and, qs_or, qr_or, qs_cmp, qr_cmp, qs_isn, qr_isn, qs_notn, qr_notn, qs_ix, qr_ix, qs_sl, qr_sl, qs_call, qr_call, qe_call, qs_callv, qr_callv, qe_callv, qs_bi, qr_bi, qs_isi, qr_isi, qs_ise, qr_ise, qs_lc, qr_lc, qs_rng, qr_rng, qs_rev, qr_rev, qs_me, qe_me, qr_v, qx_v, q_seq, q_aug, q_ite, q_wh, q_for, q_retn, q_brk, q_cnt, q_raise, q_tryN, q_tryA, fo_nil, consP_t, tupP_t, lstP_t, allocP_e, negP_i, onTupP_t, onTupO_t, callP_t, onBlP_bl, ifP_bl, getP_non, getP_bl, getP_int, getP_str, getP_tup, getP_lst, getP_scr, getP_own, getP_fn, rawP_non, rawP_bl, rawP_int, rawP_str, rawP_tup, rawP_lst, rawP_scr, rawP_own, rawP_fn, frz_non, frz_bl, frz_int, frz_str, frz_tup, frz_lst, frz_scr, frz_own, frz_fn, frz_exc, inL_non, inL_bl, inL_int, inL_str, inL_fn, inL_exc, inL_lst, inL_scr, inL_own, inL_tup, ls_non, ls_bl, ls_int, ls_str, ls_fn, ls_exc, ls_lst, ls_scr, ls_tup, any_int, any_steps, frzIf_f, frzIf_t, frzs_nil, frzs_cons, frzAt_0, frzAt_s, frzO_n, frzO_s, isL_non, isL_bl, isL_int, isL_str, isL_tup, isL_lst, isL_scr, isL_own, onOwn_o, onSome_s, onIntP_i, onFnP_f, onExcP_f, okOnlyP_ok, onItemsP_s, itemsP_t, itemsP_l, itemsP_s, augP_a, augP_s, onPartP_int, onPartP_abs, meGo_e, onNat_s, setixP_i, meP_app', meP_rev, meP_clear, onSome_if, rc1, rc2, rc3, rc4, rc5, rc6, bp_add, bp_sub, bp_mul, bp_fdiv, bp_mod, bp_addt, bp_addl, cp_lt, cp_le, cp_gt, cp_ge, cp_eq, cp_ne, ep_int, np_int, ep_bl, np_bl, xp_t, xp_l, xp_s, atP_s, slp_t, slp_l, slp_s, i_abs, i_lent, i_lenl, i_lens, i_max, i_min, i_int, i_intb, i_listt, i_listl, i_lists, i_tupt, i_tupl, i_sorted, i_sortedR, intsP_map, sortP_f, sortP_t, t_non, t_bl, t_int, t_str, t_tup, t_lst, tz1, tz2, tz3, nn_non, nn_tup, nn_int, nn_lst, nn_own, rv_t, rp_1, rp_2, rp_3, stepsP_0, Op.then_nx, Op.then_rt, Op.then_ex, Op.then_bk, Op.then_ct, Op.then_bad, Op.turn_nx, Op.turn_ct, Op.turn_bk, Op.turn_rt, Op.turn_ex, ofP_nx, ofP_rt, ofP_ex, tryN_nx, tryA_nx, tryN_rt, tryA_rt, tryA2_rt, tryA_ex, tryN2_rt, tryN2_nx, tryN_ex, at_0, at_1, at_2, at_3, at_m1, at_m2, lt0, lt1, lt2, lt3, lt4, lt5, lt6, lt7, lt8, lt9, lt10, lt11, lt12, lt13, lt14, lt15, le6, le7, le8, le9, le10, le11, le12, le13, le14, le15, le16, le17, le18, le19, le20, le21, le22, le23, le24, le25, takeS_0, takeS_s, dropS_0, dropS_s, MP.tb1, MP.tb2, MP.tb3, MP.tb4, MP.tb5, MP.tn1, MP.tn2, MP.tn3, MP.tn4, MP.tn5, MP.tn6, MP.lim1, MP.lim2, MP.lim3, MP.lim4, MP.lim5, List.getElem?_cons_zero, List.getElem?_cons_succ, List.set_cons_zero, List.set_cons_succ, List.length_cons, List.length_nil, List.map_cons, List.map_nil, List.cons_append, List.nil_append, List.replicate_succ, List.replicate_zero, List.any_cons, List.any_nil, Nat.reduceAdd, Nat.reduceSub, Nat.reduceEqDiff, Nat.reduceLT, Nat.reduceLeDiff, if_true, if_false, ite_true, ite_false, eq_self, Bool.not_true, Bool.not_false, Bool.true_eq_false, Bool.false_eq_true, Bool.or_true, Bool.or_false, Bool.true_or, Bool.false_or, Bool.and_true, Bool.and_false, Bool.or_self, reduceIte, reduceCtorEq, decide_true, decide_false, decide_eq_true_eq, Bool.not_eq_true', decide_eq_false_iff_not, Nat.zero_le, Int.reduceLE, Int.reduceLT, Int.reduceEq, Int.reduceNe, ne_eq, not_false_eq_true, not_true_eq_false, Int.reduceNeg, and_true, true_and, and_false, false_and, or_true, true_or, or_false, false_or, fmp, pp_4, pp_6, pp_9, pp_12, pp_18, pp_20, pp_28, pp_30, pp_40, pp_44, pp_50, pp_57, pp_58, pp_59, pp_60, getP_R, xp_R0, xp_R1, t_R, l_R, nn_R, tupP_R, callP_R, onTupP_R, consP_R, frz_R, rawP_R, inL_R, isL_R, ls_R, items_R, ep_R, np_R, R0n, R0d, R1n, R1d, R_eta, R_0, R_1, R_neg, R_den', R_den1, R_den0, getP_C, xp_C0, xp_C1, C_eta, tupP_C, callP_C, consP_C, t_C, l_C, onTupP_C, ep_C, frz_C, rawP_C, inL_C, isL_C, ls_C, nn_C, any_C, getP_F, xp_F0, xp_F1, t_F, l_F, frz_F, rawP_F, inL_F, isL_F, ls_F, nn_F, tupP_F, any_R] $[$loc]?)
  | `(tactic| simp only [MC_, $xs,*] $[$loc:location]?) => `(tactic| simp only [vx_int, vx_bl, vx_non, vx_v, vx_bin, vx_neg, vx_call, vx_bi, vx_tup, vx_lst, vx_ix, frzIf_nil, e_tm, qs_tm, qr_tm, isStr_s, slp_str, i_lenstr, bp_adds, itemsP_str, nn_str, Rv.bind_ok, Rv.bind_exc, Rv.bind_bad, Rv.on_ok, Rv.on_exc, Rv.on_bad, fuel_eq, vars, runFP_mk, e_non, e_bl, e_int, e_str, e_v, e_k, e_f, e_nil, e_absent, e_cons, e_tup, e_lst, e_bin, e_neg, e_not, e_and, e_or, e_cmp, e_isn, e_notn, e_ix, e_sl, e_call, e_callv, e_bi, e_isi, e_ise, e_lc, e_rng, e_rev, q_pass, qs_non, qr_non, qs_bl, qr_bl, qs_int, qr_int, qs_str, qr_str, qs_v, qs_k, qr_k, qs_f, qr_f, qs_tup, qr_tup, qs_lst, qr_lst, qs_bin, qr_bin, qs_neg, qr_neg, qs_not, qr_not, qs_and, qr_and, qs_or, qr_or, qs_cmp, qr_cmp, qs_isn, qr_isn, qs_notn, qr_notn, qs_ix, qr_ix, qs_sl, qr_sl, qs_call, qr_call, qe_call, qs_callv, qr_callv, qe_callv, qs_bi, qr_bi, qs_isi, qr_isi, qs_ise, qr_ise, qs_lc, qr_lc, qs_rng, qr_rng, qs_rev, qr_rev, qs_me, qe_me, qr_v, qx_v, q_seq, q_aug, q_ite, q_wh, q_for, q_retn, q_brk, q_cnt, q_raise, q_tryN, q_tryA, fo_nil, consP_t, tupP_t, lstP_t, allocP_e, negP_i, onTupP_t, onTupO_t, callP_t, onBlP_bl, ifP_bl, getP_non, getP_bl, getP_int, getP_str, getP_tup, getP_lst, getP_scr, getP_own, getP_fn, rawP_non, rawP_bl, rawP_int, rawP_str, rawP_tup, rawP_lst, rawP_scr, rawP_own, rawP_fn, frz_non, frz_bl, frz_int, frz_str, frz_tup, frz_lst, frz_scr, frz_own, frz_fn, frz_exc, inL_non, inL_bl, inL_int, inL_str, inL_fn, inL_exc, inL_lst, inL_scr, inL_own, inL_tup, ls_non, ls_bl, ls_int, ls_str, ls_fn, ls_exc, ls_lst, ls_scr, ls_tup, any_int, any_steps, frzIf_f, frzIf_t, frzs_nil, frzs_cons, frzAt_0, frzAt_s, frzO_n, frzO_s, isL_non, isL_bl, isL_int, isL_str, isL_tup, isL_lst, isL_scr, isL_own, onOwn_o, onSome_s, onIntP_i, onFnP_f, onExcP_f, okOnlyP_ok, onItemsP_s, itemsP_t, itemsP_l, itemsP_s, augP_a, augP_s, onPartP_int, onPartP_abs, meGo_e, onNat_s, setixP_i, meP_app', meP_rev, meP_clear, onSome_if, rc1, rc2, rc3, rc4, rc5, rc6, bp_add, bp_sub, bp_mul, bp_fdiv, bp_mod, bp_addt, bp_addl, cp_lt, cp_le, cp_gt, cp_ge, cp_eq, cp_ne, ep_int, np_int, ep_bl, np_bl, xp_t, xp_l, xp_s, atP_s, slp_t, slp_l, slp_s, i_abs, i_lent, i_lenl, i_lens, i_max, i_min, i_int, i_intb, i_listt, i_listl, i_lists, i_tupt, i_tupl, i_sorted, i_sortedR, intsP_map, sortP_f, sortP_t, t_non, t_bl, t_int, t_str, t_tup, t_lst, tz1, tz2, tz3, nn_non, nn_tup, nn_int, nn_lst, nn_own, rv_t, rp_1, rp_2, rp_3, stepsP_0, Op.then_nx, Op.then_rt, Op.then_ex, Op.then_bk, Op.then_ct, Op.then_bad, Op.turn_nx, Op.turn_ct, Op.turn_bk, Op.turn_rt, Op.turn_ex, ofP_nx, ofP_rt, ofP_ex, tryN_nx, tryA_nx, tryN_rt, tryA_rt, tryA2_rt, tryA_ex, tryN2_rt, tryN2_nx, tryN_ex, at_0, at_1, at_2, at_3, at_m1, at_m2, lt0, lt1, lt2, lt3, lt4, lt5, lt6, lt7, lt8, lt9, lt10, lt11, lt12, lt13, lt14, lt15, le6, le7, le8, le9, le10, le11, le12, le13, le14, le15, le16, le17, le18, le19, le20, le21, le22, le23, le24, le25, takeS_0, takeS_s, dropS_0, dropS_s, MP.tb1, MP.tb2, MP.tb3, MP.tb4, MP.tb5, MP.tn1, MP.tn2, MP.tn3, MP.tn4, MP.tn5, MP.tn6, MP.lim1, MP.lim2, MP.lim3, MP.lim4, MP.lim5, List.getElem?_cons_zero, List.getElem?_cons_succ, List.set_cons_zero, List.set_cons_succ, List.length_cons, List.length_nil, List.map_cons, List.map_nil, List.cons_append, List.nil_append, List.replicate_succ, List.replicate_zero, List.any_cons, List.any_nil, Nat.reduceAdd, Nat.reduceSub, Nat.reduceEqDiff, Nat.reduceLT, Nat.reduceLeDiff, if_true, if_false, ite_true, ite_false, eq_self, Bool.not_true, Bool.not_false, Bool.true_eq_false, Bool.false_eq_true, Bool.or_true, Bool.or_false, Bool.true_or, Bool.false_or, Bool.and_true, Bool.and_false, Bool.or_self, reduceIte, reduceCtorEq, decide_true, decide_false, decide_eq_true_eq, Bool.not_eq_true', decide_eq_false_iff_not, Nat.zero_le, Int.reduceLE, Int.reduceLT, Int.reduceEq, Int.reduceNe, ne_eq, not_false_eq_true, not_true_eq_false, Int.reduceNeg, and_true, true_and, and_false, false_and, or_true, true_or, or_false, false_or, fmp, pp_4, pp_6, pp_9, pp_12, pp_18, pp_20, pp_28, pp_30, pp_40, pp_44, pp_50, pp_57, pp_58, pp_59, pp_60, getP_R, xp_R0, xp_R1, t_R, l_R, nn_R, tupP_R, callP_R, onTupP_R, consP_R, frz_R, rawP_R, inL_R, isL_R, ls_R, items_R, ep_R, np_R, R0n, R0d, R1n, R1d, R_eta, R_0, R_1, R_neg, R_den', R_den1, R_den0, getP_C, xp_C0, xp_C1, C_eta, tupP_C, callP_C, consP_C, t_C, l_C, onTupP_C, ep_C, frz_C, rawP_C, inL_C, isL_C, ls_C, nn_C, any_C, getP_F, xp_F0, xp_F1, t_F, l_F, frz_F, rawP_F, inL_F, isL_F, ls_F, nn_F, tupP_F, any_R, $xs,*] $[$loc]?)
set_option hygiene false in
local macro_rules
  | `(tactic| simp only [MW_] $[$loc:location]?) => `(tactic| simp only [vx_int, vx_bl, vx_non, vx_v, vx_bin, vx_neg, vx_call, vx_bi, vx_tup, vx_lst, vx_ix, frzIf_nil, e_tm, qs_tm, qr_tm, isStr_s, slp_str, i_lenstr, bp_adds, itemsP_str, nn_str, Rv.bind_ok, Rv.bind_exc, Rv.bind_bad, Rv.on_ok, Rv.on_exc, Rv.on_bad, fuel_eq, vars, runFP_mk, e_non, e_bl, e_int, e_str, e_v, e_k, e_f, e_nil, e_absent, e_cons, e_tup, e_lst, e_bin, e_neg, e_not, e_and, e_or, e_cmp, e_isn, e_notn, e_ix, e_sl, e_call, e_callv, e_bi, e_isi, e_ise, e_lc, e_rng, e_rev, q_pass, qs_non, qr_non, qs_bl, qr_bl, qs_int, qr_int, qs_str, qr_str, qs_v, qs_k, qr_k, qs_f, qr_f, qs_tup, qr_tup, qs_lst, qr_lst, qs_bin, qr_bin, qs_neg, qr_neg, qs_not, qr_not, qs_and, qr_and, qs_or, qr_or, qs_cmp, qr_cmp, qs_isn, qr_isn, qs_notn, qr_notn, qs_ix, qr_ix, qs_sl, qr_sl, qs_call, qr_call, qe_call, qs_callv, qr_callv, qe_callv, qs_bi, qr_bi, qs_isi, qr_isi, qs_ise, qr_ise, qs_lc, qr_lc, qs_rng, qr_rng, qs_rev, qr_rev, qs_me, qe_me, qr_v, qx_v, q_seq, q_aug, q_ite, q_wh, q_for, q_retn, q_brk, q_cnt, q_raise, q_tryN, q_tryA, fo_nil, consP_t, tupP_t, lstP_t, allocP_e, negP_i, onTupP_t, onTupO_t, callP_t, onBlP_bl, ifP_bl, getP_non, getP_bl, getP_int, getP_str, getP_tup, getP_lst, getP_scr, getP_own, getP_fn, rawP_non, rawP_bl, rawP_int, rawP_str, rawP_tup, rawP_lst, rawP_scr, rawP_own, rawP_fn, frz_non, frz_bl, frz_int, frz_str, frz_tup, frz_lst, frz_scr, frz_own, frz_fn, frz_exc, inL_non, inL_bl, inL_int, inL_str, inL_fn, inL_exc, inL_lst, inL_scr, inL_own, inL_tup, ls_non, ls_bl, ls_int, ls_str, ls_fn, ls_exc, ls_lst, ls_scr, ls_tup, any_int, any_steps, frzIf_f, frzIf_t, frzs_nil, frzs_cons, frzAt_0, frzAt_s, frzO_n, frzO_s, isL_non, isL_bl, isL_int, isL_str, isL_tup, isL_lst, isL_scr, isL_own, onOwn_o, onSome_s, onIntP_i, onFnP_f, onExcP_f, okOnlyP_ok, onItemsP_s, itemsP_t, itemsP_l, itemsP_s, augP_a, augP_s, onPartP_int, onPartP_abs, meGo_e, onNat_s, setixP_i, meP_app', meP_rev, meP_clear, onSome_if, rc1, rc2, rc3, rc4, rc5, rc6, bp_add, bp_sub, bp_mul, bp_fdiv, bp_mod, bp_addt, bp_addl, cp_lt, cp_le, cp_gt, cp_ge, cp_eq, cp_ne, ep_int, np_int, ep_bl, np_bl, xp_t, xp_l, xp_s, atP_s, slp_t, slp_l, slp_s, i_abs, i_lent, i_lenl, i_lens, i_max, i_min, i_int, i_intb, i_listt, i_listl, i_lists, i_tupt, i_tupl, i_sorted, i_sortedR, intsP_map, sortP_f, sortP_t, t_non, t_bl, t_int, t_str, t_tup, t_lst, tz1, tz2, tz3, nn_non, nn_tup, nn_int, nn_lst, nn_own, rv_t, rp_1, rp_2, rp_3, stepsP_0, Op.then_nx, Op.then_rt, Op.then_ex, Op.then_bk, Op.then_ct, Op.then_bad, Op.turn_nx, Op.turn_ct, Op.turn_bk, Op.turn_rt, Op.turn_ex, ofP_nx, ofP_rt, ofP_ex, tryN_nx, tryA_nx, tryN_rt, tryA_rt, tryA2_rt, tryA_ex, tryN2_rt, tryN2_nx, tryN_ex, at_0, at_1, at_2, at_3, at_m1, at_m2, lt0, lt1, lt2, lt3, lt4, lt5, lt6, lt7, lt8, lt9, lt10, lt11, lt12, lt13, lt14, lt15, le6, le7, le8, le9, le10, le11, le12, le13, le14, le15, le16, le17, le18, le19, le20, le21, le22, le23, le24, le25, takeS_0, takeS_s, dropS_0, dropS_s, MP.tb1, MP.tb2, MP.tb3, MP.tb4, MP.tb5, MP.tn1, MP.tn2, MP.tn3, MP.tn4, MP.tn5, MP.tn6, MP.lim1, MP.lim2, MP.lim3, MP.lim4, MP.lim5, List.getElem?_cons_zero, List.getElem?_cons_succ, List.set_cons_zero, List.set_cons_succ, List.length_cons, List.length_nil, List.map_cons, List.map_nil, List.cons_append, List.nil_append, List.replicate_succ, List.replicate_zero, List.any_cons, List.any_nil, Nat.reduceAdd, Nat.reduceSub, Nat.reduceEqDiff, Nat.reduceLT, Nat.reduceLeDiff, if_true, if_false, ite_true, ite_false, eq_self, Bool.not_true, Bool.not_false, Bool.true_eq_false, Bool.false_eq_true, Bool.or_true, Bool.or_false, Bool.true_or, Bool.false_or, Bool.and_true, Bool.and_false, Bool.or_self, reduceIte, reduceCtorEq, decide_true, decide_false, decide_eq_true_eq, Bool.not_eq_true', decide_eq_false_iff_not, Nat.zero_le, Int.reduceLE, Int.reduceLT, Int.reduceEq, Int.reduceNe, ne_eq, not_false_eq_true, not_true_eq_false, Int.reduceNeg, and_true, true_and, and_false, false_and, or_true, true_or, or_false, false_or, fmp, pp_4, pp_6, pp_9, pp_12, pp_18, pp_20, pp_28, pp_30, pp_40, pp_44, pp_50, pp_57, pp_58, pp_59, pp_60, getP_R, xp_R0, xp_R1, t_R, l_R, nn_R, tupP_R, callP_R, onTupP_R, consP_R, frz_R, rawP_R, inL_R, isL_R, ls_R, items_R, ep_R, np_R, R0n, R0d, R1n, R1d, R_eta, R_0, R_1, R_neg, R_den', R_den1, R_den0, getP_C, xp_C0, xp_C1, C_eta, tupP_C, callP_C, consP_C, t_C, l_C, onTupP_C, ep_C, frz_C, rawP_C, inL_C, isL_C, ls_C, nn_C, any_C, getP_F, xp_F0, xp_F1, t_F, l_F, frz_F, rawP_F, inL_F, isL_F, ls_F, nn_F, tupP_F, any_R, getP_W, xp_W0, xp_W1, xp_W2, frz_W, inL_W, isL_W, ls_W, any_W, nn_W, W_eta, tupP_W, consP_W, onTupP_W, callP_W, any_W'] $[$loc]?)
  | `(tactic| simp only [MW_, $xs,*] $[$loc:location]?) => `(tactic| simp only [vx_int, vx_bl, vx_non, vx_v, vx_bin, vx_neg, vx_call, vx_bi, vx_tup, vx_lst, vx_ix, frzIf_nil, e_tm, qs_tm, qr_tm, isStr_s, slp_str, i_lenstr, bp_adds, itemsP_str, nn_str, Rv.bind_ok, Rv.bind_exc, Rv.bind_bad, Rv.on_ok, Rv.on_exc, Rv.on_bad, fuel_eq, vars, runFP_mk, e_non, e_bl, e_int, e_str, e_v, e_k, e_f, e_nil, e_absent, e_cons, e_tup, e_lst, e_bin, e_neg, e_not, e_and, e_or, e_cmp, e_isn, e_notn, e_ix, e_sl, e_call, e_callv, e_bi, e_isi, e_ise, e_lc, e_rng, e_rev, q_pass, qs_non, qr_non, qs_bl, qr_bl, qs_int, qr_int, qs_str, qr_str, qs_v, qs_k, qr_k, qs_f, qr_f, qs_tup, qr_tup, qs_lst, qr_lst, qs_bin, qr_bin, qs_neg, qr_neg, qs_not, qr_not, qs_and, qr_and, qs_or, qr_or, qs_cmp, qr_cmp, qs_isn, qr_isn, qs_notn, qr_notn, qs_ix, qr_ix, qs_sl, qr_sl, qs_call, qr_call, qe_call, qs_callv, qr_callv, qe_callv, qs_bi, qr_bi, qs_isi, qr_isi, qs_ise, qr_ise, qs_lc, qr_lc, qs_rng, qr_rng, qs_rev, qr_rev, qs_me, qe_me, qr_v, qx_v, q_seq, q_aug, q_ite, q_wh, q_for, q_retn, q_brk, q_cnt, q_raise, q_tryN, q_tryA, fo_nil, consP_t, tupP_t, lstP_t, allocP_e, negP_i, onTupP_t, onTupO_t, callP_t, onBlP_bl, ifP_bl, getP_non, getP_bl, getP_int, getP_str, getP_tup, getP_lst, getP_scr, getP_own, getP_fn, rawP_non, rawP_bl, rawP_int, rawP_str, rawP_tup, rawP_lst, rawP_scr, rawP_own, rawP_fn, frz_non, frz_bl, frz_int, frz_str, frz_tup, frz_lst, frz_scr, frz_own, frz_fn, frz_exc, inL_non, inL_bl, inL_int, inL_str, inL_fn, inL_exc, inL_lst, inL_scr, inL_own, inL_tup, ls_non, ls_bl, ls_int, ls_str, ls_fn, ls_exc, ls_lst, ls_scr, ls_tup, any_int, any_steps, frzIf_f, frzIf_t, frzs_nil, frzs_cons, frzAt_0, frzAt_s, frzO_n, frzO_s, isL_non, isL_bl, isL_int, isL_str, isL_tup, isL_lst, isL_scr, isL_own, onOwn_o, onSome_s, onIntP_i, onFnP_f, onExcP_f, okOnlyP_ok, onItemsP_s, itemsP_t, itemsP_l, itemsP_s, augP_a, augP_s, onPartP_int, onPartP_abs, meGo_e, onNat_s, setixP_i, meP_app', meP_rev, meP_clear, onSome_if, rc1, rc2, rc3, rc4, rc5, rc6, bp_add, bp_sub, bp_mul, bp_fdiv, bp_mod, bp_addt, bp_addl, cp_lt, cp_le, cp_gt, cp_ge, cp_eq, cp_ne, ep_int, np_int, ep_bl, np_bl, xp_t, xp_l, xp_s, atP_s, slp_t, slp_l, slp_s, i_abs, i_lent, i_lenl, i_lens, i_max, i_min, i_int, i_intb, i_listt, i_listl, i_lists, i_tupt, i_tupl, i_sorted, i_sortedR, intsP_map, sortP_f, sortP_t, t_non, t_bl, t_int, t_str, t_tup, t_lst, tz1, tz2, tz3, nn_non, nn_tup, nn_int, nn_lst, nn_own, rv_t, rp_1, rp_2, rp_3, stepsP_0, Op.then_nx, Op.then_rt, Op.then_ex, Op.then_bk, Op.then_ct, Op.then_bad, Op.turn_nx, Op.turn_ct, Op.turn_bk, Op.turn_rt, Op.turn_ex, ofP_nx, ofP_rt, ofP_ex, tryN_nx, tryA_nx, tryN_rt, tryA_rt, tryA2_rt, tryA_ex, tryN2_rt, tryN2_nx, tryN_ex, at_0, at_1, at_2, at_3, at_m1, at_m2, lt0, lt1, lt2, lt3, lt4, lt5, lt6, lt7, lt8, lt9, lt10, lt11, lt12, lt13, lt14, lt15, le6, le7, le8, le9, le10, le11, le12, le13, le14, le15, le16, le17, le18, le19, le20, le21, le22, le23, le24, le25, takeS_0, takeS_s, dropS_0, dropS_s, MP.tb1, MP.tb2, MP.tb3, MP.tb4, MP.tb5, MP.tn1, MP.tn2, MP.tn3, MP.tn4, MP.tn5, MP.tn6, MP.lim1, MP.lim2, MP.lim3, MP.lim4, MP.lim5, List.getElem?_cons_zero, List.getElem?_cons_succ, List.set_cons_zero, List.set_cons_succ, List.length_cons, List.length_nil, List.map_cons, List.map_nil, List.cons_append, List.nil_append, List.replicate_succ, List.replicate_zero, List.any_cons, List.any_nil, Nat.reduceAdd, Nat.reduceSub, Nat.reduceEqDiff, Nat.reduceLT, Nat.reduceLeDiff, if_true, if_false, ite_true, ite_false, eq_self, Bool.not_true, Bool.not_false, Bool.true_eq_false, Bool.false_eq_true, Bool.or_true, Bool.or_false, Bool.true_or, Bool.false_or, Bool.and_true, Bool.and_false, Bool.or_self, reduceIte, reduceCtorEq, decide_true, decide_false, decide_eq_true_eq, Bool.not_eq_true', decide_eq_false_iff_not, Nat.zero_le, Int.reduceLE, Int.reduceLT, Int.reduceEq, Int.reduceNe, ne_eq, not_false_eq_true, not_true_eq_false, Int.reduceNeg, and_true, true_and, and_false, false_and, or_true, true_or, or_false, false_or, fmp, pp_4, pp_6, pp_9, pp_12, pp_18, pp_20, pp_28, pp_30, pp_40, pp_44, pp_50, pp_57, pp_58, pp_59, pp_60, getP_R, xp_R0, xp_R1, t_R, l_R, nn_R, tupP_R, callP_R, onTupP_R, consP_R, frz_R, rawP_R, inL_R, isL_R, ls_R, items_R, ep_R, np_R, R0n, R0d, R1n, R1d, R_eta, R_0, R_1, R_neg, R_den', R_den1, R_den0, getP_C, xp_C0, xp_C1, C_eta, tupP_C, callP_C, consP_C, t_C, l_C, onTupP_C, ep_C, frz_C, rawP_C, inL_C, isL_C, ls_C, nn_C, any_C, getP_F, xp_F0, xp_F1, t_F, l_F, frz_F, rawP_F, inL_F, isL_F, ls_F, nn_F, tupP_F, any_R, getP_W, xp_W0, xp_W1, xp_W2, frz_W, inL_W, isL_W, ls_W, any_W, nn_W, W_eta, tupP_W, consP_W, onTupP_W, callP_W, any_W', $xs,*] $[$loc]?)
set_option hygiene false in
local macro_rules
  | `(tactic| simp only [MQ_] $[$loc:location]?) => `(tactic| simp only [vx_int, vx_bl, vx_non, vx_v, vx_bin, vx_neg, vx_call, vx_bi, vx_tup, vx_lst, vx_ix, frzIf_nil, e_tm, qs_tm, qr_tm, isStr_s, slp_str, i_lenstr, bp_adds, itemsP_str, nn_str, Rv.bind_ok, Rv.bind_exc, Rv.bind_bad, Rv.on_ok, Rv.on_exc, Rv.on_bad, fuel_eq, vars, runFP_mk, e_non, e_bl, e_int, e_str, e_v, e_k, e_f, e_nil, e_absent, e_cons, e_tup, e_lst, e_bin, e_neg, e_not, e_and, e_or, e_cmp, e_isn, e_notn, e_ix, e_sl, e_call, e_callv, e_bi, e_isi, e_ise, e_lc, e_rng, e_rev, q_pass, qs_non, qr_non, qs_bl, qr_bl, qs_int, qr_int, qs_str, qr_str, qs_v, qs_k, qr_k, qs_f, qr_f, qs_tup, qr_tup, qs_lst, qr_lst, qs_bin, qr_bin, qs_neg, qr_neg, qs_not, qr_not, qs_and, qr_and, qs_or, qr_or, qs_cmp, qr_cmp, qs_isn, qr_isn, qs_notn, qr_notn, qs_ix, qr_ix, qs_sl, qr_sl, qs_call, qr_call, qe_call, qs_callv, qr_callv, qe_callv, qs_bi, qr_bi, qs_isi, qr_isi, qs_ise, qr_ise, qs_lc, qr_lc, qs_rng, qr_rng, qs_rev, qr_rev, qs_me, qe_me, qr_v, qx_v, q_seq, q_aug, q_ite, q_wh, q_for, q_retn, q_brk, q_cnt, q_raise, q_tryN, q_tryA, fo_nil, consP_t, tupP_t, lstP_t, allocP_e, negP_i, onTupP_t, onTupO_t, callP_t, onBlP_bl, ifP_bl, getP_non, getP_bl, getP_int, getP_str, getP_tup, getP_lst, getP_scr, getP_own, getP_fn, rawP_non, rawP_bl, rawP_int, rawP_str, rawP_tup, rawP_lst, rawP_scr, rawP_own, rawP_fn, frz_non, frz_bl, frz_int, frz_str, frz_tup, frz_lst, frz_scr, frz_own, frz_fn, frz_exc, inL_non, inL_bl, inL_int, inL_str, inL_fn, inL_exc, inL_lst, inL_scr, inL_own, inL_tup, ls_non, ls_bl, ls_int, ls_str, ls_fn, ls_exc, ls_lst, ls_scr, ls_tup, any_int, any_steps, frzIf_f, frzIf_t, frzs_nil, frzs_cons, frzAt_0, frzAt_s, frzO_n, frzO_s, isL_non, isL_bl, isL_int, isL_str, isL_tup, isL_lst, isL_scr, isL_own, onOwn_o, onSome_s, onIntP_i, onFnP_f, onExcP_f, okOnlyP_ok, onItemsP_s, itemsP_t, itemsP_l, itemsP_s, augP_a, augP_s, onPartP_int, onPartP_abs, meGo_e, onNat_s, setixP_i, meP_app', meP_rev, meP_clear, onSome_if, rc1, rc2, rc3, rc4, rc5, rc6, bp_add, bp_sub, bp_mul, bp_fdiv, bp_mod, bp_addt, bp_addl, cp_lt, cp_le, cp_gt, cp_ge, cp_eq, cp_ne, ep_int, np_int, ep_bl, np_bl, xp_t, xp_l, xp_s, atP_s, slp_t, slp_l, slp_s, i_abs, i_lent, i_lenl, i_lens, i_max, i_min, i_int, i_intb, i_listt, i_listl, i_lists, i_tupt, i_tupl, i_sorted, i_sortedR, intsP_map, sortP_f, sortP_t, t_non, t_bl, t_int, t_str, t_tup, t_lst, tz1, tz2, tz3, nn_non, nn_tup, nn_int, nn_lst, nn_own, rv_t, rp_1, rp_2, rp_3, stepsP_0, Op.then_nx, Op.then_rt, Op.then_ex, Op.then_bk, Op.then_ct, Op.then_bad, Op.turn_nx, Op.turn_ct, Op.turn_bk, Op.turn_rt, Op.turn_ex, ofP_nx, ofP_rt, ofP_ex, tryN_nx, tryA_nx, tryN_rt, tryA_rt, tryA2_rt, tryA_ex, tryN2_rt, tryN2_nx, tryN_ex, at_0, at_1, at_2, at_3, at_m1, at_m2, lt0, lt1, lt2, lt3, lt4, lt5, lt6, lt7, lt8, lt9, lt10, lt11, lt12, lt13, lt14, lt15, le6, le7, le8, le9, le10, le11, le12, le13, le14, le15, le16, le17, le18, le19, le20, le21, le22, le23, le24, le25, takeS_0, takeS_s, dropS_0, dropS_s, MP.tb1, MP.tb2, MP.tb3, MP.tb4, MP.tb5, MP.tn1, MP.tn2, MP.tn3, MP.tn4, MP.tn5, MP.tn6, MP.lim1, MP.lim2, MP.lim3, MP.lim4, MP.lim5, List.getElem?_cons_zero, List.getElem?_cons_succ, List.set_cons_zero, List.set_cons_succ, List.length_cons, List.length_nil, List.map_cons, List.map_nil, List.cons_append, List.nil_append, List.replicate_succ, List.replicate_zero, List.any_cons, List.any_nil, Nat.reduceAdd, Nat.reduceSub, Nat.reduceEqDiff, Nat.reduceLT, Nat.reduceLeDiff, if_true, if_false, ite_true, ite_false, eq_self, Bool.not_true, Bool.not_false, Bool.true_eq_false, Bool.false_eq_true, Bool.or_true, Bool.or_false, Bool.true_or, Bool.false_or, Bool.and_true, Bool.and_false, Bool.or_self, reduceIte, reduceCtorEq, decide_true, decide_false, decide_eq_true_eq, Bool.not_eq_true', decide_eq_false_iff_not, Nat.zero_le, Int.reduceLE, Int.reduceLT, Int.reduceEq, Int.reduceNe, ne_eq, not_false_eq_true, not_true_eq_false, Int.reduceNeg, and_true, true_and, and_false, false_and, or_true, true_or, or_false, false_or, fmp, pp_4, pp_6, pp_9, pp_12, pp_18, pp_20, pp_28, pp_30, pp_40, pp_44, pp_50, pp_57, pp_58, pp_59, pp_60, getP_R, xp_R0, xp_R1, t_R, l_R, nn_R, tupP_R, callP_R, onTupP_R, consP_R, frz_R, rawP_R, inL_R, isL_R, ls_R, items_R, ep_R, np_R, R0n, R0d, R1n, R1d, R_eta, R_0, R_1, R_neg, R_den', R_den1, R_den0, getP_C, xp_C0, xp_C1, C_eta, tupP_C, callP_C, consP_C, t_C, l_C, onTupP_C, ep_C, frz_C, rawP_C, inL_C, isL_C, ls_C, nn_C, any_C, getP_F, xp_F0, xp_F1, t_F, l_F, frz_F, rawP_F, inL_F, isL_F, ls_F, nn_F, tupP_F, any_R, getP_Q, rawP_Q, frz_Q, inL_Q, isL_Q, ls_Q, any_Q, xp_Q0, xp_Q1, t_Q, l_Q, nn_Q] $[$loc]?)
  | `(tactic| simp only [MQ_, $xs,*] $[$loc:location]?) => `(tactic| simp only [vx_int, vx_bl, vx_non, vx_v, vx_bin, vx_neg, vx_call, vx_bi, vx_tup, vx_lst, vx_ix, frzIf_nil, e_tm, qs_tm, qr_tm, isStr_s, slp_str, i_lenstr, bp_adds, itemsP_str, nn_str, Rv.bind_ok, Rv.bind_exc, Rv.bind_bad, Rv.on_ok, Rv.on_exc, Rv.on_bad, fuel_eq, vars, runFP_mk, e_non, e_bl, e_int, e_str, e_v, e_k, e_f, e_nil, e_absent, e_cons, e_tup, e_lst, e_bin, e_neg, e_not, e_and, e_or, e_cmp, e_isn, e_notn, e_ix, e_sl, e_call, e_callv, e_bi, e_isi, e_ise, e_lc, e_rng, e_rev, q_pass, qs_non, qr_non, qs_bl, qr_bl, qs_int, qr_int, qs_str, qr_str, qs_v, qs_k, qr_k, qs_f, qr_f, qs_tup, qr_tup, qs_lst, qr_lst, qs_bin, qr_bin, qs_neg, qr_neg, qs_not, qr_not, qs_and, qr_and, qs_or, qr_or, qs_cmp, qr_cmp, qs_isn, qr_isn, qs_notn, qr_notn, qs_ix, qr_ix, qs_sl, qr_sl, qs_call, qr_call, qe_call, qs_callv, qr_callv, qe_callv, qs_bi, qr_bi, qs_isi, qr_isi, qs_ise, qr_ise, qs_lc, qr_lc, qs_rng, qr_rng, qs_rev, qr_rev, qs_me, qe_me, qr_v, qx_v, q_seq, q_aug, q_ite, q_wh, q_for, q_retn, q_brk, q_cnt, q_raise, q_tryN, q_tryA, fo_nil, consP_t, tupP_t, lstP_t, allocP_e, negP_i, onTupP_t, onTupO_t, callP_t, onBlP_bl, ifP_bl, getP_non, getP_bl, getP_int, getP_str, getP_tup, getP_lst, getP_scr, getP_own, getP_fn, rawP_non, rawP_bl, rawP_int, rawP_str, rawP_tup, rawP_lst, rawP_scr, rawP_own, rawP_fn, frz_non, frz_bl, frz_int, frz_str, frz_tup, frz_lst, frz_scr, frz_own, frz_fn, frz_exc, inL_non, inL_bl, inL_int, inL_str, inL_fn, inL_exc, inL_lst, inL_scr, inL_own, inL_tup, ls_non, ls_bl, ls_int, ls_str, ls_fn, ls_exc, ls_lst, ls_scr, ls_tup, any_int, any_steps, frzIf_f, frzIf_t, frzs_nil, frzs_cons, frzAt_0, frzAt_s, frzO_n, frzO_s, isL_non, isL_bl, isL_int, isL_str, isL_tup, isL_lst, isL_scr, isL_own, onOwn_o, onSome_s, onIntP_i, onFnP_f, onExcP_f, okOnlyP_ok, onItemsP_s, itemsP_t, itemsP_l, itemsP_s, augP_a, augP_s, onPartP_int, onPartP_abs, meGo_e, onNat_s, setixP_i, meP_app', meP_rev, meP_clear, onSome_if, rc1, rc2, rc3, rc4, rc5, rc6, bp_add, bp_sub, bp_mul, bp_fdiv, bp_mod, bp_addt, bp_addl, cp_lt, cp_le, cp_gt, cp_ge, cp_eq, cp_ne, ep_int, np_int, ep_bl, np_bl, xp_t, xp_l, xp_s, atP_s, slp_t, slp_l, slp_s, i_abs, i_lent, i_lenl, i_lens, i_max, i_min, i_int, i_intb, i_listt, i_listl, i_lists, i_tupt, i_tupl, i_sorted, i_sortedR, intsP_map, sortP_f, sortP_t, t_non, t_bl, t_int, t_str, t_tup, t_lst, tz1, tz2, tz3, nn_non, nn_tup, nn_int, nn_lst, nn_own, rv_t, rp_1, rp_2, rp_3, stepsP_0, Op.then_nx, Op.then_rt, Op.then_ex, Op.then_bk, Op.then_ct, Op.then_bad, Op.turn_nx, Op.turn_ct, Op.turn_bk, Op.turn_rt, Op.turn_ex, ofP_nx, ofP_rt, ofP_ex, tryN_nx, tryA_nx, tryN_rt, tryA_rt, tryA2_rt, tryA_ex, tryN2_rt, tryN2_nx, tryN_ex, at_0, at_1, at_2, at_3, at_m1, at_m2, lt0, lt1, lt2, lt3, lt4, lt5, lt6, lt7, lt8, lt9, lt10, lt11, lt12, lt13, lt14, lt15, le6, le7, le8, le9, le10, le11, le12, le13, le14, le15, le16, le17, le18, le19, le20, le21, le22, le23, le24, le25, takeS_0, takeS_s, dropS_0, dropS_s, MP.tb1, MP.tb2, MP.tb3, MP.tb4, MP.tb5, MP.tn1, MP.tn2, MP.tn3, MP.tn4, MP.tn5, MP.tn6, MP.lim1, MP.lim2, MP.lim3, MP.lim4, MP.lim5, List.getElem?_cons_zero, List.getElem?_cons_succ, List.set_cons_zero, List.set_cons_succ, List.length_cons, List.length_nil, List.map_cons, List.map_nil, List.cons_append, List.nil_append, List.replicate_succ, List.replicate_zero, List.any_cons, List.any_nil, Nat.reduceAdd, Nat.reduceSub, Nat.reduceEqDiff, Nat.reduceLT, Nat.reduceLeDiff, if_true, if_false, ite_true, ite_false, eq_self, Bool.not_true, Bool.not_false, Bool.true_eq_false, Bool.false_eq_true, Bool.or_true, Bool.or_false, Bool.true_or, Bool.false_or, Bool.and_true, Bool.and_false, Bool.or_self, reduceIte, reduceCtorEq, decide_true, decide_false, decide_eq_true_eq, Bool.not_eq_true', decide_eq_false_iff_not, Nat.zero_le, Int.reduceLE, Int.reduceLT, Int.reduceEq, Int.reduceNe, ne_eq, not_false_eq_true, not_true_eq_false, Int.reduceNeg, and_true, true_and, and_false, false_and, or_true, true_or, or_false, false_or, fmp, pp_4, pp_6, pp_9, pp_12, pp_18, pp_20, pp_28, pp_30, pp_40, pp_44, pp_50, pp_57, pp_58, pp_59, pp_60, getP_R, xp_R0, xp_R1, t_R, l_R, nn_R, tupP_R, callP_R, onTupP_R, consP_R, frz_R, rawP_R, inL_R, isL_R, ls_R, items_R, ep_R, np_R, R0n, R0d, R1n, R1d, R_eta, R_0, R_1, R_neg, R_den', R_den1, R_den0, getP_C, xp_C0, xp_C1, C_eta, tupP_C, callP_C, consP_C, t_C, l_C, onTupP_C, ep_C, frz_C, rawP_C, inL_C, isL_C, ls_C, nn_C, any_C, getP_F, xp_F0, xp_F1, t_F, l_F, frz_F, rawP_F, inL_F, isL_F, ls_F, nn_F, tupP_F, any_R, getP_Q, rawP_Q, frz_Q, inL_Q, isL_Q, ls_Q, any_Q, xp_Q0, xp_Q1, t_Q, l_Q, nn_Q, $xs,*] $[$loc]?)
namespace Q
open PySem MP FP
/-! ### sizes -/
theorem BIG_ex : ∃ n : Nat, n = 13500 := ⟨_, rfl⟩
noncomputable def BIG : Nat := Classical.choose BIG_ex
theorem BIG_eq : BIG = 13500 := Classical.choose_spec BIG_ex
theorem SZ_ex : ∃ n : Nat, n = 6700 := ⟨_, rfl⟩
noncomputable def SZ : Nat := Classical.choose SZ_ex
theorem SZ_eq : SZ = 6700 := Classical.choose_spec SZ_ex
theorem z1 : SZ ≤ BIG := by rw [SZ_eq, BIG_eq]; decide
theorem z2 : SZ + 1 ≤ BIG := by rw [SZ_eq, BIG_eq]; decide
theorem z3 : SZ + SZ ≤ BIG := by rw [SZ_eq, BIG_eq]; decide
theorem z4 : SZ + SZ + 1 ≤ BIG := by rw [SZ_eq, BIG_eq]; decide
theorem zm : SZ + SZ ≤ 1000000 := by rw [SZ_eq]; decide
theorem log2_lt_of' {n k : Nat} (h : n < 2 ^ k) (h0 : n ≠ 0) : n.log2 < k := (Nat.log2_lt h0).mpr h
theorem divOk_of {i j : Int} (hj : j ≠ 0) (hi : i.natAbs < 2 ^ BIG) : divOk i j := by
  refine ⟨hj, ?_⟩
  unfold Builtin.divisionGoesByPylong
  have hx : (if i == 0 then 0 else i.natAbs.log2 / 30 + 1) ≤ 450 := by
    by_cases h0 : i = 0
    · subst h0
      decide
    · rw [if_neg (by simpa using h0)]
      have := log2_lt_of' hi (by omega)
      rw [BIG_eq] at this
      omega
  simp only [Bool.and_eq_false_iff, decide_eq_false_iff_not, Nat.not_lt]
  by_cases hy : (if j == 0 then 0 else j.natAbs.log2 / 30 + 1) > 300
  · right
    omega
  · left
    omega
theorem mulOk_of {i j : Int} {a b : Nat} (hi : i.natAbs < 2 ^ a) (hj : j.natAbs < 2 ^ b) (h : a + b ≤ 1000000) : mulOk i j := by
  by_cases h0 : i = 0
  · subst h0
    left
    decide
  by_cases h1 : j = 0
  · subst h1
    right
    left
    decide
  right
  right
  have := log2_lt_of' hi (by omega)
  have := log2_lt_of' hj (by omega)
  omega
theorem mulOk_small {i j : Int} (h : j.natAbs < 2 ^ 64) : mulOk i j := by
  right
  left
  omega
theorem mulOk_small' {i j : Int} (h : i.natAbs < 2 ^ 64) : mulOk i j := by
  left
  omega

/-- a script's number -/
def cell (ns : List Int) (k : Int) : Int := ns.getD k.toNat 0
theorem sc_at (ns : List Int) (k : Int) (h0 : 0 ≤ k) (h : k < ns.length) : L2.atI (ns.map Dv.int) k = some (.int (cell ns k)) := by
  have hk : k.toNat < ns.length := by omega
  have e := at_map (f := Dv.int) (List.getElem?_eq_getElem hk)
  rw [show ((k.toNat : Nat) : Int) = k by omega] at e
  rw [e]
  unfold cell
  rw [List.getD_eq_getElem?_getD, List.getElem?_eq_getElem hk]
  rfl
def sg (c m : Int) : Int := if c % 2 = 1 then -(c / 2 % m) else c / 2 % m
theorem sg_abs (c m : Int) (h : 0 < m) : (sg c m).natAbs < m.natAbs := by
  have h1 := Int.emod_nonneg (c / 2) (b := m) (by omega)
  have h2 := Int.emod_lt_of_pos (c / 2) h
  unfold sg
  split <;> omega
theorem fdiv2 (c : Int) : c.fdiv 2 = c / 2 := Int.fdiv_eq_ediv_of_nonneg _ (by omega)
theorem divOk2 (c : Int) : divOk c 2 := ⟨by decide, by
  unfold Builtin.divisionGoesByPylong
  simp only [Bool.and_eq_false_iff, decide_eq_false_iff_not, Nat.not_lt]
  left
  decide⟩
theorem fmp (a : Int) {b : Int} (h : 0 < b) : a.fmod b = a % b := Int.fmod_eq_emod_of_nonneg _ (by omega)
theorem pp_4 : binP .pow (.int 10) (.int 4) = .ok (.int 10000) := rfl
theorem pp_6 : binP .pow (.int 10) (.int 6) = .ok (.int 1000000) := rfl
theorem pp_9 : binP .pow (.int 10) (.int 9) = .ok (.int 1000000000) := rfl
theorem pp_12 : binP .pow (.int 10) (.int 12) = .ok (.int 1000000000000) := rfl
theorem pp_18 : binP .pow (.int 10) (.int 18) = .ok (.int 1000000000000000000) := rfl
theorem pp_20 : binP .pow (.int 10) (.int 20) = .ok (.int 100000000000000000000) := rfl
theorem pp_28 : binP .pow (.int 10) (.int 28) = .ok (.int 10000000000000000000000000000) := rfl
theorem pp_30 : binP .pow (.int 10) (.int 30) = .ok (.int 1000000000000000000000000000000) := rfl
theorem pp_40 : binP .pow (.int 10) (.int 40) = .ok (.int 10000000000000000000000000000000000000000) := rfl
theorem pp_44 : binP .pow (.int 10) (.int 44) = .ok (.int 100000000000000000000000000000000000000000000) := rfl
theorem pp_50 : binP .pow (.int 10) (.int 50) = .ok (.int 100000000000000000000000000000000000000000000000000) := rfl
theorem pp_57 : binP .pow (.int 10) (.int 57) = .ok (.int 1000000000000000000000000000000000000000000000000000000000) := rfl
theorem pp_58 : binP .pow (.int 10) (.int 58) = .ok (.int 10000000000000000000000000000000000000000000000000000000000) := rfl
theorem pp_59 : binP .pow (.int 10) (.int 59) = .ok (.int 100000000000000000000000000000000000000000000000000000000000) := rfl
theorem pp_60 : binP .pow (.int 10) (.int 60) = .ok (.int 1000000000000000000000000000000000000000000000000000000000000) := rfl
theorem abs_nat (a : Int) : (if a < 0 then -a else a) = ((a.natAbs : Nat) : Int) := by
  split <;> omega


end Q
namespace Q
open PySem MP FP
/-- d stands for the data p, k deep -/
structure IsP (k : Nat) (d : Dv) (p : PyData) : Prop where
  rd : ∀ n, k ≤ n → pyP n d = some p
  lay : p.canLay0 = true
  dep : p.depth ≤ k
theorem IsP.mono {k k' : Nat} {d : Dv} {p : PyData} (h : IsP k d p) (hk : k ≤ k') : IsP k' d p := ⟨fun n hn => h.rd n (by omega), h.lay, by have := h.dep; omega⟩
theorem eqP_p {x y : Dv} {p q : PyData} {k k' : Nat} (hx : IsP k x p) (hy : IsP k' y q) (hk : k ≤ 12) (hk' : k' ≤ 12) (f : Bool → Bool) : eqP x y f = .ok (.bl (f (PyData.eqv p q))) := by
  have e1 : pyP DEEP x = some p := hx.rd _ hk
  have e2 : pyP DEEP y = some q := hy.rd _ hk'
  have s1 : SeqAt.shaped p = true := by
    unfold SeqAt.shaped
    rw [hx.lay, decide_eq_true (show p.depth ≤ 64 by have := hx.dep; omega)]
    rfl
  have s2 : SeqAt.shaped q = true := by
    unfold SeqAt.shaped
    rw [hy.lay, decide_eq_true (show q.depth ≤ 64 by have := hy.dep; omega)]
    rfl
  unfold eqP
  rw [e1, e2]
  exact if_pos ⟨s1, s2⟩
theorem IsP.int (i : Int) : IsP 1 (.int i) (.int i) := ⟨fun n hn => by
  obtain ⟨m, rfl⟩ : ∃ m, n = m + 1 := ⟨n - 1, by omega⟩
  rfl, rfl, by simp [PyData.depth]⟩
theorem IsP.bl (i : Bool) : IsP 1 (.bl i) (.bool i) := ⟨fun n hn => by
  obtain ⟨m, rfl⟩ : ∃ m, n = m + 1 := ⟨n - 1, by omega⟩
  rfl, rfl, by simp [PyData.depth]⟩
theorem IsP.non : IsP 1 .non .none := ⟨fun n hn => by
  obtain ⟨m, rfl⟩ : ∃ m, n = m + 1 := ⟨n - 1, by omega⟩
  rfl, rfl, by simp [PyData.depth]⟩
/-- a row of data -/
inductive IsPs (k : Nat) : List Dv → List PyData → Prop where
  | nil : IsPs k [] []
  | cons {d p ds ps} : IsP k d p → IsPs k ds ps → IsPs k (d :: ds) (p :: ps)
theorem IsPs.rd {k : Nat} {ds : List Dv} {ps : List PyData} (h : IsPs k ds ps) : (∀ n, k ≤ n → pyAllP (pyP n) ds = some ps) ∧ PyData.canLayAll0 ps = true ∧ PyData.depthAll ps ≤ k := by
  induction h with
  | nil => exact ⟨fun _ _ => rfl, rfl, by simp [PyData.depthAll]⟩
  | cons h1 h2 ih =>
    obtain ⟨a, b, c⟩ := ih
    refine ⟨fun n hn => ?_, ?_, ?_⟩
    · unfold pyAllP
      rw [h1.rd n hn, a n hn]
    · unfold PyData.canLayAll0
      rw [h1.lay, b]
      rfl
    · unfold PyData.depthAll
      have := h1.dep
      omega
theorem IsPs.map {k : Nat} {α : Type} (f : α → Dv) (g : α → PyData) (h : ∀ a, IsP k (f a) (g a)) : ∀ xs : List α, IsPs k (xs.map f) (xs.map g)
  | [] => .nil
  | x :: xs => .cons (h x) (IsPs.map f g h xs)
theorem IsP.tup {k : Nat} {ds : List Dv} {ps : List PyData} (h : IsPs k ds ps) : IsP (k + 1) (.tup ds) (.tuple ps) := by
  obtain ⟨a, b, c⟩ := h.rd
  refine ⟨fun n hn => ?_, ?_, ?_⟩
  · obtain ⟨m, rfl⟩ : ∃ m, n = m + 1 := ⟨n - 1, by omega⟩
    unfold pyP
    rw [a m (by omega)]
    rfl
  · unfold PyData.canLay0
    exact b
  · unfold PyData.depth
    omega
theorem IsP.lst {k : Nat} {ds : List Dv} {ps : List PyData} (h : IsPs k ds ps) : IsP (k + 1) (.lst ds) (.list ps) := by
  obtain ⟨a, b, c⟩ := h.rd
  refine ⟨fun n hn => ?_, ?_, ?_⟩
  · obtain ⟨m, rfl⟩ : ∃ m, n = m + 1 := ⟨n - 1, by omega⟩
    unfold pyP
    rw [a m (by omega)]
    rfl
  · unfold PyData.canLay0
    exact b
  · unfold PyData.depth
    omega
theorem eqv_int (i j : Int) : PyData.eqv (.int i) (.int j) = decide (i = j) := by
  unfold PyData.eqv
  exact Bool.beq_eq_decide_eq i j
theorem eqv_tup (xs ys : List PyData) : PyData.eqv (.tuple xs) (.tuple ys) = PyData.eqvAll xs ys := by
  unfold PyData.eqv
  rfl
theorem eqv_list (xs ys : List PyData) : PyData.eqv (.list xs) (.list ys) = PyData.eqvAll xs ys := by
  unfold PyData.eqv
  rfl
theorem eqvAll_nil : PyData.eqvAll [] [] = true := by unfold PyData.eqvAll; rfl
theorem eqvAll_cons (x y : PyData) (xs ys : List PyData) : PyData.eqvAll (x :: xs) (y :: ys) = (PyData.eqv x y && PyData.eqvAll xs ys) := by rw [PyData.eqvAll]
theorem eqvAll_nc (y : PyData) (ys : List PyData) : PyData.eqvAll [] (y :: ys) = false := by rw [PyData.eqvAll]
theorem eqvAll_cn (y : PyData) (ys : List PyData) : PyData.eqvAll (y :: ys) [] = false := by rw [PyData.eqvAll]
/-- rows alike, item by item -/
theorem eqvAll_map {α : Type} [DecidableEq α] (g : α → PyData) (h : ∀ a b, PyData.eqv (g a) (g b) = decide (a = b)) : ∀ xs ys : List α, PyData.eqvAll (xs.map g) (ys.map g) = decide (xs = ys)
  | [], [] => by rw [List.map_nil, eqvAll_nil]; rfl
  | [], y :: ys => by rw [List.map_nil, List.map_cons, eqvAll_nc]; simp
  | x :: xs, [] => by rw [List.map_nil, List.map_cons, eqvAll_cn]; simp
  | x :: xs, y :: ys => by
    rw [List.map_cons, List.map_cons, eqvAll_cons, h, eqvAll_map g h xs ys]
    by_cases h1 : x = y <;> by_cases h2 : xs = ys <;> simp [h1, h2]


end Q
namespace Q
open PySem MP FP
/-- a ratio as the program has it -/
def dR (q : Rat) : Dv := .tup [.int q.num, .int (q.den : Int)]
def pR (q : Rat) : PyData := .tuple [.int q.num, .int (q.den : Int)]
theorem dR_P (q : Rat) : IsP 2 (dR q) (pR q) := IsP.tup (.cons (IsP.int _) (.cons (IsP.int _) .nil))
theorem eqv_R (p q : Rat) : PyData.eqv (pR p) (pR q) = decide (p = q) := by
  unfold pR
  rw [eqv_tup, eqvAll_cons, eqvAll_cons, eqvAll_nil, eqv_int, eqv_int]
  have : p = q ↔ p.num = q.num ∧ (p.den : Int) = q.den := ⟨fun h => by subst h; exact ⟨rfl, rfl⟩, fun ⟨a, b⟩ => Rat.ext a (by omega)⟩
  by_cases h1 : p.num = q.num <;> by_cases h2 : (p.den : Int) = q.den <;> simp [h1, h2, this]
theorem ep_R (p q : Rat) : eqP (dR p) (dR q) id = .ok (.bl (decide (p = q))) := by
  rw [eqP_p (dR_P p) (dR_P q) (by decide) (by decide), eqv_R]
  rfl
theorem np_R (p q : Rat) : eqP (dR p) (dR q) not = .ok (.bl (!decide (p = q))) := by
  rw [eqP_p (dR_P p) (dR_P q) (by decide) (by decide), eqv_R]
theorem getP_R {q : Rat} : getP (some (some (dR q))) = .ok (dR q) := rfl
theorem rawP_R {q : Rat} : rawP (some (some (dR q))) = .rt (dR q) := rfl
theorem frz_R {q : Rat} : frz (dR q) = dR q := rfl
theorem isL_R {q : Rat} : isL (dR q) = false := rfl
theorem inL_R {q : Rat} : inL (dR q) = false := rfl
theorem ls_R {n : Nat} {q : Rat} : lsF (n + 2) (dR q) = false := rfl
theorem any_R {n : Nat} {xs : List Rat} : (xs.map dR).any (lsF (n + 2)) = false := any_f (fun _ => rfl) xs
theorem xp_R0 {q : Rat} : ixP (dR q) (.int 0) = .ok (.int q.num) := rfl
theorem xp_R1 {q : Rat} : ixP (dR q) (.int 1) = .ok (.int (q.den : Int)) := rfl
theorem t_R {q : Rat} {t : Ty} : tyP (dR q) t = .ok (.bl (t == .tuple)) := rfl
theorem l_R {q : Rat} : biP .len [dR q] = .ok (.int 2) := rfl
theorem nn_R {q : Rat} : isNonP (dR q) = false := rfl
theorem tupP_R {q : Rat} : tupP (dR q) = .ok (dR q) := by
  show (if 2 ≤ LIM then Rv.ok (dR q) else .bad) = _
  rw [if_pos (by decide)]
theorem callP_R {Φ : Str → List Dv → Rv Dv} {f : Str} {q : Rat} : callP Φ f (dR q) = Φ f [.int q.num, .int (q.den : Int)] := rfl
theorem onTupP_R {q : Rat} {f : List Dv → Rv Dv} : onTupP (dR q) f = f [.int q.num, .int (q.den : Int)] := rfl
theorem consP_R {x : Dv} {q : Rat} : consP x (dR q) = .ok (.tup [frz x, .int q.num, .int (q.den : Int)]) := rfl
theorem R0n : (0 : Rat).num = 0 := rfl
theorem R0d : (((0 : Rat).den : Nat) : Int) = 1 := rfl
theorem R1n : (1 : Rat).num = 1 := rfl
theorem R1d : (((1 : Rat).den : Nat) : Int) = 1 := rfl
theorem items_R {q : Rat} : itemsP (dR q) = some [.int q.num, .int (q.den : Int)] := rfl
theorem R_0 : Dv.tup [.int 0, .int 1] = dR 0 := rfl
theorem R_1 : Dv.tup [.int 1, .int 1] = dR 1 := rfl
theorem R_eta {q : Rat} : Dv.tup [.int q.num, .int (q.den : Int)] = dR q := rfl
theorem R_neg {q : Rat} : Dv.tup [.int (-q.num), .int (q.den : Int)] = dR (-q) := rfl
theorem R_den {q : Rat} : (q.den : Int) ≠ 0 := by have := q.den_pos; omega
theorem R_den' {q : Rat} : ((q.den : Int) = 0) = False := by have := q.den_pos; simp only [eq_iff_iff, iff_false]; omega
theorem R_den1 {q : Rat} : ((q.den : Int) < 1) = False := by have := q.den_pos; simp only [eq_iff_iff, iff_false]; omega
theorem R_den0 {q : Rat} : ((q.den : Int) < 0) = False := by have := q.den_pos; simp only [eq_iff_iff, iff_false]; omega

/-- how large a ratio's figures are -/
def Rb (q : Rat) (k : Nat) : Prop := q.num.natAbs < 2 ^ k ∧ q.den < 2 ^ k
/-- small enough for one step more -/
def Sz (q : Rat) : Prop := Rb q SZ
theorem Rb.mono {q : Rat} {k k' : Nat} (h : Rb q k) (hk : k ≤ k') : Rb q k' := ⟨Nat.lt_of_lt_of_le h.1 (Nat.pow_le_pow_right (by decide) hk), Nat.lt_of_lt_of_le h.2 (Nat.pow_le_pow_right (by decide) hk)⟩
theorem Rb.sz {q : Rat} {k : Nat} (h : Rb q k) (hk : k ≤ 6700) : Sz q := h.mono (by rw [SZ_eq]; exact hk)
theorem Rb.div {t b : Int} {k : Nat} (ht : t.natAbs < 2 ^ k) (hb : b.natAbs < 2 ^ k) (h0 : b ≠ 0) : Rb (Rat.divInt t b) k := by
  constructor
  · rw [Rat.num_divInt, Int.natAbs_ediv_of_dvd]
    · refine Nat.lt_of_le_of_lt (Nat.div_le_self _ _) ?_
      rw [Int.natAbs_mul, Int.natAbs_sign_of_ne_zero h0, Nat.one_mul]
      exact ht
    · exact Int.dvd_mul_of_dvd_right (Int.gcd_dvd_right ..)
  · rw [Rat.den_divInt, if_neg h0]
    exact Nat.lt_of_le_of_lt (Nat.div_le_self _ _) hb
theorem mul_lt {a b : Int} {j k : Nat} (ha : a.natAbs < 2 ^ j) (hb : b.natAbs < 2 ^ k) : (a * b).natAbs < 2 ^ (j + k) := by
  rw [Int.natAbs_mul, Nat.pow_add]
  exact Nat.mul_lt_mul'' ha hb
theorem add_lt {a b : Int} {k : Nat} (ha : a.natAbs < 2 ^ k) (hb : b.natAbs < 2 ^ k) : (a + b).natAbs < 2 ^ (k + 1) := by
  have := Int.natAbs_add_le a b
  have e : 2 ^ (k + 1) = 2 ^ k + 2 ^ k := by omega
  omega
theorem sub_lt {a b : Int} {k : Nat} (ha : a.natAbs < 2 ^ k) (hb : b.natAbs < 2 ^ k) : (a - b).natAbs < 2 ^ (k + 1) := by
  have := Int.natAbs_sub_le a b
  have e : 2 ^ (k + 1) = 2 ^ k + 2 ^ k := by omega
  omega
theorem den_lt {q : Rat} {k : Nat} (h : Rb q k) : ((q.den : Int)).natAbs < 2 ^ k := by
  rw [Int.natAbs_natCast]
  exact h.2
theorem up_lt {a : Int} {k k' : Nat} (h : a.natAbs < 2 ^ k) (hk : k ≤ k') : a.natAbs < 2 ^ k' := Nat.lt_of_lt_of_le h (Nat.pow_le_pow_right (by decide) hk)
theorem add_R (p q : Rat) : p + q = Rat.divInt (p.num * q.den + q.num * p.den) (p.den * q.den) := by
  conv => lhs; rw [← Rat.num_divInt_den p, ← Rat.num_divInt_den q]
  rw [Rat.divInt_add_divInt _ _ R_den R_den]
theorem sub_R (p q : Rat) : p - q = Rat.divInt (p.num * q.den - q.num * p.den) (p.den * q.den) := by
  conv => lhs; rw [← Rat.num_divInt_den p, ← Rat.num_divInt_den q]
  rw [Rat.divInt_sub_divInt _ _ R_den R_den]
theorem mul_R (p q : Rat) : p * q = Rat.divInt (p.num * q.num) (p.den * q.den) := by
  conv => lhs; rw [← Rat.num_divInt_den p, ← Rat.num_divInt_den q]
  rw [Rat.divInt_mul_divInt]
theorem div_R (p q : Rat) : p / q = Rat.divInt (p.num * q.den) (p.den * q.num) := by
  rw [Rat.div_def, Rat.inv_def]
  conv => lhs; rw [← Rat.num_divInt_den p]
  rw [Rat.divInt_mul_divInt]
theorem Rb.add {p q : Rat} {j k : Nat} (hp : Rb p j) (hq : Rb q k) : Rb (p + q) (j + k + 1) := by
  rw [add_R]
  refine Rb.div (add_lt (mul_lt hp.1 (den_lt hq)) ?_) (up_lt (mul_lt (den_lt hp) (den_lt hq)) (by omega)) ?_
  · rw [Nat.add_comm]
    exact mul_lt hq.1 (den_lt hp)
  · exact Int.mul_ne_zero R_den R_den
theorem Rb.sub {p q : Rat} {j k : Nat} (hp : Rb p j) (hq : Rb q k) : Rb (p - q) (j + k + 1) := by
  rw [sub_R]
  refine Rb.div (sub_lt (mul_lt hp.1 (den_lt hq)) ?_) (up_lt (mul_lt (den_lt hp) (den_lt hq)) (by omega)) ?_
  · rw [Nat.add_comm]
    exact mul_lt hq.1 (den_lt hp)
  · exact Int.mul_ne_zero R_den R_den
theorem Rb.mul {p q : Rat} {j k : Nat} (hp : Rb p j) (hq : Rb q k) : Rb (p * q) (j + k) := by
  rw [mul_R]
  exact Rb.div (mul_lt hp.1 hq.1) (mul_lt (den_lt hp) (den_lt hq)) (Int.mul_ne_zero R_den R_den)
theorem Rb.neg {p : Rat} {j : Nat} (hp : Rb p j) : Rb (-p) j := by
  refine ⟨?_, ?_⟩
  · rw [Rat.neg_num, Int.natAbs_neg]
    exact hp.1
  · rw [Rat.neg_den]
    exact hp.2
theorem num0 {q : Rat} : (q.num = 0) = (q = 0) := by
  simp only [eq_iff_iff]
  exact Rat.num_eq_zero
theorem Rb.quo {p q : Rat} {j k : Nat} (hp : Rb p j) (hq : Rb q k) (h0 : q ≠ 0) : Rb (p / q) (j + k) := by
  rw [div_R]
  refine Rb.div (mul_lt hp.1 (den_lt hq)) (mul_lt (den_lt hp) hq.1) (Int.mul_ne_zero R_den ?_)
  rw [Ne, num0]
  exact h0
theorem same_den {p q : Rat} (h : (p.den : Int) = q.den) : Rat.divInt (p.num + q.num) p.den = p + q := by
  conv => rhs; rw [← Rat.num_divInt_den p, ← Rat.num_divInt_den q, ← h]
  rw [Rat.divInt_add_divInt _ _ R_den R_den, Rat.divInt_eq_divInt_iff R_den (Int.mul_ne_zero R_den R_den)]
  grind
theorem same_den' {p q : Rat} (h : (p.den : Int) = q.den) : Rat.divInt (p.num - q.num) p.den = p - q := by
  conv => rhs; rw [← Rat.num_divInt_den p, ← Rat.num_divInt_den q, ← h]
  rw [Rat.divInt_sub_divInt _ _ R_den R_den, Rat.divInt_eq_divInt_iff R_den (Int.mul_ne_zero R_den R_den)]
  grind
theorem div_pos_parts (t b : Int) (hb : 0 < b) : t.fdiv (Int.gcd t b : Nat) = (Rat.divInt t b).num ∧ b.fdiv (Int.gcd t b : Nat) = ((Rat.divInt t b).den : Int) := by
  constructor
  · rw [Rat.num_divInt, Int.sign_eq_one_of_pos hb, Int.one_mul, Int.gcd_comm b t, Int.fdiv_eq_ediv_of_nonneg _ (by omega)]
  · rw [Rat.den_divInt, if_neg (by omega), Int.gcd_comm b t, Int.fdiv_eq_ediv_of_nonneg _ (by omega), Int.natCast_ediv]
    congr 1
    omega
theorem div_neg_parts (t b : Int) (hb : b < 0) : t.fdiv (-(Int.gcd t b : Nat)) = (Rat.divInt t b).num ∧ b.fdiv (-(Int.gcd t b : Nat)) = ((Rat.divInt t b).den : Int) := by
  have e : Rat.divInt t b = Rat.divInt (-t) (-b) := by
    rw [Rat.divInt_eq_divInt_iff (by omega) (by omega)]
    grind
  have := div_pos_parts (-t) (-b) (by omega)
  rw [e, ← this.1, ← this.2, Int.neg_gcd, Int.gcd_neg]
  constructor
  · rw [← Int.neg_fdiv_neg, Int.neg_neg]
  · rw [← Int.neg_fdiv_neg, Int.neg_neg]
theorem divInt_1 (t : Int) : Dv.tup [.int t, .int 1] = dR (Rat.divInt t 1) := by
  have := div_pos_parts t 1 (by decide)
  unfold dR
  rw [← this.1, ← this.2]
  simp
/-- a drawn bottom -/
def lo (o m : Int) : Int := if o % m > 1 then o % m else 1
theorem lo_pos (o m : Int) : 0 < lo o m := by unfold lo; split <;> omega
theorem lo_abs (o m : Int) (h : 1 < m) : (lo o m).natAbs < m.natAbs := by
  have h1 := Int.emod_nonneg o (b := m) (by omega)
  have h2 := Int.emod_lt_of_pos o (b := m) (by omega)
  unfold lo
  split <;> omega
theorem sg_big (c m : Int) {k : Nat} (h : 0 < m) (hm : m.natAbs ≤ 2 ^ k) : (sg c m).natAbs < 2 ^ k := Nat.lt_of_lt_of_le (sg_abs c m h) hm
theorem lo_big (c m : Int) {k : Nat} (h : 1 < m) (hm : m.natAbs ≤ 2 ^ k) : (lo c m).natAbs < 2 ^ k := Nat.lt_of_lt_of_le (lo_abs c m h) hm
theorem le_big {k : Nat} (h : k ≤ 13500) : k ≤ BIG := by rw [BIG_eq]; exact h
theorem le_sz {k : Nat} (h : k ≤ 6700) : k ≤ SZ := by rw [SZ_eq]; exact h
theorem Sz0 : Sz 0 := Rb.sz (k := 2) ⟨by decide, by decide⟩ (by decide)


end Q
namespace Q
open PySem MP FP
theorem gcd_loop {Φ : Str → List Dv → Rv Dv} : ∀ (n : Nat) (a b : Nat) (r : Option Dv), b ≤ n → ∃ r', whP Φ C_divisor_1 B_divisor_1 [some (.int a), some (.int b), r] = .nx [some (.int (Nat.gcd a b)), some (.int 0), r']
  | n, a, 0, r, _ => by
    refine ⟨r, ?_⟩
    rw [wh_end (by simp only [ME_, VC_divisor_1] <;> rfl)]
    simp
  | 0, a, b + 1, r, h => absurd h (by omega)
  | n + 1, a, b + 1, r, h => by
    have hb : ((b + 1 : Nat) : Int) ≠ 0 := by omega
    have hlt : a % (b + 1) < b + 1 := Nat.mod_lt _ (by omega)
    obtain ⟨r', ih⟩ := gcd_loop n (b + 1) (a % (b + 1)) (some (.int ((a % (b + 1) : Nat) : Int))) (by omega)
    refine ⟨r', ?_⟩
    have hm : (a : Int).fmod ((b + 1 : Nat) : Int) = ((a % (b + 1) : Nat) : Int) := by
      rw [Int.fmod_eq_emod_of_nonneg _ (by omega)]
      rfl
    have hd : (0 : Int) < ((b + 1 : Nat) : Int) := by omega
    rw [wh_go (by simp only [ME_, VC_divisor_1, hd]) (by simp only [ME_, VB_divisor_1, hb, hm] <;> rfl) ih (fun z => by cases z)]
    rw [Nat.gcd_comm a, Nat.gcd_rec (b + 1) a, Nat.gcd_comm]
theorem abs_eq (a : Int) : (if a < 0 then -a else a) = ((a.natAbs : Nat) : Int) := by
  split <;> omega
theorem r_divisor (n : Nat) (a b : Int) : runTP T (n + 1) "divisor" [.int a, .int b] = .ok (.int (Int.gcd a b)) := by
  rw [runTP_succ T_divisor]
  obtain ⟨r, h⟩ := gcd_loop (Φ := runTP T n) b.natAbs a.natAbs b.natAbs none (Nat.le_refl _)
  unfold F_divisor
  simp only [ME_, abs_eq]
  rw [h]
  rfl

end Q
namespace Q
open PySem MP FP
theorem r_is_whole (n : Nat) (a : Int) : runTP T (n + 1) "is_whole" [.int a] = .ok (.bl true) := by
  rw [runTP_succ T_is_whole]
  unfold F_is_whole
  simp only [ME_]

end Q
namespace Q
open PySem MP FP
theorem r_ratio (n : Nat) (t b : Int) (hb : b ≠ 0) (ht : t.natAbs < 2 ^ BIG) (hbb : b.natAbs < 2 ^ BIG) : runTP T (n + 2) "ratio" [.int t, .int b] = .ok (dR (Rat.divInt t b)) := by
  rw [runTP_succ T_ratio]
  unfold F_ratio
  by_cases h1 : b = 1
  · subst h1
    simp only [MR_, r_is_whole, divInt_1]
  have hg : ((Int.gcd t b : Nat) : Int) ≠ 0 := by
    intro h
    have h' : Int.gcd t b = 0 := by omega
    exact hb (Int.gcd_eq_zero_iff.mp h').2
  by_cases hn : b < 0
  · have hg' : -((Int.gcd t b : Nat) : Int) ≠ 0 := by omega
    have d1 := divOk_of hg' ht
    have d2 := divOk_of hg' hbb
    have hp := div_neg_parts t b hn
    simp only [MR_, r_is_whole, r_divisor, hb, h1, hn, d1, d2, hp.1, hp.2]
  · have hp := div_pos_parts t b (by omega)
    have d1 := divOk_of hg ht
    have d2 := divOk_of hg hbb
    simp only [MR_, r_is_whole, r_divisor, hb, h1, hn, d1, d2, hp.1, hp.2]
theorem r_ratio_0 (n : Nat) (t : Int) : runTP T (n + 2) "ratio" [.int t, .int 0] = .exc "NoRatio" := by
  rw [runTP_succ T_ratio]
  unfold F_ratio
  simp only [MR_, r_is_whole]

end Q
namespace Q
open PySem MP FP
theorem r_plus (n : Nat) (p q : Rat) (hp : Sz p) (hq : Sz q) : runTP T (n + 3) "plus" [dR p, dR q] = .ok (dR (p + q)) := by
  rw [runTP_succ T_plus]
  unfold F_plus
  by_cases h : (p.den : Int) = q.den
  · have e1 := r_ratio n (p.num + q.num) p.den R_den (up_lt (add_lt hp.1 hq.1) z2) (up_lt (den_lt hp) z1)
    rw [same_den h] at e1
    simp only [h] at e1
    simp only [MR_, h, e1]
  · have m1 := mulOk_of hp.1 (den_lt hq) zm
    have m2 := mulOk_of hq.1 (den_lt hp) zm
    have m3 := mulOk_of (den_lt hp) (den_lt hq) zm
    have e1 := r_ratio n (p.num * q.den + q.num * p.den) (p.den * q.den) (Int.mul_ne_zero R_den R_den) (up_lt (add_lt (mul_lt hp.1 (den_lt hq)) (mul_lt hq.1 (den_lt hp))) z4) (up_lt (mul_lt (den_lt hp) (den_lt hq)) z3)
    rw [← add_R] at e1
    simp only [MR_, h, m1, m2, m3, e1]

end Q
namespace Q
open PySem MP FP
theorem r_minus (n : Nat) (p q : Rat) (hp : Sz p) (hq : Sz q) : runTP T (n + 3) "minus" [dR p, dR q] = .ok (dR (p - q)) := by
  rw [runTP_succ T_minus]
  unfold F_minus
  by_cases h : (p.den : Int) = q.den
  · have e1 := r_ratio n (p.num - q.num) p.den R_den (up_lt (sub_lt hp.1 hq.1) z2) (up_lt (den_lt hp) z1)
    rw [same_den' h] at e1
    simp only [h] at e1
    simp only [MR_, h, e1]
  · have m1 := mulOk_of hp.1 (den_lt hq) zm
    have m2 := mulOk_of hq.1 (den_lt hp) zm
    have m3 := mulOk_of (den_lt hp) (den_lt hq) zm
    have e1 := r_ratio n (p.num * q.den - q.num * p.den) (p.den * q.den) (Int.mul_ne_zero R_den R_den) (up_lt (sub_lt (mul_lt hp.1 (den_lt hq)) (mul_lt hq.1 (den_lt hp))) z4) (up_lt (mul_lt (den_lt hp) (den_lt hq)) z3)
    rw [← sub_R] at e1
    simp only [MR_, h, m1, m2, m3, e1]

end Q
namespace Q
open PySem MP FP
theorem r_times (n : Nat) (p q : Rat) (hp : Sz p) (hq : Sz q) : runTP T (n + 3) "times" [dR p, dR q] = .ok (dR (p * q)) := by
  rw [runTP_succ T_times]
  unfold F_times
  have m1 := mulOk_of hp.1 hq.1 zm
  have m3 := mulOk_of (den_lt hp) (den_lt hq) zm
  have e1 := r_ratio n (p.num * q.num) (p.den * q.den) (Int.mul_ne_zero R_den R_den) (up_lt (mul_lt hp.1 hq.1) z3) (up_lt (mul_lt (den_lt hp) (den_lt hq)) z3)
  rw [← mul_R] at e1
  simp only [MR_, m1, m3, e1]

end Q
namespace Q
open PySem MP FP
theorem r_over (n : Nat) (p q : Rat) (hp : Sz p) (hq : Sz q) (h0 : q ≠ 0) : runTP T (n + 3) "over" [dR p, dR q] = .ok (dR (p / q)) := by
  rw [runTP_succ T_over]
  unfold F_over
  have hn : q.num ≠ 0 := by rw [Ne, num0]; exact h0
  have m1 := mulOk_of hp.1 (den_lt hq) zm
  have m3 := mulOk_of (den_lt hp) hq.1 zm
  have e1 := r_ratio n (p.num * q.den) (p.den * q.num) (Int.mul_ne_zero R_den hn) (up_lt (mul_lt hp.1 (den_lt hq)) z3) (up_lt (mul_lt (den_lt hp) hq.1) z3)
  rw [← div_R] at e1
  simp only [MR_, m1, m3, e1, hn]
theorem r_over_0 (n : Nat) (p : Rat) : runTP T (n + 1) "over" [dR p, dR 0] = .exc "NoRatio" := by
  rw [runTP_succ T_over]
  unfold F_over
  have : (0 : Rat).num = 0 := rfl
  simp only [MR_, this]

end Q
namespace Q
open PySem MP FP
theorem r_under (n : Nat) (p q : Rat) (hp : Sz p) (hq : Sz q) : runTP T (n + 1) "under" [dR p, dR q] = .ok (.bl (decide (p < q))) := by
  rw [runTP_succ T_under]
  unfold F_under
  have m1 := mulOk_of hp.1 (den_lt hq) zm
  have m2 := mulOk_of hq.1 (den_lt hp) zm
  simp only [MR_, m1, m2]
  rw [decide_eq_decide.mpr (Rat.lt_iff p q)]

end Q
namespace Q
open PySem MP FP
theorem r_lesser (n : Nat) (p q : Rat) (hp : Sz p) (hq : Sz q) : runTP T (n + 2) "lesser" [dR p, dR q] = .ok (dR (if q < p then q else p)) := by
  rw [runTP_succ T_lesser]
  unfold F_lesser
  by_cases h : q < p <;> simp only [MR_, r_under, hp, hq, h]

end Q
namespace Q
open PySem MP FP
/-- a corner, a curve -/
abbrev Cn := Rat × Rat
def dC (c : Cn) : Dv := .tup [dR c.1, dR c.2]
theorem getP_C {c : Cn} : getP (some (some (dC c))) = .ok (dC c) := rfl
theorem rawP_C {c : Cn} : rawP (some (some (dC c))) = .rt (dC c) := rfl
theorem frz_C {c : Cn} : frz (dC c) = dC c := rfl
theorem isL_C {c : Cn} : isL (dC c) = false := rfl
theorem inL_C {c : Cn} : inL (dC c) = false := rfl
theorem ls_C {n : Nat} {c : Cn} : lsF (n + 3) (dC c) = false := rfl
theorem any_C {n : Nat} {xs : List Cn} : (xs.map dC).any (lsF (n + 3)) = false := any_f (fun _ => rfl) xs
theorem xp_C0 {c : Cn} : ixP (dC c) (.int 0) = .ok (dR c.1) := rfl
theorem xp_C1 {c : Cn} : ixP (dC c) (.int 1) = .ok (dR c.2) := rfl
theorem C_eta {a b : Rat} : Dv.tup [dR a, dR b] = dC (a, b) := rfl
theorem tupP_C {c : Cn} : tupP (dC c) = .ok (dC c) := by
  show (if 2 ≤ LIM then Rv.ok (dC c) else .bad) = _
  rw [if_pos (by decide)]
theorem callP_C {Φ : Str → List Dv → Rv Dv} {f : Str} {c : Cn} : callP Φ f (dC c) = Φ f [dR c.1, dR c.2] := rfl
theorem consP_C {x : Dv} {c : Cn} : consP x (dC c) = .ok (.tup [frz x, dR c.1, dR c.2]) := rfl
theorem t_C {c : Cn} {t : Ty} : tyP (dC c) t = .ok (.bl (t == .tuple)) := rfl
theorem l_C {c : Cn} : biP .len [dC c] = .ok (.int 2) := rfl
theorem nn_C {c : Cn} : isNonP (dC c) = false := rfl
theorem onTupP_C {c : Cn} {f : List Dv → Rv Dv} : onTupP (dC c) f = f [dR c.1, dR c.2] := rfl
def pC (c : Cn) : PyData := .tuple [pR c.1, pR c.2]
theorem dC_P (c : Cn) : IsP 3 (dC c) (pC c) := IsP.tup (.cons (dR_P _) (.cons (dR_P _) .nil))
theorem eqv_C (p q : Cn) : PyData.eqv (pC p) (pC q) = decide (p = q) := by
  unfold pC
  rw [eqv_tup, eqvAll_cons, eqvAll_cons, eqvAll_nil, eqv_R, eqv_R]
  obtain ⟨a, b⟩ := p
  obtain ⟨c, d⟩ := q
  by_cases h1 : a = c <;> by_cases h2 : b = d <;> simp [h1, h2]
theorem ep_C (p q : Cn) : eqP (dC p) (dC q) id = .ok (.bl (decide (p = q))) := by
  rw [eqP_p (dC_P p) (dC_P q) (by decide) (by decide), eqv_C]
  rfl
/-- lists of corners alike -/
theorem eq_Cs (xs ys : List Cn) (f : Bool → Bool) : eqP (.lst (xs.map dC)) (.lst (ys.map dC)) f = .ok (.bl (f (decide (xs = ys)))) := by
  rw [eqP_p (IsP.lst (IsPs.map dC pC dC_P xs)) (IsP.lst (IsPs.map dC pC dC_P ys)) (by decide) (by decide), eqv_list, eqvAll_map pC eqv_C]
/-- a curve: its corners, its last slope -/
def dF (cs : List Cn) (s : Rat) : Dv := .tup [.tup (cs.map dC), dR s]
theorem F_eta {cs : List Cn} {s : Rat} : Dv.tup [.tup (cs.map dC), dR s] = dF cs s := rfl
theorem getP_F {cs : List Cn} {s : Rat} : getP (some (some (dF cs s))) = .ok (dF cs s) := rfl
theorem rawP_F {cs : List Cn} {s : Rat} : rawP (some (some (dF cs s))) = .rt (dF cs s) := rfl
theorem frz_F {cs : List Cn} {s : Rat} : frz (dF cs s) = dF cs s := rfl
theorem ls_F {n : Nat} {cs : List Cn} {s : Rat} : lsF (n + 5) (dF cs s) = false := by
  show (lsF (n + 4) (.tup (cs.map dC)) || (lsF (n + 4) (dR s) || false)) = false
  rw [show lsF (n + 4) (.tup (cs.map dC)) = (cs.map dC).any (lsF (n + 3)) from rfl, any_C]
  rfl
theorem inL_F {cs : List Cn} {s : Rat} : inL (dF cs s) = false := ls_F (n := 7)
theorem isL_F {cs : List Cn} {s : Rat} : isL (dF cs s) = false := rfl
theorem nn_F {cs : List Cn} {s : Rat} : isNonP (dF cs s) = false := rfl
theorem tupP_F {cs : List Cn} {s : Rat} : tupP (dF cs s) = .ok (dF cs s) := by
  show (if 2 ≤ LIM then Rv.ok (dF cs s) else .bad) = _
  rw [if_pos (by decide)]
theorem xp_F0 {cs : List Cn} {s : Rat} : ixP (dF cs s) (.int 0) = .ok (.tup (cs.map dC)) := rfl
theorem xp_F1 {cs : List Cn} {s : Rat} : ixP (dF cs s) (.int 1) = .ok (dR s) := rfl
theorem t_F {cs : List Cn} {s : Rat} {t : Ty} : tyP (dF cs s) t = .ok (.bl (t == .tuple)) := rfl
theorem l_F {cs : List Cn} {s : Rat} : biP .len [dF cs s] = .ok (.int 2) := rfl
def pF (f : List Cn × Rat) : PyData := .tuple [.tuple (f.1.map pC), pR f.2]
theorem dF_P (f : List Cn × Rat) : IsP 5 (dF f.1 f.2) (pF f) := IsP.tup (.cons (IsP.tup (IsPs.map dC pC dC_P f.1)) (.cons ((dR_P _).mono (by decide)) .nil))
theorem eqv_F (f g : List Cn × Rat) : PyData.eqv (pF f) (pF g) = decide (f = g) := by
  unfold pF
  rw [eqv_tup, eqvAll_cons, eqvAll_cons, eqvAll_nil, eqv_tup, eqvAll_map pC eqv_C, eqv_R]
  obtain ⟨a, b⟩ := f
  obtain ⟨c, d⟩ := g
  by_cases h1 : a = c <;> by_cases h2 : b = d <;> simp [h1, h2]
theorem ep_F (cs ds : List Cn) (s u : Rat) : eqP (dF cs s) (dF ds u) id = .ok (.bl (decide ((cs, s) = (ds, u)))) := by
  rw [eqP_p (dF_P (cs, s)) (dF_P (ds, u)) (by decide) (by decide), eqv_F]
  rfl
theorem np_F (cs ds : List Cn) (s u : Rat) : eqP (dF cs s) (dF ds u) not = .ok (.bl (!decide ((cs, s) = (ds, u)))) := by
  rw [eqP_p (dF_P (cs, s)) (dF_P (ds, u)) (by decide) (by decide), eqv_F]
/-- corners whose figures are small -/
def Cz (c : Cn) : Prop := Rb c.1 3300 ∧ Rb c.2 3300
theorem Cz.s1 {c : Cn} (h : Cz c) : Sz c.1 := h.1.sz (by decide)
theorem Cz.s2 {c : Cn} (h : Cz c) : Sz c.2 := h.2.sz (by decide)
theorem Cz.d1 {c d : Cn} (h : Cz c) (k : Cz d) : Sz (d.1 - c.1) := (k.1.sub h.1).sz (by decide)
theorem Cz.d2 {c d : Cn} (h : Cz c) (k : Cz d) : Sz (d.2 - c.2) := (k.2.sub h.2).sz (by decide)
def slope (c d : Cn) : Rat := (d.2 - c.2) / (d.1 - c.1)
/-- times that rise -/
def Ups : Cn → List Cn → Prop
  | _, [] => True
  | c, d :: r => c.1 < d.1 ∧ Ups d r
/-- values that don't fall -/
def Nds : Cn → List Cn → Prop
  | _, [] => True
  | c, d :: r => ¬ d.2 < c.2 ∧ Nds d r
/-- the slopes between the corners -/
def gaps : Cn → List Cn → List Rat
  | _, [] => []
  | c, d :: r => slope c d :: gaps d r
theorem gaps_len : ∀ (c : Cn) (r : List Cn), (gaps c r).length = r.length
  | _, [] => rfl
  | c, d :: r => by rw [gaps, List.length_cons, List.length_cons, gaps_len d r]
/-- the slope behind a corner -/
def behind (d : Cn) (t : List Cn) (s : Rat) : Rat := match t with
  | [] => s
  | e :: _ => slope d e
theorem gaps_hd (d : Cn) (t : List Cn) (s : Rat) : ∃ S, gaps d t ++ [s] = behind d t s :: S ∧ S.length = t.length := by
  cases t with
  | nil => exact ⟨[], rfl, rfl⟩
  | cons e t => exact ⟨gaps e t ++ [s], rfl, by simp [gaps_len]⟩
/-- the kept corners, one by one -/
def kl (s : Rat) : Cn → List Cn → List Cn
  | _, [] => []
  | p, d :: t => if slope p d = behind d t s then kl s d t else d :: kl s d t
theorem kl_len (s : Rat) : ∀ (r : List Cn) (p : Cn), (kl s p r).length ≤ r.length
  | [], _ => Nat.le_refl _
  | d :: t, p => by
    have := kl_len s t d
    unfold kl
    split
    · rw [List.length_cons]; omega
    · rw [List.length_cons, List.length_cons]; omega
/-- a row, a list or a tuple -/
structure Sq (X : Dv) (xs : List Dv) : Prop where
  gv : getP (some (some X)) = .ok X
  fz : frz X = X
  ix : ∀ i : Int, ixP X (.int i) = atP (L2.atI xs i)
  ln : biP .len [X] = .ok (.int xs.length)
theorem Sq.lst {xs : List Dv} : Sq (.lst xs) xs := ⟨rfl, rfl, fun _ => rfl, rfl⟩
theorem Sq.tup {xs : List Dv} : Sq (.tup xs) xs := ⟨rfl, rfl, fun _ => rfl, rfl⟩
theorem dR_inj {p q : Rat} (h : dR p = dR q) : p = q := by
  unfold dR at h
  injection h with h
  injection h with h1 h2
  injection h2 with h2 _
  injection h1 with h1
  injection h2 with h2
  exact Rat.ext h1 (by omega)
theorem dC_inj {p q : Cn} (h : dC p = dC q) : p = q := by
  unfold dC at h
  injection h with h
  injection h with h1 h2
  injection h2 with h2 _
  exact Prod.ext (dR_inj h1) (dR_inj h2)
theorem map_inj : ∀ {xs ys : List Cn}, xs.map dC = ys.map dC → xs = ys
  | [], [], _ => rfl
  | [], y :: ys, h => by cases h
  | x :: xs, [], h => by cases h
  | x :: xs, y :: ys, h => by
    rw [List.map_cons, List.map_cons] at h
    injection h with h1 h2
    rw [dC_inj h1, map_inj h2]
theorem dF_inj {cs ds : List Cn} {s u : Rat} (h : dF cs s = dF ds u) : cs = ds := by
  unfold dF at h
  injection h with h
  injection h with h1 h2
  injection h1 with h1
  exact map_inj h1
theorem dF_inj2 {cs ds : List Cn} {s u : Rat} (h : dF cs s = dF ds u) : s = u := by
  unfold dF at h
  injection h with h
  injection h with h1 h2
  injection h2 with h2 _
  exact dR_inj h2

end Q
namespace Q
open PySem MP FP
theorem r_slope_between (n : Nat) (c d : Cn) (hc : Cz c) (hd : Cz d) (h : c.1 < d.1) : runTP T (n + 4) "slope_between" [dC c, dC d] = .ok (dR (slope c d)) := by
  rw [runTP_succ T_slope_between]
  unfold F_slope_between
  have h0 : d.1 - c.1 ≠ 0 := by grind
  have e := r_over n (d.2 - c.2) (d.1 - c.1) (hc.d2 hd) (hc.d1 hd) h0
  simp only [MC_, r_minus, hc.s1, hc.s2, hd.s1, hd.s2, e]
  rfl
theorem rng1 (m : Nat) (hm : m ≤ 400000) : rngP [.int 1, .int ((m + 1 : Nat) : Int)] = .ok (.tup (stepsP 1 1 m)) := by
  rw [rp_2, if_pos ⟨by unfold small; decide, by unfold small; omega⟩]
  congr 3
  omega
theorem rng0 (m : Nat) (hm : m ≤ 400000) : rngP [.int ((m : Nat) : Int)] = .ok (.tup (stepsP 0 1 m)) := by
  rw [rp_1, if_pos (by unfold small; omega)]
  congr 3
theorem i_at {cs pre r : List Cn} {c : Cn} {k : Int} (h : cs = pre ++ c :: r) (hk : k = pre.length) : L2.atI (cs.map dC) k = some (dC c) := by
  rw [h, List.map_append, List.map_cons]
  exact FP.at_app (by simp; omega)
theorem iR_at {cs pre r : List Rat} {c : Rat} {k : Int} (h : cs = pre ++ c :: r) (hk : k = pre.length) : L2.atI (cs.map dR) k = some (dR c) := by
  rw [h, List.map_append, List.map_cons]
  exact FP.at_app (by simp; omega)
theorem rng0' (m : Nat) (hm : m ≤ 400000) (k : Int) (hk : k = m) : rngP [.int k] = .ok (.tup (stepsP 0 1 m)) := by
  subst hk
  exact rng0 m hm

end Q
namespace Q
open PySem MP FP
theorem sl_loop (n : Nat) (X : Dv) (cs : List Cn) (e1 : Option Dv) (h : Sq X (cs.map dC)) (hz : ∀ x ∈ cs, Cz x) (hn : cs.length ≤ 400000) : ∀ (r pre : List Cn) (c : Cn) (acc : List Rat) (k : Int) (r3 : Option Dv), cs = pre ++ c :: r → k = pre.length + 1 → acc.length + r.length ≤ 400000 → Ups c r → ∃ r3', foP (runTP T (n + 4)) 3 B_slopes_of_1 (stepsP k 1 r.length) [some X, e1, some (.own (acc.map dR)), r3] = .nx [some X, e1, some (.own ((acc ++ gaps c r).map dR)), r3']
  | [], pre, c, acc, k, r3, _, _, _, _ => ⟨r3, by simp only [ME_, List.length_nil, stepsP, gaps, List.append_nil]⟩
  | d :: r, pre, c, acc, k, r3, hcs, hk, ha, hu => by
    obtain ⟨r3', ih⟩ := sl_loop n X cs e1 h hz hn r (pre ++ [c]) d (acc ++ [slope c d]) (k + 1) (some (.int k)) (by rw [hcs]; simp) (by simp; omega) (by simp at ha ⊢; omega) hu.2
    refine ⟨r3', ?_⟩
    have i1 := i_at (k := k - 1) hcs (by omega)
    have i2 := i_at (cs := cs) (pre := pre ++ [c]) (c := d) (r := r) (k := k) (by rw [hcs]; simp) (by simp; omega)
    have hsb := r_slope_between n c d (hz c (by rw [hcs]; simp)) (hz d (by rw [hcs]; simp)) hu.1
    have hl : acc.length < LIM := by unfold LIM; simp at ha; omega
    simp only [MC_, List.length_cons, stepsP, fo_cons, VB_slopes_of_1, h.gv, h.fz, h.ix, i1, i2, hsb, List.length_map, hl]
    simp only [gaps, List.map_append, List.map_cons, List.map_nil, List.append_assoc, List.cons_append, List.nil_append] at ih ⊢
    exact ih
theorem r_slopes_of (n : Nat) (X : Dv) (c : Cn) (r : List Cn) (s : Rat) (h : Sq X ((c :: r).map dC)) (hz : ∀ x ∈ c :: r, Cz x) (hn : r.length ≤ 390000) (hu : Ups c r) : runTP T (n + 5) "slopes_of" [X, dR s] = .ok (.own ((gaps c r ++ [s]).map dR)) := by
  rw [runTP_succ T_slopes_of]
  obtain ⟨r3, hl⟩ := sl_loop n X (c :: r) (some (dR s)) h hz (by simp; omega) r [] c [] 1 none rfl rfl (by simp; omega) hu
  rw [List.map_nil, List.nil_append] at hl
  have hlen : (gaps c r).length < LIM := by rw [gaps_len]; unfold LIM; omega
  have hln := h.ln
  rw [List.length_map, List.length_cons] at hln
  have hr := rng1 r.length (by omega)
  unfold F_slopes_of
  simp only [MC_, h.gv, h.fz, hln, hr, any_steps, hl, List.length_map, hlen, List.map_append]

end Q
namespace Q
open PySem MP FP
theorem fo_loop (n : Nat) (X : Dv) (cs : List Cn) (S : List Rat) (e1 : Option Dv) (s : Rat) (h : Sq X (cs.map dC)) (hn : cs.length ≤ 400000) : ∀ (r pre : List Cn) (p : Cn) (Sp : List Rat) (acc : List Cn) (k : Int) (r4 : Option Dv), cs = pre ++ r → S = Sp ++ (gaps p r ++ [s]) → k = pre.length → k = Sp.length + 1 → acc.length + r.length ≤ 400000 → ∃ r4', foP (runTP T n) 4 B_folded_1 (stepsP k 1 r.length) [some X, e1, some (.own (S.map dR)), some (.own (acc.map dC)), r4] = .nx [some X, e1, some (.own (S.map dR)), some (.own ((acc ++ kl s p r).map dC)), r4']
  | [], pre, p, Sp, acc, k, r4, _, _, _, _, _ => ⟨r4, by simp only [ME_, List.length_nil, stepsP, kl, List.append_nil]⟩
  | d :: r, pre, p, Sp, acc, k, r4, hcs, hS, hk, hk2, ha => by
    obtain ⟨S', hS', _⟩ := gaps_hd d r s
    have hSS : S = Sp ++ slope p d :: (gaps d r ++ [s]) := by rw [hS]; rfl
    have i1 := iR_at (k := k - 1) hSS (by omega)
    have i2 := iR_at (cs := S) (pre := Sp ++ [slope p d]) (c := behind d r s) (r := S') (k := k) (by rw [hSS, hS']; simp) (by simp; omega)
    have i3 := i_at (cs := cs) (pre := pre) (c := d) (r := r) (k := k) hcs hk
    have hal : acc.length < LIM := by unfold LIM; simp at ha; omega
    by_cases hab : slope p d = behind d r s
    · obtain ⟨r4', ih⟩ := fo_loop n X cs S e1 s h hn r (pre ++ [d]) d (Sp ++ [slope p d]) acc (k + 1) (some (.int k)) (by rw [hcs]; simp) (by rw [hSS]; simp) (by simp; omega) (by simp; omega) (by simp at ha; omega)
      refine ⟨r4', ?_⟩
      have e : kl s p (d :: r) = kl s d r := if_pos hab
      rw [e]
      simp only [MC_, List.length_cons, stepsP, fo_cons, VB_folded_1, h.gv, i1, i2, hab]
      exact ih
    · obtain ⟨r4', ih⟩ := fo_loop n X cs S e1 s h hn r (pre ++ [d]) d (Sp ++ [slope p d]) (acc ++ [d]) (k + 1) (some (.int k)) (by rw [hcs]; simp) (by rw [hSS]; simp) (by simp; omega) (by simp; omega) (by simp at ha ⊢; omega)
      refine ⟨r4', ?_⟩
      have e : kl s p (d :: r) = d :: kl s d r := if_neg hab
      rw [e]
      simp only [MC_, List.length_cons, stepsP, fo_cons, VB_folded_1, h.gv, h.fz, h.ix, i1, i2, i3, hab, List.length_map, hal]
      simp only [List.map_append, List.map_cons, List.map_nil, List.append_assoc, List.cons_append, List.nil_append] at ih ⊢
      exact ih
theorem r_folded (n : Nat) (X : Dv) (c : Cn) (r : List Cn) (s : Rat) (h : Sq X ((c :: r).map dC)) (hz : ∀ x ∈ c :: r, Cz x) (hn : r.length ≤ 390000) (hu : Ups c r) : runTP T (n + 6) "folded" [X, dR s] = .ok (.own ((c :: kl s c r).map dC)) := by
  rw [runTP_succ T_folded]
  have hsl := r_slopes_of n X c r s h hz hn hu
  have hln := h.ln
  rw [List.length_map, List.length_cons] at hln
  have hr := rng1 r.length (by omega)
  have i0 : L2.atI ((c :: r).map dC) 0 = some (dC c) := i_at (pre := []) rfl rfl
  obtain ⟨r4, hl⟩ := fo_loop (n + 5) X (c :: r) (gaps c r ++ [s]) (some (dR s)) s h (by simp; omega) r [c] c [] [c] 1 none rfl rfl rfl rfl (by simp; omega)
  rw [List.map_cons, List.map_nil] at hl
  unfold F_folded
  simp only [MC_, h.gv, h.fz, h.ix, hsl, i0, hln, hr, any_steps, hl]

end Q
namespace Q
open PySem MP FP
theorem r_made (n : Nat) (X : Dv) (c : Cn) (r : List Cn) (s : Rat) (h : Sq X ((c :: r).map dC)) (hz : ∀ x ∈ c :: r, Cz x) (hn : r.length ≤ 390000) (hu : Ups c r) : runTP T (n + 7) "made" [X, dR s] = .ok (dF (c :: kl s c r) s) := by
  rw [runTP_succ T_made]
  have hf := r_folded n X c r s h hz hn hu
  unfold F_made
  simp only [MC_, h.gv, h.fz, hf]
  rfl

end Q
namespace Q
open PySem MP FP
theorem cu_loop (n : Nat) (X : Dv) (cs : List Cn) (e1 : Option Dv) (h : Sq X (cs.map dC)) (hz : ∀ x ∈ cs, Cz x) : ∀ (r pre : List Cn) (c : Cn) (k : Int) (r3 : Option Dv), cs = pre ++ c :: r → k = pre.length + 1 → Ups c r → Nds c r → ∃ r3', foP (runTP T (n + 1)) 2 B_curve_1 (stepsP k 1 r.length) [some X, e1, r3] = .nx [some X, e1, r3']
  | [], pre, c, k, r3, _, _, _, _ => ⟨r3, by simp only [ME_, List.length_nil, stepsP]⟩
  | d :: r, pre, c, k, r3, hcs, hk, hu, hd => by
    obtain ⟨r3', ih⟩ := cu_loop n X cs e1 h hz r (pre ++ [c]) d (k + 1) (some (.int k)) (by rw [hcs]; simp) (by simp; omega) hu.2 hd.2
    refine ⟨r3', ?_⟩
    have i1 := i_at (k := k - 1) hcs (by omega)
    have i2 := i_at (cs := cs) (pre := pre ++ [c]) (c := d) (r := r) (k := k) (by rw [hcs]; simp) (by simp; omega)
    have zc : Cz c := hz c (by rw [hcs]; simp)
    have zd : Cz d := hz d (by rw [hcs]; simp)
    simp only [MC_, List.length_cons, stepsP, fo_cons, VB_curve_1, h.gv, h.fz, h.ix, i1, i2, r_under, zc.s1, zc.s2, zd.s1, zd.s2, hu.1, hd.1]
    exact ih
theorem r_curve (n : Nat) (X : Dv) (c : Cn) (r : List Cn) (s : Rat) (h : Sq X ((c :: r).map dC)) (hz : ∀ x ∈ c :: r, Cz x) (hn : r.length ≤ 390000) (hu : Ups c r) (hd : Nds c r) (h0 : c.1 = 0) (h1 : ¬ c.2 < 0) (hs : Sz s) (h2 : ¬ s < 0) : runTP T (n + 8) "curve" [X, dR s] = .ok (dF (c :: kl s c r) s) := by
  rw [runTP_succ T_curve]
  have hm := r_made n X c r s h hz hn hu
  obtain ⟨r3, hl⟩ := cu_loop (n + 6) X (c :: r) (some (dR s)) h hz r [] c 1 none rfl rfl hu hd
  have hln := h.ln
  rw [List.length_map, List.length_cons] at hln
  have hr := rng1 r.length (by omega)
  have i0 : L2.atI ((c :: r).map dC) 0 = some (dC c) := i_at (pre := []) rfl rfl
  have s2 := (hz c List.mem_cons_self).s2
  have hpos : (((r.length + 1 : Nat) : Int) = 0) = False := by simp only [eq_iff_iff, iff_false]; omega
  unfold F_curve
  simp only [MC_, h.gv, h.fz, h.ix, i0, hln, hr, any_steps, hl, hm, hpos, r_under, hs, s2, Sz0, h0, h1, h2]

end Q
namespace Q
open PySem MP FP
theorem quo_eq {a b c d : Rat} (hb : 0 < b) (hd : 0 < d) : a / b = c / d ↔ a * d = c * b := by
  constructor
  · intro h
    have h1 : a = c / d * b := by rw [← h, Rat.div_mul_cancel (by grind)]
    rw [h1]
    have h2 : c / d * d = c := Rat.div_mul_cancel (by grind)
    grind
  · intro h
    have h1 : a / b * b = a := Rat.div_mul_cancel (by grind)
    have h2 : c / d * d = c := Rat.div_mul_cancel (by grind)
    have h3 : (a / b - c / d) * (b * d) = 0 := by grind
    have h4 : b * d ≠ 0 := by
      have := Rat.mul_pos hb hd
      grind
    have h5 : a / b - c / d = 0 := by
      rcases Rat.mul_eq_zero.mp h3 with h | h
      · exact h
      · exact absurd h h4
    grind
/-- each corner bends -/
def NF (s : Rat) : Cn → List Cn → Prop
  | _, [] => True
  | q, d :: t => slope q d ≠ behind d t s ∧ NF s d t
theorem collin {q p d : Cn} (h1 : q.1 < p.1) (h2 : p.1 < d.1) (h : slope q p = slope p d) : slope q d = slope p d := by
  unfold slope at h ⊢
  have e1 := (quo_eq (show (0 : Rat) < p.1 - q.1 by grind) (show (0 : Rat) < d.1 - p.1 by grind)).mp h
  refine (quo_eq (show (0 : Rat) < d.1 - q.1 by grind) (show (0 : Rat) < d.1 - p.1 by grind)).mpr ?_
  grind
theorem nf (s : Rat) : ∀ (r : List Cn) (p q : Cn), Ups p r → (q = p ∨ (q.1 < p.1 ∧ slope q p = behind p r s)) → NF s q (kl s p r) ∧ behind q (kl s p r) s = behind p r s
  | [], p, q, _, _ => ⟨trivial, rfl⟩
  | d :: t, p, q, hu, hq => by
    have hb : behind p (d :: t) s = slope p d := rfl
    have hqd : q.1 < d.1 ∧ slope q d = slope p d := by
      rcases hq with h | ⟨h1, h2⟩
      · subst h
        exact ⟨hu.1, rfl⟩
      · rw [hb] at h2
        exact ⟨by have := hu.1; grind, collin h1 hu.1 h2⟩
    unfold kl
    by_cases hc : slope p d = behind d t s
    · rw [if_pos hc]
      have ih := nf s t d q hu.2 (.inr ⟨hqd.1, by rw [hqd.2, hc]⟩)
      exact ⟨ih.1, by rw [ih.2, hb, hc]⟩
    · rw [if_neg hc]
      have ih := nf s t d d hu.2 (.inl rfl)
      refine ⟨⟨?_, ih.1⟩, ?_⟩
      · rw [ih.2, hqd.2]
        exact hc
      · show slope q d = _
        rw [hqd.2, hb]
theorem kl_up (s : Rat) : ∀ (r : List Cn) (p q : Cn), q.1 ≤ p.1 → Ups p r → Ups q (kl s p r)
  | [], _, _, _, _ => trivial
  | d :: t, p, q, h, hu => by
    have := hu.1
    unfold kl
    split
    · exact kl_up s t d q (by grind) hu.2
    · exact ⟨by grind, kl_up s t d d (by grind) hu.2⟩
theorem kl_nd (s : Rat) : ∀ (r : List Cn) (p q : Cn), ¬ p.2 < q.2 → Nds p r → Nds q (kl s p r)
  | [], _, _, _, _ => trivial
  | d :: t, p, q, h, hu => by
    have := hu.1
    unfold kl
    split
    · exact kl_nd s t d q (by grind) hu.2
    · exact ⟨by grind, kl_nd s t d d (by grind) hu.2⟩
theorem kl_mem (s : Rat) : ∀ (r : List Cn) (p x : Cn), x ∈ kl s p r → x ∈ r
  | [], _, _, h => h
  | d :: t, p, x, h => by
    unfold kl at h
    split at h
    · exact List.mem_cons_of_mem _ (kl_mem s t d x h)
    · rcases List.mem_cons.mp h with h | h
      · rw [h]
        exact List.mem_cons_self
      · exact List.mem_cons_of_mem _ (kl_mem s t d x h)
/-- a curve's slope behind a time, and its value -/
def slp (s : Rat) (t : Rat) : Cn → List Cn → Rat
  | c, [] => s
  | c, d :: r => if t < d.1 then slope c d else slp s t d r
def val (s : Rat) (t : Rat) : Cn → List Cn → Rat
  | c, [] => c.2 + s * (t - c.1)
  | c, d :: r => if t < d.1 then c.2 + slope c d * (t - c.1) else val s t d r
theorem slope_mul {c d : Cn} (h : c.1 < d.1) : slope c d * (d.1 - c.1) = d.2 - c.2 := by
  unfold slope
  exact Rat.div_mul_cancel (by grind)
theorem on_line {q p : Cn} {m t : Rat} (h : q = p ∨ (q.1 < p.1 ∧ slope q p = m)) : q.2 + m * (t - q.1) = p.2 + m * (t - p.1) := by
  rcases h with h | ⟨h1, h2⟩
  · rw [h]
  · have := slope_mul h1
    rw [h2] at this
    grind
theorem fold_slp (s t : Rat) : ∀ (r : List Cn) (p q : Cn), Ups p r → (q = p ∨ (q.1 < p.1 ∧ slope q p = behind p r s)) → slp s t q (kl s p r) = slp s t p r
  | [], p, q, _, _ => rfl
  | d :: r, p, q, hu, hq => by
    have hb : behind p (d :: r) s = slope p d := rfl
    have hqd : q.1 < d.1 ∧ slope q d = slope p d := by
      rcases hq with h | ⟨h1, h2⟩
      · subst h
        exact ⟨hu.1, rfl⟩
      · rw [hb] at h2
        exact ⟨by have := hu.1; grind, collin h1 hu.1 h2⟩
    unfold kl
    by_cases hc : slope p d = behind d r s
    · rw [if_pos hc, fold_slp s t r d q hu.2 (.inr ⟨hqd.1, by rw [hqd.2, hc]⟩)]
      by_cases ht : t < d.1
      · rw [slp, if_pos ht]
        cases r with
        | nil => exact hc.symm
        | cons e r =>
          have he : t < e.1 := by have := hu.2.1; grind
          rw [slp, if_pos he]
          exact hc.symm
      · rw [show slp s t p (d :: r) = if t < d.1 then slope p d else slp s t d r from rfl, if_neg ht]
    · rw [if_neg hc]
      show (if t < d.1 then slope q d else slp s t d (kl s d r)) = if t < d.1 then slope p d else slp s t d r
      rw [hqd.2, fold_slp s t r d d hu.2 (.inl rfl)]
theorem fold_val (s t : Rat) : ∀ (r : List Cn) (p q : Cn), Ups p r → (q = p ∨ (q.1 < p.1 ∧ slope q p = behind p r s)) → val s t q (kl s p r) = val s t p r
  | [], p, q, _, hq => on_line hq
  | d :: r, p, q, hu, hq => by
    have hb : behind p (d :: r) s = slope p d := rfl
    have hqd : q.1 < d.1 ∧ slope q d = slope p d := by
      rcases hq with h | ⟨h1, h2⟩
      · subst h
        exact ⟨hu.1, rfl⟩
      · rw [hb] at h2
        exact ⟨by have := hu.1; grind, collin h1 hu.1 h2⟩
    have hline := on_line (t := t) hq
    rw [hb] at hline
    unfold kl
    by_cases hc : slope p d = behind d r s
    · rw [if_pos hc, fold_val s t r d q hu.2 (.inr ⟨hqd.1, by rw [hqd.2, hc]⟩)]
      by_cases ht : t < d.1
      · have hm := slope_mul hu.1
        rw [show val s t p (d :: r) = if t < d.1 then p.2 + slope p d * (t - p.1) else val s t d r from rfl, if_pos ht]
        cases r with
        | nil =>
          show d.2 + s * (t - d.1) = _
          rw [show s = slope p d from hc.symm]
          grind
        | cons e r =>
          have he : t < e.1 := by have := hu.2.1; grind
          rw [val, if_pos he, show slope d e = slope p d from hc.symm]
          grind
      · rw [show val s t p (d :: r) = if t < d.1 then p.2 + slope p d * (t - p.1) else val s t d r from rfl, if_neg ht]
    · rw [if_neg hc]
      show (if t < d.1 then q.2 + slope q d * (t - q.1) else val s t d (kl s d r)) = if t < d.1 then p.2 + slope p d * (t - p.1) else val s t d r
      rw [hqd.2, hline, fold_val s t r d d hu.2 (.inl rfl)]


end Q
namespace Q
open PySem MP FP
theorem num_neg (q : Rat) : (q.num < 0) = (q < 0) := by
  rw [Rat.lt_iff]
  show _ = (q.num * ((1 : Nat) : Int) < 0 * _)
  rw [Int.zero_mul, Int.natCast_one, Int.mul_one]
/-- the slopes of a curve, and its corners, are small -/
structure Fz (bt bv bm : Nat) (c : Cn) (r : List Cn) (s : Rat) : Prop where
  t : ∀ x ∈ c :: r, Rb x.1 bt
  v : ∀ x ∈ c :: r, Rb x.2 bv
  m : ∀ x ∈ gaps c r ++ [s], Rb x bm
theorem Fz.cz {bt bv bm : Nat} {c : Cn} {r : List Cn} {s : Rat} (f : Fz bt bv bm c r s) (h1 : bt ≤ 3300) (h2 : bv ≤ 3300) : ∀ x ∈ c :: r, Cz x := fun x hx => ⟨(f.t x hx).mono h1, (f.v x hx).mono h2⟩
theorem Fz.at {bt bv bm : Nat} : ∀ {pre : List Cn} {c : Cn} {r : List Cn} {p : Cn} {t : List Cn} {s : Rat}, Fz bt bv bm c r s → c :: r = pre ++ p :: t → Rb (behind p t s) bm
  | [], c, r, p, t, s, f, h => by
    rw [List.nil_append] at h
    injection h with h1 h2
    subst h1 h2
    obtain ⟨S, hS, _⟩ := gaps_hd c r s
    exact f.m _ (by rw [hS]; exact List.mem_cons_self)
  | x :: pre, c, r, p, t, s, f, h => by
    rw [List.cons_append] at h
    injection h with h1 h2
    cases r with
    | nil =>
      have := congrArg List.length h2
      simp at this
    | cons d r => exact Fz.at (pre := pre) (c := d) (r := r) ⟨fun y hy => f.t y (List.mem_cons_of_mem _ hy), fun y hy => f.v y (List.mem_cons_of_mem _ hy), fun y hy => f.m y (List.mem_cons_of_mem _ hy)⟩ h2
theorem Ups.at : ∀ {pre : List Cn} {c : Cn} {r : List Cn} {p d : Cn} {t : List Cn}, Ups c r → c :: r = pre ++ p :: d :: t → p.1 < d.1
  | [], c, r, p, d, t, u, h => by
    rw [List.nil_append] at h
    injection h with h1 h2
    subst h1 h2
    exact u.1
  | x :: pre, c, r, p, d, t, u, h => by
    rw [List.cons_append] at h
    injection h with h1 h2
    cases r with
    | nil =>
      have := congrArg List.length h2
      simp at this
    | cons e r => exact Ups.at (pre := pre) u.2 h2
theorem gaps_Rb {b : Nat} : ∀ (c : Cn) (r : List Cn), Ups c r → (∀ x ∈ c :: r, Rb x.1 b ∧ Rb x.2 b) → ∀ m ∈ gaps c r, Rb m (4 * b + 2)
  | c, [], u, h, m, hm => absurd hm List.not_mem_nil
  | c, d :: r, u, h, m, hm => by
    rcases List.mem_cons.mp hm with e | hm
    · subst e
      have hc := h c List.mem_cons_self
      have hd := h d (List.mem_cons_of_mem _ List.mem_cons_self)
      exact ((hd.2.sub hc.2).quo (hd.1.sub hc.1) (by have := u.1; grind)).mono (by omega)
    · exact gaps_Rb d r u.2 (fun x hx => h x (List.mem_cons_of_mem _ hx)) m hm
theorem slp_Rb {b : Nat} (s t : Rat) : ∀ (c : Cn) (r : List Cn), (∀ m ∈ gaps c r ++ [s], Rb m b) → Rb (slp s t c r) b
  | c, [], h => h s (by simp)
  | c, d :: r, h => by
    unfold slp
    split
    · exact h _ (by simp [gaps])
    · exact slp_Rb s t d r (fun m hm => h m (by simp [gaps] at hm ⊢; exact .inr hm))

end Q
namespace Q
open PySem MP FP
/-- where a time lies -/
structure At (s t : Rat) (cs : List Cn) (pre : List Cn) (c : Cn) (r : List Cn) : Prop where
  eq : cs = pre ++ c :: r
  nx : ∀ d r', r = d :: r' → t < d.1
theorem At.slp {s t : Rat} {cs pre : List Cn} {c : Cn} {r : List Cn} (a : At s t cs pre c r) : slp s t c r = behind c r s := by
  cases r with
  | nil => rfl
  | cons d r => exact if_pos (a.nx d r rfl)
theorem At.val {s t : Rat} {cs pre : List Cn} {c : Cn} {r : List Cn} (a : At s t cs pre c r) : val s t c r = c.2 + behind c r s * (t - c.1) := by
  cases r with
  | nil => rfl
  | cons d r => exact if_pos (a.nx d r rfl)
theorem po_loop (n : Nat) (e0 : Option Dv) (cs : List Cn) (s t : Rat) (ht : Sz t) (hz : ∀ x ∈ cs, Sz x.1) : ∀ (r pre : List Cn) (c : Cn), cs = pre ++ c :: r → c.1 ≤ t → Ups c r → ∃ pre' c' r', whP (runTP T (n + 1)) C_place_of_1 B_place_of_1 [e0, some (dR t), some (.tup (cs.map dC)), some (.int (pre.length : Int))] = .nx [e0, some (dR t), some (.tup (cs.map dC)), some (.int (pre'.length : Int))] ∧ At s t cs pre' c' r' ∧ c'.1 ≤ t ∧ slp s t c r = behind c' r' s ∧ val s t c r = c'.2 + behind c' r' s * (t - c'.1)
  | [], pre, c, hcs, hc, hu => by
    have a : At s t cs pre c [] := ⟨hcs, fun d r' h => by cases h⟩
    refine ⟨pre, c, [], ?_, a, hc, a.slp, a.val⟩
    have hno : ¬ ((pre.length : Int) + 1 < (cs.length : Int)) := by rw [hcs]; simp
    exact wh_end (by simp only [MC_, VC_place_of_1, List.length_map, hno])
  | d :: r, pre, c, hcs, hc, hu => by
    have hyes : (pre.length : Int) + 1 < (cs.length : Int) := by rw [hcs]; simp; omega
    have i2 := i_at (cs := cs) (pre := pre ++ [c]) (c := d) (r := r) (k := (pre.length : Int) + 1) (by rw [hcs]; simp) (by simp)
    have sd := hz d (by rw [hcs]; simp)
    by_cases h : t < d.1
    · have a : At s t cs pre c (d :: r) := ⟨hcs, fun d' r' h' => by injection h' with h1 h2; rw [← h1]; exact h⟩
      refine ⟨pre, c, d :: r, ?_, a, hc, a.slp, a.val⟩
      exact wh_end (by simp only [MC_, VC_place_of_1, List.length_map, hyes, i2, r_under, ht, sd, h])
    · obtain ⟨pre', c', r', h1, h2, h3, h4, h5⟩ := po_loop n e0 cs s t ht hz r (pre ++ [c]) d (by rw [hcs]; simp) (by grind) hu.2
      refine ⟨pre', c', r', ?_, h2, h3, ?_, ?_⟩
      · have e : (((pre ++ [c]).length : Nat) : Int) = (pre.length : Int) + 1 := by simp
        rw [e] at h1
        exact wh_go (by simp only [MC_, VC_place_of_1, List.length_map, hyes, i2, r_under, ht, sd, h]) (by simp only [MC_, VB_place_of_1]) h1 (fun z => by cases z)
      · rw [← h4]
        exact if_neg h
      · rw [← h5]
        exact if_neg h
theorem r_place_of (n : Nat) (c : Cn) (r : List Cn) (s t : Rat) (ht : Sz t) (hz : ∀ x ∈ c :: r, Sz x.1) (hu : Ups c r) (h0 : c.1 = 0) (t0 : ¬ t < 0) : ∃ pre' c' r', runTP T (n + 2) "place_of" [dF (c :: r) s, dR t] = .ok (.int (pre'.length : Int)) ∧ At s t (c :: r) pre' c' r' ∧ c'.1 ≤ t ∧ slp s t c r = behind c' r' s ∧ val s t c r = c'.2 + behind c' r' s * (t - c'.1) := by
  obtain ⟨pre', c', r', h1, h2⟩ := po_loop n (some (dF (c :: r) s)) (c :: r) s t ht hz r [] c rfl (by rw [h0]; grind) hu
  refine ⟨pre', c', r', ?_, h2⟩
  rw [runTP_succ T_place_of]
  have h1' : whP (runTP T (n + 1)) C_place_of_1 B_place_of_1 [some (dF (c :: r) s), some (dR t), some (.tup ((c :: r).map dC)), some (.int 0)] = _ := h1
  generalize c :: r = cs at *
  unfold F_place_of
  simp only [MC_, r_under, ht, Sz0, t0, h1']
theorem r_place_of_bad (n : Nat) (cs : List Cn) (s t : Rat) (ht : Sz t) (t0 : t < 0) : runTP T (n + 2) "place_of" [dF cs s, dR t] = .exc "NoTime" := by
  rw [runTP_succ T_place_of]
  unfold F_place_of
  simp only [MC_, r_under, ht, Sz0, t0]

end Q
namespace Q
open PySem MP FP
theorem r_slope_behind (n : Nat) (cs pre : List Cn) (c : Cn) (r : List Cn) (s : Rat) (k : Int) (hk : k = pre.length) (hcs : cs = pre ++ c :: r) (hz : ∀ x ∈ cs, Cz x) (hu : ∀ d r', r = d :: r' → c.1 < d.1) : runTP T (n + 5) "slope_behind" [dF cs s, .int k] = .ok (dR (behind c r s)) := by
  rw [runTP_succ T_slope_behind]
  unfold F_slope_behind
  cases r with
  | nil =>
    have hno : ¬ (k + 1 < (cs.length : Int)) := by rw [hcs, hk]; simp
    simp only [MC_, List.length_map, hno, behind]
  | cons d r =>
    have hyes : k + 1 < (cs.length : Int) := by rw [hcs, hk]; simp; omega
    have i1 := i_at (cs := cs) (k := k) hcs hk
    have i2 := i_at (cs := cs) (pre := pre ++ [c]) (c := d) (r := r) (k := k + 1) (by rw [hcs]; simp) (by simp; omega)
    have e := r_slope_between n c d (hz c (by rw [hcs]; simp)) (hz d (by rw [hcs]; simp)) (hu d r rfl)
    simp only [MC_, List.length_map, hyes, i1, i2, e, behind]

end Q
namespace Q
open PySem MP FP
theorem r_value_at (n : Nat) (bt bv bm k : Nat) (c : Cn) (r : List Cn) (s t : Rat) (f : Fz bt bv bm c r s) (hk : Rb t k) (h1 : bt ≤ 3300) (h2 : bv ≤ 3300) (h3 : k + bt + 1 + bm ≤ 6700) (hu : Ups c r) (h0 : c.1 = 0) (t0 : ¬ t < 0) : runTP T (n + 6) "value_at" [dF (c :: r) s, dR t] = .ok (dR (val s t c r)) := by
  rw [runTP_succ T_value_at]
  have cz := f.cz h1 h2
  have ht : Sz t := hk.sz (by omega)
  obtain ⟨pre, c', r', e1, a, hc, _, ev⟩ := r_place_of (n + 3) c r s t ht (fun x hx => (cz x hx).s1) hu h0 t0
  have hcs := a.eq
  have m1 : c' ∈ c :: r := by rw [hcs]; simp
  have eb := r_slope_behind n (c :: r) pre c' r' s pre.length rfl hcs cz (fun d r2 h => Ups.at hu (by rw [hcs, h]))
  have i1 := i_at (cs := c :: r) (k := (pre.length : Int)) hcs rfl
  have b1 : Rb (t - c'.1) (k + bt + 1) := hk.sub (f.t c' m1)
  have b2 : Rb (behind c' r' s) bm := f.at hcs
  have s1 : Sz (t - c'.1) := b1.sz (by omega)
  have s2 : Sz (behind c' r' s) := b2.sz (by omega)
  have s3 : Sz (behind c' r' s * (t - c'.1)) := (b2.mul b1).sz (by omega)
  have s4 := (cz c' m1).s1
  have s5 := (cz c' m1).s2
  rw [ev]
  generalize c :: r = cs at *
  unfold F_value_at
  by_cases h : c'.1 = t
  · have z : t - t = 0 := by grind
    have z2 : ∀ x : Rat, x * 0 = 0 := fun x => by grind
    have z3 : ∀ x : Rat, x + 0 = x := fun x => by grind
    simp only [MC_, e1, i1, h, z, z2, z3]
  · simp only [MC_, e1, i1, h, eb, r_minus, r_times, r_plus, ht, s1, s2, s3, s4, s5]
theorem r_value_at_bad (n : Nat) (cs : List Cn) (s t : Rat) (ht : Sz t) (t0 : t < 0) : runTP T (n + 3) "value_at" [dF cs s, dR t] = .exc "NoTime" := by
  rw [runTP_succ T_value_at]
  have e := r_place_of_bad n cs s t ht t0
  unfold F_value_at
  simp only [MC_, e]

end Q
namespace Q
open PySem MP FP
theorem slope_ne {p d : Cn} (h1 : p.1 < d.1) (h2 : p.2 ≠ d.2) : slope p d ≠ 0 := by
  intro z
  have := slope_mul h1
  rw [z] at this
  grind
theorem lin_le {m a b : Rat} (hm : 0 ≤ m) (h : a ≤ b) : m * a ≤ m * b := Rat.mul_le_mul_of_nonneg_left h hm
theorem lin_lt {m a b : Rat} (hm : 0 < m) (h : a < b) : m * a < m * b := Rat.mul_lt_mul_of_pos_left h hm
theorem slope_nn {c d : Cn} (h1 : c.1 < d.1) (h2 : ¬ d.2 < c.2) : 0 ≤ slope c d := by
  by_cases h : slope c d < 0
  · have e := slope_mul h1
    have := lin_lt (m := d.1 - c.1) (a := slope c d) (b := 0) (by grind) h
    grind
  · grind
theorem slope_pos {c d : Cn} (h1 : c.1 < d.1) (h2 : c.2 < d.2) : 0 < slope c d := by
  have a := slope_nn h1 (show ¬ d.2 < c.2 by grind)
  have b := slope_ne h1 (show c.2 ≠ d.2 by grind)
  grind
theorem val_start (s : Rat) : ∀ (c : Cn) (r : List Cn), Ups c r → val s c.1 c r = c.2
  | c, [], u => by
    show c.2 + s * (c.1 - c.1) = c.2
    grind
  | c, d :: r, u => by
    show (if c.1 < d.1 then c.2 + slope c d * (c.1 - c.1) else val s c.1 d r) = c.2
    rw [if_pos u.1]
    grind
theorem val_ge (s t : Rat) (hs : 0 ≤ s) : ∀ (c : Cn) (r : List Cn), Ups c r → Nds c r → c.1 ≤ t → c.2 ≤ val s t c r
  | c, [], u, nd, h => by
    have := lin_le hs (show 0 ≤ t - c.1 by grind)
    show c.2 ≤ c.2 + s * (t - c.1)
    grind
  | c, d :: r, u, nd, h => by
    show c.2 ≤ (if t < d.1 then c.2 + slope c d * (t - c.1) else val s t d r)
    have := nd.1
    split
    · have := lin_le (slope_nn u.1 nd.1) (show 0 ≤ t - c.1 by grind)
      grind
    · have := val_ge s t hs d r u.2 nd.2 (by grind)
      grind
theorem le_of_lin {m a b : Rat} (hm : 0 < m) (h : m * a ≤ m * b) : a ≤ b := by
  by_cases z : b < a
  · have := lin_lt hm z
    grind
  · grind
theorem lt_of_lin {m a b : Rat} (hm : 0 < m) (h : m * a < m * b) : a < b := by
  by_cases z : b ≤ a
  · have := lin_le (Rat.le_of_lt hm) z
    grind
  · grind
theorem val_mono (s : Rat) (hs : 0 ≤ s) (t y : Rat) (hty : t ≤ y) : ∀ (c : Cn) (r : List Cn), Ups c r → Nds c r → c.1 ≤ t → val s t c r ≤ val s y c r
  | c, [], u, nd, h => by
    have := lin_le hs (show t - c.1 ≤ y - c.1 by grind)
    show c.2 + s * (t - c.1) ≤ c.2 + s * (y - c.1)
    grind
  | c, d :: r, u, nd, h => by
    show (if t < d.1 then c.2 + slope c d * (t - c.1) else val s t d r) ≤ (if y < d.1 then c.2 + slope c d * (y - c.1) else val s y d r)
    have sn := slope_nn u.1 nd.1
    by_cases ht : t < d.1
    · rw [if_pos ht]
      by_cases hy : y < d.1
      · rw [if_pos hy]
        have := lin_le sn (show t - c.1 ≤ y - c.1 by grind)
        grind
      · rw [if_neg hy]
        have := lin_le sn (show t - c.1 ≤ d.1 - c.1 by grind)
        have e := slope_mul u.1
        have := val_ge s y hs d r u.2 nd.2 (by grind)
        grind
    · rw [if_neg ht, if_neg (show ¬ y < d.1 by grind)]
      exact val_mono s hs t y hty d r u.2 nd.2 (by grind)
theorem num_den (p : Rat) : p * ((p.den : Int) : Rat) = (p.num : Rat) := by
  have h := Rat.num_divInt_den p
  rw [Rat.divInt_eq_div] at h
  have hp : ((p.den : Int) : Rat) ≠ 0 := by
    have := Rat.intCast_pos.mpr (show (0 : Int) < (p.den : Int) by have := p.den_pos; omega)
    grind
  have : (p.num : Rat) / ((p.den : Int) : Rat) * ((p.den : Int) : Rat) = (p.num : Rat) := Rat.div_mul_cancel hp
  rw [h] at this
  exact this


end Q
namespace Q
open PySem MP FP
/-- straight between times -/
inductive PL (P : Rat → Rat → Prop) (F : Rat → Rat) (s : Rat) : Rat → List Rat → Prop
  | last {a : Rat} : (∀ t, a ≤ t → F t = F a + s * (t - a)) → P s (F a - s * a) → PL P F s a []
  | cons {a b : Rat} {l : List Rat} (m : Rat) : a < b → (∀ t, a ≤ t → t ≤ b → F t = F a + m * (t - a)) → P m (F a - m * a) → PL P F s b l → PL P F s a (b :: l)
theorem PL.congr {P : Rat → Rat → Prop} {F G : Rat → Rat} {s a : Rat} {l : List Rat} (h : PL P F s a l) (e : ∀ t, a ≤ t → F t = G t) : PL P G s a l := by
  induction h with
  | @last a h1 h2 =>
    have ea := e a Rat.le_refl
    exact .last (fun t ht => by rw [← e t ht, ← ea]; exact h1 t ht) (by rw [← ea]; exact h2)
  | @cons a b l m h1 h2 h3 h4 ih =>
    have ea := e a Rat.le_refl
    exact .cons m h1 (fun t ht ht' => by rw [← e t ht, ← ea]; exact h2 t ht ht') (by rw [← ea]; exact h3) (ih (fun t ht => e t (by grind)))
theorem PL.mono {P Q : Rat → Rat → Prop} (hPQ : ∀ m q, P m q → Q m q) {F : Rat → Rat} {s a : Rat} {l : List Rat} (h : PL P F s a l) : PL Q F s a l := by
  induction h with
  | last h1 h2 => exact .last h1 (hPQ _ _ h2)
  | cons m h1 h2 h3 h4 ih => exact .cons m h1 h2 (hPQ _ _ h3) ih
/-- the lines of a curve -/
def Lns (P : Rat → Rat → Prop) (s : Rat) : Cn → List Cn → Prop
  | c, [] => P s (c.2 - s * c.1)
  | c, d :: r => P (slope c d) (c.2 - slope c d * c.1) ∧ Lns P s d r
theorem Lns.hd {P : Rat → Rat → Prop} {s : Rat} {c : Cn} {r : List Cn} (h : Lns P s c r) : P (behind c r s) (c.2 - behind c r s * c.1) := by
  cases r with
  | nil => exact h
  | cons d r => exact h.1
theorem Lns.mono {P Q : Rat → Rat → Prop} (hPQ : ∀ m q, P m q → Q m q) {s : Rat} : ∀ {c : Cn} {r : List Cn}, Lns P s c r → Lns Q s c r
  | c, [], h => hPQ _ _ h
  | c, d :: r, h => ⟨hPQ _ _ h.1, Lns.mono hPQ h.2⟩
theorem crv_PL (P : Rat → Rat → Prop) (s : Rat) : ∀ (c : Cn) (r : List Cn), Ups c r → Lns P s c r → PL P (fun t => val s t c r) s c.1 (r.map (·.1))
  | c, [], u, h => by
    have e : ∀ t, val s t c [] = c.2 + s * (t - c.1) := fun t => rfl
    refine .last (fun t ht => ?_) ?_
    · show val s t c [] = val s c.1 c [] + s * (t - c.1)
      rw [e, e]
      grind
    · show P s (val s c.1 c [] - s * c.1)
      rw [val_start s c [] u]
      exact h
  | c, d :: r, u, h => by
    have e1 : ∀ t, ¬ t < d.1 → val s t c (d :: r) = val s t d r := fun t ht => if_neg ht
    have e2 : ∀ t, t < d.1 → val s t c (d :: r) = c.2 + slope c d * (t - c.1) := fun t ht => if_pos ht
    have e3 := val_start s c (d :: r) u
    have e4 := val_start s d r u.2
    refine .cons (slope c d) u.1 (fun t ht ht' => ?_) ?_ ((crv_PL P s d r u.2 h.2).congr (fun t ht => (e1 t (by grind)).symm))
    · show val s t c (d :: r) = val s c.1 c (d :: r) + slope c d * (t - c.1)
      rw [e3]
      by_cases z : t < d.1
      · rw [e2 t z]
      · have zd : t = d.1 := by grind
        rw [e1 t z, zd, e4]
        have := slope_mul u.1
        grind
    · show P (slope c d) (val s c.1 c (d :: r) - slope c d * c.1)
      rw [e3]
      exact h.1
/-- the corners at times -/
def pts (F : Rat → Rat) (l : List Rat) : List Cn := l.map fun t => (t, F t)
theorem quo_of {a b m : Rat} (hb : b ≠ 0) (h : a = m * b) : a / b = m := by
  rw [h, Rat.div_def, Rat.mul_assoc, Rat.mul_inv_cancel b hb, Rat.mul_one]
theorem PL.slo {F : Rat → Rat} {a b m : Rat} (hab : a < b) (h : ∀ t, a ≤ t → t ≤ b → F t = F a + m * (t - a)) : slope (a, F a) (b, F b) = m := by
  have e := h b (by grind) Rat.le_refl
  exact quo_of (show b - a ≠ 0 by grind) (show F b - F a = m * (b - a) by grind)
theorem PL.ups {P : Rat → Rat → Prop} {F : Rat → Rat} {s a : Rat} {l : List Rat} (h : PL P F s a l) : Ups (a, F a) (pts F l) := by
  induction h with
  | last h1 h2 => trivial
  | cons m h1 h2 h3 h4 ih => exact ⟨h1, ih⟩
theorem PL.lns {P : Rat → Rat → Prop} {F : Rat → Rat} {s a : Rat} {l : List Rat} (h : PL P F s a l) : Lns P s (a, F a) (pts F l) := by
  induction h with
  | last h1 h2 => exact h2
  | @cons a b l m h1 h2 h3 h4 ih =>
    refine ⟨?_, ih⟩
    show P (slope (a, F a) (b, F b)) (F a - slope (a, F a) (b, F b) * a)
    rw [PL.slo h1 h2]
    exact h3
theorem PL.va {P : Rat → Rat → Prop} {F : Rat → Rat} {s a : Rat} {l : List Rat} (h : PL P F s a l) : ∀ t, a ≤ t → val s t (a, F a) (pts F l) = F t := by
  induction h with
  | last h1 h2 => exact fun t ht => (h1 t ht).symm
  | @cons a b l m h1 h2 h3 h4 ih =>
    intro t ht
    show (if t < b then F a + slope (a, F a) (b, F b) * (t - a) else val s t (b, F b) (pts F l)) = F t
    split
    · rw [PL.slo h1 h2, h2 t ht (by grind)]
    · exact ih t (by grind)
theorem PL.nds {P : Rat → Rat → Prop} {F : Rat → Rat} {s a : Rat} {l : List Rat} (h : PL P F s a l) (hm : ∀ x y, a ≤ x → x ≤ y → F x ≤ F y) : Nds (a, F a) (pts F l) := by
  induction h with
  | last h1 h2 => trivial
  | @cons a b l m h1 h2 h3 h4 ih => exact ⟨by have := hm a b Rat.le_refl (by grind); show ¬ F b < F a; grind, ih (fun x y hx => hm x y (by grind))⟩
theorem kl_lns (P : Rat → Rat → Prop) (s : Rat) : ∀ (r : List Cn) (p q : Cn), Ups p r → (q = p ∨ (q.1 < p.1 ∧ slope q p = behind p r s)) → Lns P s p r → Lns P s q (kl s p r)
  | [], p, q, _, hq, h => by
    have := on_line (t := 0) hq
    show P s (q.2 - s * q.1)
    have e : q.2 - s * q.1 = p.2 - s * p.1 := by
      have hb : behind p [] s = s := rfl
      rw [hb] at this
      grind
    rw [e]
    exact h
  | d :: r, p, q, hu, hq, h => by
    have hb : behind p (d :: r) s = slope p d := rfl
    have hqd : q.1 < d.1 ∧ slope q d = slope p d := by
      rcases hq with h | ⟨h1, h2⟩
      · subst h
        exact ⟨hu.1, rfl⟩
      · rw [hb] at h2
        exact ⟨by have := hu.1; grind, collin h1 hu.1 h2⟩
    unfold kl
    by_cases hc : slope p d = behind d r s
    · rw [if_pos hc]
      exact kl_lns P s r d q hu.2 (.inr ⟨hqd.1, by rw [hqd.2, hc]⟩) h.2
    · rw [if_neg hc]
      refine ⟨?_, kl_lns P s r d d hu.2 (.inl rfl) h.2⟩
      have := on_line (t := 0) hq
      rw [hb] at this
      rw [hqd.2, show q.2 - slope p d * q.1 = p.2 - slope p d * p.1 by grind]
      exact h.1
/-- small lines -/
def LB (B : Nat) (m q : Rat) : Prop := Rb m B ∧ Rb q B
theorem nf_sz {B : Nat} {s : Rat} : ∀ {c : Cn} {r : List Cn}, Lns (LB B) s c r → Ups c r → NF s c r → ∀ d ∈ r, Rb d.1 (4 * B + 2) ∧ Rb d.2 (6 * B + 3)
  | c, [], _, _, _, d, hd => absurd hd List.not_mem_nil
  | c, e :: r, h, u, nf, d, hd => by
    rcases List.mem_cons.mp hd with hd | hd
    · subst hd
      have l0 := h.1
      have l1 := h.2.hd
      have sm := slope_mul u.1
      have hne := nf.1
      obtain ⟨m, hm⟩ : ∃ m, m = behind d r s := ⟨_, rfl⟩
      rw [← hm] at l1 hne
      obtain ⟨k, hk⟩ : ∃ k, k = slope c d := ⟨_, rfl⟩
      rw [← hk] at l0 hne sm
      have et : d.1 = ((c.2 - k * c.1) - (d.2 - m * d.1)) / (m - k) := (quo_of (show m - k ≠ 0 by grind) (by grind)).symm
      have b1 : Rb d.1 (4 * B + 2) := by
        rw [et]
        exact ((l0.2.sub l1.2).quo (l1.1.sub l0.1) (by grind)).mono (by omega)
      refine ⟨b1, ?_⟩
      have ev : d.2 = m * d.1 + (d.2 - m * d.1) := by grind
      rw [ev]
      exact ((l1.1.mul b1).add l1.2).mono (by omega)
    · exact nf_sz h.2 u.2 nf.2 d hd
theorem Lns.gaps {B : Nat} {s : Rat} : ∀ {c : Cn} {r : List Cn}, Lns (LB B) s c r → ∀ m ∈ gaps c r ++ [s], Rb m B
  | c, [], h, m, hm => by
    have := List.mem_singleton.mp hm
    rw [this]
    exact h.1
  | c, d :: r, h, m, hm => by
    rcases List.mem_cons.mp hm with e | hm
    · rw [e]
      exact h.1.1
    · exact Lns.gaps h.2 m hm
/-- a curve in the told form, its lines small -/
structure Cv (B : Nat) (c : Cn) (r : List Cn) (s : Rat) : Prop where
  c0 : c.1 = 0
  up : Ups c r
  nd : Nds c r
  v0 : ¬ c.2 < 0
  s0 : ¬ s < 0
  nf : NF s c r
  ln : Lns (LB B) s c r
theorem Cv.mono {B B' : Nat} {c : Cn} {r : List Cn} {s : Rat} (h : Cv B c r s) (hB : B ≤ B') : Cv B' c r s := ⟨h.c0, h.up, h.nd, h.v0, h.s0, h.nf, h.ln.mono (fun m q z => ⟨z.1.mono hB, z.2.mono hB⟩)⟩
theorem Rb0 (k : Nat) (hk : 2 ≤ k) : Rb 0 k := (show Rb 0 2 from ⟨by decide, by decide⟩).mono hk
theorem Rb1 (k : Nat) (hk : 2 ≤ k) : Rb 1 k := (show Rb 1 2 from ⟨by decide, by decide⟩).mono hk
theorem Cv.sz {B : Nat} {c : Cn} {r : List Cn} {s : Rat} (h : Cv B c r s) : ∀ x ∈ c :: r, Rb x.1 (4 * B + 2) ∧ Rb x.2 (6 * B + 3) := fun x hx => by
  rcases List.mem_cons.mp hx with e | hx
  · subst e
    refine ⟨by rw [h.c0]; exact Rb0 _ (by omega), ?_⟩
    have e := h.ln.hd.2
    rw [h.c0] at e
    rw [show x.2 - behind x r s * 0 = x.2 by grind] at e
    exact e.mono (by omega)
  · exact nf_sz h.ln h.up h.nf x hx
theorem Cv.fz {B : Nat} {c : Cn} {r : List Cn} {s : Rat} (h : Cv B c r s) : Fz (4 * B + 2) (6 * B + 3) B c r s := ⟨fun x hx => (h.sz x hx).1, fun x hx => (h.sz x hx).2, h.ln.gaps⟩
theorem Cv.pl {B : Nat} {c : Cn} {r : List Cn} {s : Rat} (h : Cv B c r s) : PL (LB B) (fun t => val s t c r) s 0 (r.map (·.1)) := by
  have := crv_PL (LB B) s c r h.up h.ln
  rw [h.c0] at this
  exact this
/-- what a row of points makes -/
theorem PL.cv {B : Nat} {F : Rat → Rat} {s : Rat} {l : List Rat} (h : PL (LB B) F s 0 l) (hm : ∀ x y, 0 ≤ x → x ≤ y → F x ≤ F y) (v0 : 0 ≤ F 0) (s0 : 0 ≤ s) : Cv B (0, F 0) (kl s (0, F 0) (pts F l)) s ∧ ∀ t, 0 ≤ t → val s t (0, F 0) (kl s (0, F 0) (pts F l)) = F t := by
  have hu := h.ups
  have hn := h.nds hm
  refine ⟨⟨rfl, kl_up s _ _ _ (by grind) hu, kl_nd s _ _ _ (by grind) hn, by show ¬ F 0 < 0; grind, by grind, (nf s _ _ _ hu (.inl rfl)).1, kl_lns _ s _ _ _ hu (.inl rfl) h.lns⟩, fun t ht => ?_⟩
  rw [fold_val s t _ _ _ hu (.inl rfl)]
  exact h.va t ht

end Q
namespace Q
open PySem MP FP
def Rise (a : Rat) : List Rat → Prop
  | [] => True
  | b :: l => a < b ∧ Rise b l
theorem Ups.rise : ∀ {c : Cn} {r : List Cn}, Ups c r → Rise c.1 (r.map (·.1))
  | c, [], u => trivial
  | c, d :: r, u => ⟨u.1, u.2.rise⟩
theorem PL.rise {P : Rat → Rat → Prop} {F : Rat → Rat} {s a : Rat} {l : List Rat} (h : PL P F s a l) : Rise a l := by
  induction h with
  | last h1 h2 => trivial
  | cons m h1 h2 h3 h4 ih => exact ⟨h1, ih⟩
/-- two rows of times in one -/
def mrg : List Rat → List Rat → List Rat
  | [], k => k
  | l, [] => l
  | a :: l, b :: k => if a < b then a :: mrg l (b :: k) else if b < a then b :: mrg (a :: l) k else a :: mrg l k
termination_by l k => l.length + k.length
theorem mrg_0 (k : List Rat) : mrg [] k = k := by rw [mrg]
theorem mrg_1 (l : List Rat) : mrg l [] = l := by
  cases l with
  | nil => rw [mrg]
  | cons a l => rw [mrg]; intro h; cases h
theorem mrg_2 (a b : Rat) (l k : List Rat) : mrg (a :: l) (b :: k) = if a < b then a :: mrg l (b :: k) else if b < a then b :: mrg (a :: l) k else a :: mrg l k := by rw [mrg]
theorem mrg_comm : ∀ (n : Nat) (l k : List Rat), l.length + k.length ≤ n → mrg l k = mrg k l
  | n, [], k, _ => by rw [mrg_0, mrg_1]
  | n, a :: l, [], _ => by rw [mrg_0, mrg_1]
  | 0, a :: l, b :: k, h => by simp at h
  | n + 1, a :: l, b :: k, h => by
    have h' : l.length + 1 + (k.length + 1) ≤ n + 1 := h
    rw [mrg_2, mrg_2]
    by_cases h1 : a < b
    · rw [if_pos h1, if_neg (show ¬ b < a by grind), if_pos h1, mrg_comm n l (b :: k) (by simp; omega)]
    · rw [if_neg h1]
      by_cases h2 : b < a
      · rw [if_pos h2, if_pos h2, mrg_comm n (a :: l) k (by simp; omega)]
      · have : a = b := by grind
        rw [if_neg h2, if_neg h2, if_neg h1, this, mrg_comm n l k (by omega)]
theorem mrg_len : ∀ (n : Nat) (l k : List Rat), l.length + k.length ≤ n → (mrg l k).length ≤ l.length + k.length
  | n, [], k, _ => by rw [mrg_0]; simp
  | n, a :: l, [], _ => by rw [mrg_1]; simp
  | 0, a :: l, b :: k, h => by simp at h
  | n + 1, a :: l, b :: k, h => by
    have h' : l.length + 1 + (k.length + 1) ≤ n + 1 := h
    rw [mrg_2]
    have h1 := mrg_len n l (b :: k) (by simp; omega)
    have h2 := mrg_len n (a :: l) k (by simp; omega)
    have h3 := mrg_len n l k (by omega)
    simp only [List.length_cons] at *
    split
    · rw [List.length_cons]; omega
    · split
      · rw [List.length_cons]; omega
      · rw [List.length_cons]; omega
theorem mrg_mem : ∀ (n : Nat) (l k : List Rat), l.length + k.length ≤ n → ∀ t ∈ mrg l k, t ∈ l ∨ t ∈ k
  | n, [], k, _, t, ht => by rw [mrg_0] at ht; exact .inr ht
  | n, a :: l, [], _, t, ht => by rw [mrg_1] at ht; exact .inl ht
  | 0, a :: l, b :: k, h, t, ht => by simp at h
  | n + 1, a :: l, b :: k, h, t, ht => by
    have h' : l.length + 1 + (k.length + 1) ≤ n + 1 := h
    rw [mrg_2] at ht
    have h1 := mrg_mem n l (b :: k) (by simp; omega) t
    have h2 := mrg_mem n (a :: l) k (by simp; omega) t
    have h3 := mrg_mem n l k (by omega) t
    simp only [List.mem_cons] at *
    split at ht
    · rcases List.mem_cons.mp ht with e | ht
      · exact .inl (.inl e)
      · rcases h1 ht with z | z
        · exact .inl (.inr z)
        · exact .inr z
    · split at ht
      · rcases List.mem_cons.mp ht with e | ht
        · exact .inr (.inl e)
        · rcases h2 ht with z | z
          · exact .inl z
          · exact .inr (.inr z)
      · rcases List.mem_cons.mp ht with e | ht
        · exact .inl (.inl e)
        · rcases h3 ht with z | z
          · exact .inl (.inr z)
          · exact .inr (.inr z)
theorem PL.tl {P : Rat → Rat → Prop} {F : Rat → Rat} {s a b : Rat} {l : List Rat} (h : PL P F s a (b :: l)) : PL P F s b l := by
  cases h with
  | cons m h1 h2 h3 h4 => exact h4
theorem PL.tl_map {P : Rat → Rat → Prop} {F : Rat → Rat} {s a b : Rat} {l l2 : List Rat} (h : PL P F s a (b :: l)) (f : PL P F s b l → PL P F s b l2) : PL P F s a (b :: l2) := by
  cases h with
  | cons m h1 h2 h3 h4 => exact .cons m h1 h2 h3 (f h4)
/-- a time put in -/
theorem PL.ins {P : Rat → Rat → Prop} {F : Rat → Rat} {s a e : Rat} {l : List Rat} (h : PL P F s a l) (h1 : a < e) (h2 : ∀ b l', l = b :: l' → e < b) : PL P F s a (e :: l) := by
  cases h with
  | last k1 k2 =>
    have ee := k1 e (by grind)
    refine .cons s h1 (fun t ht _ => k1 t ht) k2 (.last (fun t ht => ?_) ?_)
    · have := k1 t (by grind)
      grind
    · rw [show F e - s * e = F a - s * a by grind]
      exact k2
  | @cons _ b l m k1 k2 k3 k4 =>
    have hb := h2 b l rfl
    have ee := k2 e (by grind) (by grind)
    refine .cons m h1 (fun t ht ht' => k2 t ht (by grind)) k3 (.cons m hb (fun t ht ht' => ?_) ?_ k4)
    · have := k2 t (by grind) ht'
      grind
    · rw [show F e - m * e = F a - m * a by grind]
      exact k3
theorem PL.refine {P : Rat → Rat → Prop} {F : Rat → Rat} {s : Rat} : ∀ (n : Nat) {a : Rat} {l k : List Rat}, l.length + k.length ≤ n → PL P F s a l → Rise a k → PL P F s a (mrg l k)
  | n, a, l, [], _, h, _ => by rw [mrg_1]; exact h
  | 0, a, l, e :: k, hn, _, _ => by simp at hn
  | n + 1, a, [], e :: k, hn, h, u => by
    have hi := h.ins u.1 (fun b l' z => by cases z)
    rw [mrg_0]
    refine hi.tl_map fun z => ?_
    have := PL.refine n (l := []) (k := k) (by simp at hn ⊢; omega) z u.2
    rw [mrg_0] at this
    exact this
  | n + 1, a, b :: l, e :: k, hn, h, u => by
    have hn' : l.length + 1 + (k.length + 1) ≤ n + 1 := hn
    rw [mrg_2]
    by_cases h1 : b < e
    · rw [if_pos h1]
      exact h.tl_map fun z => PL.refine n (by simp; omega) z ⟨h1, u.2⟩
    · rw [if_neg h1]
      by_cases h2 : e < b
      · rw [if_pos h2]
        have hi := h.ins u.1 (fun b' l' z => by injection z with z1 z2; rw [← z1]; exact h2)
        exact hi.tl_map fun z => PL.refine n (by simp; omega) z u.2
      · have : b = e := by grind
        subst this
        rw [if_neg h2]
        exact h.tl_map fun z => PL.refine n (by omega) z u.2
theorem ups_ge' : ∀ (c : Cn) (r : List Cn) (x : Cn), Ups c r → x ∈ c :: r → ¬ x.1 < c.1
  | c, [], x, u, h => by
    have := List.mem_singleton.mp h
    subst this
    grind
  | c, d :: r, x, u, h => by
    rcases List.mem_cons.mp h with h | h
    · subst h
      grind
    · have := ups_ge' d r x u.2 h
      have := u.1
      grind
theorem val_split (s t : Rat) : ∀ (pre : List Cn) (c : Cn) (r : List Cn) (p : Cn) (rf : List Cn), c :: r = pre ++ p :: rf → Ups c r → p.1 ≤ t → val s t c r = val s t p rf
  | [], c, r, p, rf, h, u, ht => by
    rw [List.nil_append] at h
    injection h with h1 h2
    subst h1 h2
    rfl
  | x :: pre, c, r, p, rf, h, u, ht => by
    rw [List.cons_append] at h
    injection h with h1 h2
    cases r with
    | nil =>
      have := congrArg List.length h2
      simp at this
    | cons d r =>
      have hd : d.1 ≤ p.1 := by
        have hp : p ∈ d :: r := by rw [h2]; simp
        have := ups_ge' d r p u.2 hp
        grind
      show (if t < d.1 then c.2 + slope c d * (t - c.1) else val s t d r) = _
      rw [if_neg (by grind)]
      exact val_split s t pre d r p rf h2 u.2 ht
theorem val_hd {s t : Rat} {p : Cn} {rf : List Cn} (h : ∀ d rf', rf = d :: rf' → t < d.1) : val s t p rf = p.2 + behind p rf s * (t - p.1) := by
  cases rf with
  | nil => rfl
  | cons d rf => exact if_pos (h d rf rfl)
/-- the times of two curves -/
def gtimes (r r' : List Cn) : List Rat := mrg (r.map (·.1)) (r'.map (·.1))
theorem gtimes_len (r r' : List Cn) : (gtimes r r').length ≤ r.length + r'.length := by
  have := mrg_len _ (r.map (·.1)) (r'.map (·.1)) (Nat.le_refl _)
  simp only [List.length_map] at this
  exact this
theorem gtimes_sz {B : Nat} {c c' : Cn} {r r' : List Cn} {s s' : Rat} (hf : Cv B c r s) (hg : Cv B c' r' s') : ∀ t ∈ gtimes r r', Rb t (4 * B + 2) := fun t ht => by
  rcases mrg_mem _ _ _ (Nat.le_refl _) t ht with z | z
  · obtain ⟨d, hd, rfl⟩ := List.mem_map.mp z
    exact (hf.sz d (List.mem_cons_of_mem _ hd)).1
  · obtain ⟨d, hd, rfl⟩ := List.mem_map.mp z
    exact (hg.sz d (List.mem_cons_of_mem _ hd)).1
theorem gtimes_PL {B : Nat} {c c' : Cn} {r r' : List Cn} {s s' : Rat} (hf : Cv B c r s) (hg : Cv B c' r' s') : PL (LB B) (fun t => val s t c r) s 0 (gtimes r r') ∧ PL (LB B) (fun t => val s' t c' r') s' 0 (gtimes r r') := by
  have uf := hf.up.rise
  have ug := hg.up.rise
  rw [hf.c0] at uf
  rw [hg.c0] at ug
  refine ⟨PL.refine _ (Nat.le_refl _) hf.pl ug, ?_⟩
  unfold gtimes
  rw [mrg_comm _ _ _ (Nat.le_refl _)]
  exact PL.refine _ (Nat.le_refl _) hg.pl uf

end Q
namespace Q
open PySem MP FP
/-- a row of the grid -/
abbrev R3 := Rat × Rat × Rat
def dW (w : R3) : Dv := .tup [dR w.1, dR w.2.1, dR w.2.2]
theorem getP_W {w : R3} : getP (some (some (dW w))) = .ok (dW w) := rfl
theorem frz_W {w : R3} : frz (dW w) = dW w := rfl
theorem isL_W {w : R3} : isL (dW w) = false := rfl
theorem inL_W {w : R3} : inL (dW w) = false := rfl
theorem nn_W {w : R3} : isNonP (dW w) = false := rfl
theorem ls_W {n : Nat} {w : R3} : lsF (n + 3) (dW w) = false := rfl
theorem any_W {n : Nat} {xs : List R3} : (xs.map dW).any (lsF (n + 3)) = false := any_f (fun _ => rfl) xs
theorem any_W' {α : Type} {n : Nat} {f : α → R3} {xs : List α} : (xs.map fun t => dW (f t)).any (lsF (n + 3)) = false := any_f (fun _ => rfl) xs
theorem xp_W0 {w : R3} : ixP (dW w) (.int 0) = .ok (dR w.1) := rfl
theorem xp_W1 {w : R3} : ixP (dW w) (.int 1) = .ok (dR w.2.1) := rfl
theorem xp_W2 {w : R3} : ixP (dW w) (.int 2) = .ok (dR w.2.2) := rfl
theorem tupP_W {w : R3} : tupP (dW w) = .ok (dW w) := by
  show (if 3 ≤ LIM then Rv.ok (dW w) else .bad) = _
  rw [if_pos (by decide)]
theorem consP_W {x : Dv} {w : R3} : consP x (dW w) = .ok (.tup [frz x, dR w.1, dR w.2.1, dR w.2.2]) := rfl
theorem onTupP_W {w : R3} {f : List Dv → Rv Dv} : onTupP (dW w) f = f [dR w.1, dR w.2.1, dR w.2.2] := rfl
theorem callP_W {Φ : Str → List Dv → Rv Dv} {f : Str} {w : R3} : callP Φ f (dW w) = Φ f [dR w.1, dR w.2.1, dR w.2.2] := rfl
theorem W_eta {a b c : Rat} : Dv.tup [dR a, dR b, dR c] = dW (a, b, c) := rfl
theorem Cv.cz {B : Nat} {c : Cn} {r : List Cn} {s : Rat} (h : Cv B c r s) (hB : B ≤ 400) : ∀ x ∈ c :: r, Cz x := fun x hx => ⟨(h.sz x hx).1.mono (by omega), (h.sz x hx).2.mono (by omega)⟩
theorem r_along (n B : Nat) (c : Cn) (r : List Cn) (s t : Rat) (h : Cv B c r s) (hB : B ≤ 400) (pre : List Cn) (p : Cn) (rf : List Cn) (hcs : c :: r = pre ++ p :: rf) (ht : Rb t (4 * B + 2)) : runTP T (n + 6) "along" [dF (c :: r) s, .int (pre.length : Int), dR t] = .ok (dR (p.2 + behind p rf s * (t - p.1))) := by
  rw [runTP_succ T_along]
  have cz := h.cz hB
  have eb := r_slope_behind n (c :: r) pre p rf s pre.length rfl hcs cz (fun d r2 e => Ups.at h.up (by rw [hcs, e]))
  have i1 := i_at (cs := c :: r) (k := (pre.length : Int)) hcs rfl
  have mp : p ∈ c :: r := by rw [hcs]; simp
  have z := h.sz p mp
  have b2 : Rb (behind p rf s) B := h.fz.at hcs
  have b1 := ht.sub z.1
  have s0 : Sz t := ht.sz (by omega)
  have s1 : Sz (t - p.1) := b1.sz (by omega)
  have s2 : Sz (behind p rf s) := b2.sz (by omega)
  have s3 : Sz (behind p rf s * (t - p.1)) := (b2.mul b1).sz (by omega)
  have s4 := (cz p mp).s1
  have s5 := (cz p mp).s2
  generalize c :: r = cs at *
  unfold F_along
  simp only [MC_, eb, i1, r_minus, r_times, r_plus, s0, s1, s2, s3, s4, s5]
/-- the grid's row at a time -/
def rowF (F G : Rat → Rat) (t : Rat) : R3 := (t, F t, G t)
/-- a side of the grid -/
structure Side (n : Nat) (cs : List Cn) (s : Rat) (F : Rat → Rat) (ts : List Rat) : Prop where
  lt : ∀ pre p d rf, cs = pre ++ p :: d :: rf → p.1 < d.1
  v : ∀ pre d rf, cs = pre ++ d :: rf → F d.1 = d.2
  al : ∀ pre p rf t, cs = pre ++ p :: rf → t ∈ ts → p.1 ≤ t → (∀ d rf', rf = d :: rf' → t < d.1) → runTP T (n + 6) "along" [dF cs s, .int (pre.length : Int), dR t] = .ok (dR (F t))
  sz : ∀ d ∈ cs, Sz d.1
theorem g_loop (n : Nat) (cs cs' : List Cn) (sf sg : Rat) (F G : Rat → Rat) (hf : Side n cs sf F (cs'.map (·.1))) (hg : Side n cs' sg G (cs.map (·.1))) : ∀ (k : Nat) (rf rg : List Cn), rf.length + rg.length ≤ k → ∀ (p q : Cn) (preF preG : List Cn) (acc : List R3) (e5 : Option Dv), cs = preF ++ p :: rf → cs' = preG ++ q :: rg → (∀ d rf', rf = d :: rf' → q.1 < d.1) → (∀ e rg', rg = e :: rg' → p.1 < e.1) → acc.length + k ≤ 800000 → ∃ e5', whP (runTP T (n + 6)) C_grid_1 B_grid_1 [some (dF cs sf), some (dF cs' sg), some (.own (acc.map dW)), some (.int ((preF.length + 1 : Nat) : Int)), some (.int ((preG.length + 1 : Nat) : Int)), e5] = .nx [some (dF cs sf), some (dF cs' sg), some (.own ((acc ++ (mrg (rf.map (·.1)) (rg.map (·.1))).map (rowF F G)).map dW)), some (.int (cs.length : Int)), some (.int (cs'.length : Int)), e5'] := by
  intro k
  induction k with
  | zero =>
    intro rf rg hk p q preF preG acc e5 h1 h2 _ _ _
    have z1 : rf = [] := List.length_eq_zero_iff.mp (by omega)
    have z2 : rg = [] := List.length_eq_zero_iff.mp (by omega)
    subst z1 z2
    refine ⟨e5, ?_⟩
    have l1 : cs.length = preF.length + 1 := by rw [h1]; simp
    have l2 : cs'.length = preG.length + 1 := by rw [h2]; simp
    rw [List.map_nil, mrg_0, List.map_nil, List.append_nil, ← l1, ← l2]
    refine wh_end ?_
    simp only [MC_, VC_grid_1, List.length_map, Int.lt_irrefl]
  | succ k ih =>
    intro rf rg hk p q preF preG acc e5 h1 h2 hq hp hl
    have l1 : cs.length = preF.length + 1 + rf.length := by rw [h1]; simp; omega
    have l2 : cs'.length = preG.length + 1 + rg.length := by rw [h2]; simp; omega
    have hlim : acc.length < LIM := by unfold LIM; omega
    have e1 : ((preF.length + 1 : Nat) : Int) - 1 = (preF.length : Int) := by omega
    have e2 : ((preG.length + 1 : Nat) : Int) - 1 = (preG.length : Int) := by omega
    have eF : ∀ d : Cn, (((preF ++ [d]).length + 1 : Nat) : Int) = ((preF.length + 1 : Nat) : Int) + 1 := fun d => by simp
    have eG : ∀ d : Cn, (((preG ++ [d]).length + 1 : Nat) : Int) = ((preG.length + 1 : Nat) : Int) + 1 := fun d => by simp
    -- a corner of the first alone
    have stepF : ∀ d rf', rf = d :: rf' → (∀ e rg', rg = e :: rg' → d.1 < e.1) → mrg (rf.map (·.1)) (rg.map (·.1)) = d.1 :: mrg (rf'.map (·.1)) (rg.map (·.1)) → ∃ e5', whP (runTP T (n + 6)) C_grid_1 B_grid_1 [some (dF cs sf), some (dF cs' sg), some (.own (acc.map dW)), some (.int ((preF.length + 1 : Nat) : Int)), some (.int ((preG.length + 1 : Nat) : Int)), e5] = .nx [some (dF cs sf), some (dF cs' sg), some (.own ((acc ++ (mrg (rf.map (·.1)) (rg.map (·.1))).map (rowF F G)).map dW)), some (.int (cs.length : Int)), some (.int (cs'.length : Int)), e5'] := by
      intro d rf' hrf nx hm
      rw [hm]
      subst hrf
      have c1 : cs = (preF ++ [p]) ++ d :: rf' := by rw [h1]; simp
      have md : d ∈ cs := by rw [h1]; simp
      have hqd := hq d rf' rfl
      have vF := hf.v _ _ _ c1
      have ha := hg.al preG q rg d.1 h2 (List.mem_map.mpr ⟨d, md, rfl⟩) (by grind) nx
      obtain ⟨e5', hr⟩ := ih rf' rg (by simp at hk; omega) d q (preF ++ [p]) preG (acc ++ [rowF F G d.1]) (some (dC d)) c1 h2 (fun d2 rf2 z => by have := hf.lt (preF ++ [p]) d d2 rf2 (by rw [c1, z]); grind) nx (by simp; omega)
      refine ⟨e5', ?_⟩
      rw [eF, List.append_assoc] at hr
      rw [List.map_cons]
      have i1 := i_at (cs := cs) (k := ((preF.length + 1 : Nat) : Int)) c1 (by simp)
      have sd := hf.sz d md
      have er : dW (rowF F G d.1) = dW (d.1, d.2, G d.1) := by unfold rowF; rw [vF]
      have y1 : ((preF.length + 1 : Nat) : Int) < (cs.length : Int) := by simp at l1; omega
      refine wh_go (by simp only [MC_, VC_grid_1, List.length_map, y1]) ?_ hr (fun z => by cases z)
      rw [List.map_append, List.map_cons, List.map_nil, er]
      cases hrg : rg with
      | nil =>
        subst hrg
        have y2 : ((preG.length + 1 : Nat) : Int) = (cs'.length : Int) := by simp at l2; omega
        simp only [MW_, VB_grid_1, List.length_map, y2, i1]
        rw [← y2]
        simp only [MW_, e2, ha, hlim, List.length_map]
      | cons e rg' =>
        subst hrg
        have hde := nx e rg' rfl
        have i2 := i_at (cs := cs') (pre := preG ++ [q]) (c := e) (r := rg') (k := ((preG.length + 1 : Nat) : Int)) (by rw [h2]; simp) (by simp)
        have se := hg.sz e (by rw [h2]; simp)
        have y2 : ¬ ((preG.length + 1 : Nat) : Int) = (cs'.length : Int) := by simp at l2; omega
        have hu := r_under (n + 5) d.1 e.1 sd se
        simp only [MW_, VB_grid_1, List.length_map, y1, y2, i1, i2, hu, hde, e2, ha, hlim]
    -- a corner of the second alone
    have stepG : ∀ e rg', rg = e :: rg' → (∀ d rf', rf = d :: rf' → e.1 < d.1) → mrg (rf.map (·.1)) (rg.map (·.1)) = e.1 :: mrg (rf.map (·.1)) (rg'.map (·.1)) → ∃ e5', whP (runTP T (n + 6)) C_grid_1 B_grid_1 [some (dF cs sf), some (dF cs' sg), some (.own (acc.map dW)), some (.int ((preF.length + 1 : Nat) : Int)), some (.int ((preG.length + 1 : Nat) : Int)), e5] = .nx [some (dF cs sf), some (dF cs' sg), some (.own ((acc ++ (mrg (rf.map (·.1)) (rg.map (·.1))).map (rowF F G)).map dW)), some (.int (cs.length : Int)), some (.int (cs'.length : Int)), e5'] := by
      intro e rg' hrg nx hm
      rw [hm]
      subst hrg
      have c1 : cs' = (preG ++ [q]) ++ e :: rg' := by rw [h2]; simp
      have me : e ∈ cs' := by rw [h2]; simp
      have hpe := hp e rg' rfl
      have vG := hg.v _ _ _ c1
      have ha := hf.al preF p rf e.1 h1 (List.mem_map.mpr ⟨e, me, rfl⟩) (by grind) nx
      obtain ⟨e5', hr⟩ := ih rf rg' (by simp at hk; omega) p e preF (preG ++ [q]) (acc ++ [rowF F G e.1]) (some (dC e)) h1 c1 nx (fun d2 rf2 z => by have := hg.lt (preG ++ [q]) e d2 rf2 (by rw [c1, z]); grind) (by simp; omega)
      refine ⟨e5', ?_⟩
      rw [eG, List.append_assoc] at hr
      rw [List.map_cons]
      have i1 := i_at (cs := cs') (k := ((preG.length + 1 : Nat) : Int)) c1 (by simp)
      have se := hg.sz e me
      have er : dW (rowF F G e.1) = dW (e.1, F e.1, e.2) := by unfold rowF; rw [vG]
      have y1 : ((preG.length + 1 : Nat) : Int) < (cs'.length : Int) := by simp at l2; omega
      have y0 : ¬ ((preG.length + 1 : Nat) : Int) = (cs'.length : Int) := by omega
      rw [List.map_append, List.map_cons, List.map_nil, er] at hr
      cases hrf : rf with
      | nil =>
        subst hrf
        have y2 : ((preF.length + 1 : Nat) : Int) = (cs.length : Int) := by simp at l1; omega
        have y3 : ¬ ((preF.length + 1 : Nat) : Int) < (cs.length : Int) := by omega
        refine wh_go (by simp only [MC_, VC_grid_1, List.length_map, y1, y3]) ?_ hr (fun z => by cases z)
        simp only [MW_, VB_grid_1, List.length_map, y0, y2, i1, Int.lt_irrefl]
        rw [← y2]
        simp only [MW_, e1, ha, hlim, List.length_map]
      | cons d rf' =>
        subst hrf
        have hde := nx d rf' rfl
        have i2 := i_at (cs := cs) (pre := preF ++ [p]) (c := d) (r := rf') (k := ((preF.length + 1 : Nat) : Int)) (by rw [h1]; simp) (by simp)
        have sd := hf.sz d (by rw [h1]; simp)
        have y2 : ¬ ((preF.length + 1 : Nat) : Int) = (cs.length : Int) := by simp at l1; omega
        have y3 : ((preF.length + 1 : Nat) : Int) < (cs.length : Int) := by simp at l1; omega
        have hu := r_under (n + 5) e.1 d.1 se sd
        have hu2 := r_under (n + 5) d.1 e.1 sd se
        have hno : ¬ d.1 < e.1 := by grind
        refine wh_go (by simp only [MC_, VC_grid_1, List.length_map, y3]) ?_ hr (fun z => by cases z)
        simp only [MW_, VB_grid_1, List.length_map, y0, y1, y2, y3, i1, i2, hu, hu2, hde, hno, e1, ha, hlim]
    cases hrf : rf with
    | nil =>
      cases hrg : rg with
      | nil => subst hrf hrg; exact ih [] [] (by simp) p q preF preG acc e5 h1 h2 hq hp (by omega)
      | cons e rg' => exact hrf ▸ hrg ▸ stepG e rg' hrg (fun d rf' z => by rw [hrf] at z; cases z) (by rw [hrf, hrg]; simp [mrg_0])
    | cons d rf' =>
      cases hrg : rg with
      | nil => exact hrf ▸ hrg ▸ stepF d rf' hrf (fun e rg' z => by rw [hrg] at z; cases z) (by rw [hrf, hrg]; simp [mrg_1])
      | cons e rg' =>
        by_cases h : d.1 < e.1
        · exact hrf ▸ hrg ▸ stepF d rf' hrf (fun e2 rg2 z => by rw [hrg] at z; injection z with z1 z2; rw [← z1]; exact h) (by rw [hrf, hrg, List.map_cons, List.map_cons, mrg_2, if_pos h])
        · by_cases h' : e.1 < d.1
          · exact hrf ▸ hrg ▸ stepG e rg' hrg (fun e2 rg2 z => by rw [hrf] at z; injection z with z1 z2; rw [← z1]; exact h') (by rw [hrf, hrg, List.map_cons, List.map_cons, mrg_2, if_neg h, if_pos h'])
          · have he : d.1 = e.1 := by grind
            subst hrf hrg
            have c1 : cs = (preF ++ [p]) ++ d :: rf' := by rw [h1]; simp
            have c2 : cs' = (preG ++ [q]) ++ e :: rg' := by rw [h2]; simp
            have vF := hf.v _ _ _ c1
            have vG := hg.v _ _ _ c2
            have sd := hf.sz d (by rw [c1]; simp)
            have se := hg.sz e (by rw [c2]; simp)
            have i1 := i_at (cs := cs) (k := ((preF.length + 1 : Nat) : Int)) c1 (by simp)
            have i2 := i_at (cs := cs') (k := ((preG.length + 1 : Nat) : Int)) c2 (by simp)
            have hu1 := r_under (n + 5) d.1 e.1 sd se
            have hu2 := r_under (n + 5) e.1 d.1 se sd
            have y1 : ((preF.length + 1 : Nat) : Int) < (cs.length : Int) := by simp at l1; omega
            have y2 : ((preG.length + 1 : Nat) : Int) < (cs'.length : Int) := by simp at l2; omega
            have y3 : ¬ ((preF.length + 1 : Nat) : Int) = (cs.length : Int) := by omega
            have y4 : ¬ ((preG.length + 1 : Nat) : Int) = (cs'.length : Int) := by omega
            have er : dW (rowF F G d.1) = dW (d.1, d.2, e.2) := by unfold rowF; rw [vF, he, vG]
            obtain ⟨e5', hr⟩ := ih rf' rg' (by simp at hk; omega) d e (preF ++ [p]) (preG ++ [q]) (acc ++ [rowF F G d.1]) e5 c1 c2 (fun d2 rf2 z => by have := hf.lt (preF ++ [p]) d d2 rf2 (by rw [c1, z]); grind) (fun d2 rf2 z => by have := hg.lt (preG ++ [q]) e d2 rf2 (by rw [c2, z]); grind) (by simp; omega)
            refine ⟨e5', ?_⟩
            rw [eF, eG, List.append_assoc] at hr
            rw [List.map_cons, List.map_cons, mrg_2, if_neg h, if_neg h', List.map_cons]
            refine wh_go (by simp only [MC_, VC_grid_1, List.length_map, y1]) ?_ hr (fun z => by cases z)
            rw [List.map_append, List.map_cons, List.map_nil, er]
            simp only [MW_, VB_grid_1, List.length_map, y1, y2, y3, y4, i1, i2, hu1, hu2, h, h', hlim]
/-- a curve as a side -/
theorem Cv.side {B : Nat} {c : Cn} {r : List Cn} {s : Rat} (h : Cv B c r s) (hB : B ≤ 400) (n : Nat) (ts : List Rat) (hts : ∀ t ∈ ts, Rb t (4 * B + 2)) : Side n (c :: r) s (fun t => val s t c r) ts := by
  refine ⟨fun pre p d rf e => Ups.at h.up e, fun pre d rf e => ?_, fun pre p rf t e ht h1 h2 => ?_, fun d hd => (h.cz hB d hd).s1⟩
  · show val s d.1 c r = d.2
    rw [val_split s d.1 pre c r d rf e h.up Rat.le_refl]
    rw [val_hd (fun d' rf' z => Ups.at (pre := pre) h.up (by rw [e, z]))]
    grind
  · show _ = Rv.ok (dR (val s t c r))
    rw [val_split s t pre c r p rf e h.up h1, val_hd h2]
    exact r_along n B c r s t h hB pre p rf e (hts t ht)
theorem r_grid (n B : Nat) (hB : B ≤ 400) (c : Cn) (r : List Cn) (s : Rat) (c' : Cn) (r' : List Cn) (s' : Rat) (hf : Cv B c r s) (hg : Cv B c' r' s') (hl : r.length + r'.length ≤ 400000) : runTP T (n + 7) "grid" [dF (c :: r) s, dF (c' :: r') s'] = .ok (.own ((0 :: gtimes r r').map (fun t => dW (rowF (fun t => val s t c r) (fun t => val s' t c' r') t)))) := by
  rw [runTP_succ T_grid]
  have sf := hf.side hB n ((c' :: r').map (·.1)) (fun t ht => by
    obtain ⟨d, hd, rfl⟩ := List.mem_map.mp ht
    exact (hg.sz d hd).1)
  have sg := hg.side hB n ((c :: r).map (·.1)) (fun t ht => by
    obtain ⟨d, hd, rfl⟩ := List.mem_map.mp ht
    exact (hf.sz d hd).1)
  obtain ⟨e5, hw⟩ := g_loop n (c :: r) (c' :: r') s s' _ _ sf sg (r.length + r'.length) r r' (Nat.le_refl _) c c' [] [] [rowF (fun t => val s t c r) (fun t => val s' t c' r') 0] none rfl rfl (fun d rf e => by rw [hg.c0, ← hf.c0]; exact Ups.at (pre := []) hf.up (by rw [e]; rfl)) (fun d rf e => by rw [hf.c0, ← hg.c0]; exact Ups.at (pre := []) hg.up (by rw [e]; rfl)) (by simp; omega)
  have s1 := sf.sz c List.mem_cons_self
  have s2 := sg.sz c' List.mem_cons_self
  have u1 := r_under (n + 5) c.1 c'.1 s1 s2
  have u2 := r_under (n + 5) c'.1 c.1 s2 s1
  rw [hf.c0, hg.c0] at u1 u2
  have z : decide ((0 : Rat) < 0) = false := by decide
  rw [z] at u1 u2
  have i1 : L2.atI ((c :: r).map dC) 0 = some (dC c) := at_0
  have i2 : L2.atI ((c' :: r').map dC) 0 = some (dC c') := at_0
  have v1 : val s 0 c r = c.2 := by have := val_start s c r hf.up; rw [hf.c0] at this; exact this
  have v2 : val s' 0 c' r' = c'.2 := by have := val_start s' c' r' hg.up; rw [hg.c0] at this; exact this
  have er : dW (rowF (fun t => val s t c r) (fun t => val s' t c' r') 0) = dW (0, c.2, c'.2) := by show dW (0, val s 0 c r, val s' 0 c' r') = _; rw [v1, v2]
  have l1 : ¬ (0 : Int) = ((c :: r).length : Int) := by simp; omega
  have l2 : ¬ (0 : Int) = ((c' :: r').length : Int) := by simp; omega
  have l3 : (0 : Int) < ((c :: r).length : Int) := by rw [List.length_cons]; omega
  have z0 : c.1 = 0 := hf.c0
  have e1 : (([] : List Cn).length + 1 : Nat) = (1 : Int) := rfl
  rw [e1, List.map_cons, List.map_nil, er, List.map_append, List.map_cons, List.map_nil, er] at hw
  rw [List.map_cons, er]
  have em : ((gtimes r r').map (fun t => dW (rowF (fun t => val s t c r) (fun t => val s' t c' r') t))) = ((mrg (r.map (·.1)) (r'.map (·.1))).map (rowF (fun t => val s t c r) (fun t => val s' t c' r'))).map dW := by rw [List.map_map]; rfl
  rw [em]
  generalize ((mrg (r.map (·.1)) (r'.map (·.1))).map (rowF (fun t => val s t c r) (fun t => val s' t c' r'))).map dW = rest at *
  generalize c :: r = cs at *
  generalize c' :: r' = cs' at *
  have hw0 : whP (runTP T (n + 6)) C_grid_1 B_grid_1 [some (dF cs s), some (dF cs' s'), some (.own []), some (.int 0), some (.int 0), none] = _ := wh_go (by simp only [MC_, VC_grid_1, List.length_map, l3]) (by simp only [MW_, VB_grid_1, List.length_map, l1, l2, l3, i1, i2, z0, hf.c0, hg.c0, u1, u2, Int.zero_add]) hw (fun z => by cases z)
  unfold F_grid
  simp only [MW_, hw0]
  try rfl

end Q
namespace Q
open PySem MP FP
def ch (hi : Bool) (p q : Rat) : Rat := if hi then (if p < q then q else p) else (if q < p then q else p)
theorem mul_neg' {x y : Rat} (hx : 0 < x) (hy : y < 0) : x * y < 0 := by
  have := lin_lt hx hy
  grind
theorem sign_cases {x y : Rat} (h : ¬ x * y < 0) : (x ≤ 0 ∧ y ≤ 0) ∨ (0 ≤ x ∧ 0 ≤ y) := by
  by_cases h1 : 0 < x
  · by_cases h2 : y < 0
    · exact absurd (mul_neg' h1 h2) h
    · exact .inr ⟨by grind, by grind⟩
  · by_cases h2 : 0 < y
    · by_cases h3 : x < 0
      · have := mul_neg' h2 h3
        exact absurd (by grind) h
      · exact .inr ⟨by grind, by grind⟩
    · exact .inl ⟨by grind, by grind⟩
theorem ch_le {hi : Bool} {x y : Rat} (h : x ≤ y) : ch hi x y = if hi then y else x := by
  unfold ch
  cases hi <;> grind
theorem ch_ge {hi : Bool} {x y : Rat} (h : y ≤ x) : ch hi x y = if hi then x else y := by
  unfold ch
  cases hi <;> grind
theorem piece_ch (hi : Bool) {P : Rat → Rat → Prop} {F G : Rat → Rat} {a b m k : Rat} (hab : a < b) (hF : ∀ t, a ≤ t → t ≤ b → F t = F a + m * (t - a)) (hG : ∀ t, a ≤ t → t ≤ b → G t = G a + k * (t - a)) (pF : P m (F a - m * a)) (pG : P k (G a - k * a)) (hs : ¬ (F a - G a) * (F b - G b) < 0) : ∃ j, (∀ t, a ≤ t → t ≤ b → ch hi (F t) (G t) = ch hi (F a) (G a) + j * (t - a)) ∧ P j (ch hi (F a) (G a) - j * a) := by
  have hb1 := hF b (by grind) Rat.le_refl
  have hb2 := hG b (by grind) Rat.le_refl
  have key : ∀ t, a ≤ t → t ≤ b → (b - a) * (F t - G t) = (b - t) * (F a - G a) + (t - a) * (F b - G b) := fun t h1 h2 => by
    rw [hF t h1 h2, hG t h1 h2, hb1, hb2]
    grind
  rcases sign_cases hs with ⟨h1, h2⟩ | ⟨h1, h2⟩
  · have le : ∀ t, a ≤ t → t ≤ b → F t ≤ G t := fun t t1 t2 => by
      have e := key t t1 t2
      have e1 := lin_le (m := b - t) (by grind) h1
      have e2 := lin_le (m := t - a) (by grind) h2
      have := le_of_lin (m := b - a) (a := F t - G t) (b := 0) (by grind) (by grind)
      grind
    have ea := le a Rat.le_refl (by grind)
    cases hi with
    | false => exact ⟨m, fun t t1 t2 => by rw [ch_le (le t t1 t2), ch_le ea]; exact hF t t1 t2, by rw [ch_le ea]; exact pF⟩
    | true => exact ⟨k, fun t t1 t2 => by rw [ch_le (le t t1 t2), ch_le ea]; exact hG t t1 t2, by rw [ch_le ea]; exact pG⟩
  · have le : ∀ t, a ≤ t → t ≤ b → G t ≤ F t := fun t t1 t2 => by
      have e := key t t1 t2
      have e1 := lin_le (m := b - t) (by grind) h1
      have e2 := lin_le (m := t - a) (by grind) h2
      have := le_of_lin (m := b - a) (a := 0) (b := F t - G t) (by grind) (by grind)
      grind
    have ea := le a Rat.le_refl (by grind)
    cases hi with
    | false => exact ⟨k, fun t t1 t2 => by rw [ch_ge (le t t1 t2), ch_ge ea]; exact hG t t1 t2, by rw [ch_ge ea]; exact pG⟩
    | true => exact ⟨m, fun t t1 t2 => by rw [ch_ge (le t t1 t2), ch_ge ea]; exact hF t t1 t2, by rw [ch_ge ea]; exact pF⟩
theorem tail_ch (hi : Bool) {P : Rat → Rat → Prop} {F G : Rat → Rat} {a sf sg : Rat} (hF : ∀ t, a ≤ t → F t = F a + sf * (t - a)) (hG : ∀ t, a ≤ t → G t = G a + sg * (t - a)) (pF : P sf (F a - sf * a)) (pG : P sg (G a - sg * a)) (hs : ¬ 0 < (F a - G a) * (sg - sf)) : PL P (fun t => ch hi (F t) (G t)) (ch hi (F a + sf) (G a + sg) - ch hi (F a) (G a)) a [] := by
  have hs' : ¬ (F a - G a) * (sf - sg) < 0 := by grind
  rcases sign_cases hs' with ⟨h1, h2⟩ | ⟨h1, h2⟩
  · have le : ∀ t, a ≤ t → F t ≤ G t := fun t t1 => by
      have e2 := lin_le (m := t - a) (by grind) h2
      rw [hF t t1, hG t t1]
      grind
    have ea := le a Rat.le_refl
    have e1 : F a + sf ≤ G a + sg := by grind
    rw [ch_le e1, ch_le ea]
    cases hi with
    | false =>
      have z : F a + sf - F a = sf := by grind
      simp only [Bool.false_eq_true, if_false, z]
      refine .last (fun t t1 => ?_) ?_
      · show ch false (F t) (G t) = ch false (F a) (G a) + sf * (t - a)
        rw [ch_le (le t t1), ch_le ea]; exact hF t t1
      · show P sf (ch false (F a) (G a) - sf * a)
        rw [ch_le ea]; exact pF
    | true =>
      have z : G a + sg - G a = sg := by grind
      simp only [if_true, z]
      refine .last (fun t t1 => ?_) ?_
      · show ch true (F t) (G t) = ch true (F a) (G a) + sg * (t - a)
        rw [ch_le (le t t1), ch_le ea]; exact hG t t1
      · show P sg (ch true (F a) (G a) - sg * a)
        rw [ch_le ea]; exact pG
  · have le : ∀ t, a ≤ t → G t ≤ F t := fun t t1 => by
      have e2 := lin_le (m := t - a) (by grind) h2
      rw [hF t t1, hG t t1]
      grind
    have ea := le a Rat.le_refl
    have e1 : G a + sg ≤ F a + sf := by grind
    rw [ch_ge e1, ch_ge ea]
    cases hi with
    | false =>
      have z : G a + sg - G a = sg := by grind
      simp only [Bool.false_eq_true, if_false, z]
      refine .last (fun t t1 => ?_) ?_
      · show ch false (F t) (G t) = ch false (F a) (G a) + sg * (t - a)
        rw [ch_ge (le t t1), ch_ge ea]; exact hG t t1
      · show P sg (ch false (F a) (G a) - sg * a)
        rw [ch_ge ea]; exact pG
    | true =>
      have z : F a + sf - F a = sf := by grind
      simp only [if_true, z]
      refine .last (fun t t1 => ?_) ?_
      · show ch true (F t) (G t) = ch true (F a) (G a) + sf * (t - a)
        rw [ch_ge (le t t1), ch_ge ea]; exact hF t t1
      · show P sf (ch true (F a) (G a) - sf * a)
        rw [ch_ge ea]; exact pF
/-- the times with those at which both cross -/
def ins (F G : Rat → Rat) (sf sg : Rat) : Rat → List Rat → List Rat
  | a, [] => if 0 < (F a - G a) * (sg - sf) then [a + (F a - G a) / (sg - sf)] else []
  | a, b :: l => if (F a - G a) * (F b - G b) < 0 then (a + (F a - G a) / ((F a - G a) - (F b - G b)) * (b - a)) :: b :: ins F G sf sg b l else b :: ins F G sf sg b l
def lastT : Rat → List Rat → Rat
  | a, [] => a
  | _, b :: l => lastT b l
theorem ins_len (F G : Rat → Rat) (sf sg : Rat) : ∀ (a : Rat) (l : List Rat), (ins F G sf sg a l).length ≤ 2 * l.length + 1
  | a, [] => by
    unfold ins
    split <;> simp
  | a, b :: l => by
    have := ins_len F G sf sg b l
    unfold ins
    split <;> simp <;> omega
/-- where two lines that part meet behind -/
theorem met_tail {F G : Rat → Rat} {a sf sg : Rat} (hF : ∀ t, a ≤ t → F t = F a + sf * (t - a)) (hG : ∀ t, a ≤ t → G t = G a + sg * (t - a)) (h : 0 < (F a - G a) * (sg - sf)) : a < a + (F a - G a) / (sg - sf) ∧ F (a + (F a - G a) / (sg - sf)) = G (a + (F a - G a) / (sg - sf)) ∧ sg - sf ≠ 0 := by
  have hne : sg - sf ≠ 0 := by
    intro z
    rw [z] at h
    grind
  have e : (F a - G a) / (sg - sf) * (sg - sf) = F a - G a := Rat.div_mul_cancel hne
  obtain ⟨y, hy⟩ : ∃ y, y = (F a - G a) / (sg - sf) := ⟨_, rfl⟩
  rw [← hy] at e ⊢
  have h' : 0 < y * ((sg - sf) * (sg - sf)) := by
    rw [← Rat.mul_assoc, e]
    exact h
  have hp : 0 < y := by
    have sq : 0 < (sg - sf) * (sg - sf) := by
      by_cases z : 0 < sg - sf
      · exact Rat.mul_pos z z
      · have := Rat.mul_pos (show 0 < -(sg - sf) by grind) (show 0 < -(sg - sf) by grind)
        grind
    exact lt_of_lin sq (by grind)
  refine ⟨by grind, ?_, hne⟩
  rw [hF _ (by grind), hG _ (by grind)]
  grind
/-- where two lines meet between -/
theorem met_mid {F G : Rat → Rat} {a b m k : Rat} (hab : a < b) (hF : ∀ t, a ≤ t → t ≤ b → F t = F a + m * (t - a)) (hG : ∀ t, a ≤ t → t ≤ b → G t = G a + k * (t - a)) (h : (F a - G a) * (F b - G b) < 0) : a < a + (F a - G a) / ((F a - G a) - (F b - G b)) * (b - a) ∧ a + (F a - G a) / ((F a - G a) - (F b - G b)) * (b - a) < b ∧ F (a + (F a - G a) / ((F a - G a) - (F b - G b)) * (b - a)) = G (a + (F a - G a) / ((F a - G a) - (F b - G b)) * (b - a)) ∧ (F a - G a) - (F b - G b) ≠ 0 ∧ m - k ≠ 0 := by
  have hb1 := hF b (by grind) Rat.le_refl
  have hb2 := hG b (by grind) Rat.le_refl
  obtain ⟨u, hu⟩ : ∃ u, u = F a - G a := ⟨_, rfl⟩
  obtain ⟨v, hv⟩ : ∃ v, v = F b - G b := ⟨_, rfl⟩
  rw [← hu, ← hv] at h ⊢
  have hne : u - v ≠ 0 := by
    intro z
    have : u = v := by grind
    rw [this] at h
    by_cases z : 0 < v
    · have := Rat.mul_pos z z
      grind
    · by_cases z2 : v < 0
      · have := Rat.mul_pos (show 0 < -v by grind) (show 0 < -v by grind)
        grind
      · have : v = 0 := by grind
        rw [this] at h
        grind
  have e : u / (u - v) * (u - v) = u := Rat.div_mul_cancel hne
  obtain ⟨y, hy⟩ : ∃ y, y = u / (u - v) := ⟨_, rfl⟩
  rw [← hy] at e ⊢
  have hy01 : 0 < y ∧ y < 1 := by
    by_cases z : 0 < u
    · have hv0 : v < 0 := by
        by_cases z2 : v < 0
        · exact z2
        · have := lin_le (m := u) (a := 0) (b := v) (by grind) (by grind)
          grind
      exact ⟨lt_of_lin (m := u - v) (by grind) (by grind), lt_of_lin (m := u - v) (by grind) (by grind)⟩
    · have hu0 : u < 0 := by
        by_cases z2 : u = 0
        · rw [z2] at h
          grind
        · grind
      have hv0 : 0 < v := by
        by_cases z2 : 0 < v
        · exact z2
        · have := lin_le (m := -u) (a := v) (b := 0) (by grind) (by grind)
          grind
      exact ⟨lt_of_lin (m := v - u) (by grind) (by grind), lt_of_lin (m := v - u) (by grind) (by grind)⟩
  have p1 := Rat.mul_pos hy01.1 (show 0 < b - a by grind)
  have p2 := Rat.mul_pos (show 0 < 1 - y by grind) (show 0 < b - a by grind)
  have hmk : (m - k) * (b - a) = v - u := by grind
  refine ⟨by grind, by grind, ?_, hne, fun z => hne (by rw [z] at hmk; grind)⟩
  rw [hF _ (by grind) (by grind), hG _ (by grind) (by grind)]
  have : F a - G a + (m - k) * (y * (b - a)) = 0 := by
    have : (m - k) * (y * (b - a)) = y * (v - u) := by rw [← hmk]; grind
    grind
  grind
theorem ins_PL (hi : Bool) {P : Rat → Rat → Prop} {F G : Rat → Rat} {sf sg a : Rat} {l : List Rat} (hF : PL P F sf a l) : PL P G sg a l → PL P F sf a (ins F G sf sg a l) ∧ PL P G sg a (ins F G sf sg a l) ∧ PL P (fun t => ch hi (F t) (G t)) (ch hi (F (lastT a (ins F G sf sg a l)) + sf) (G (lastT a (ins F G sf sg a l)) + sg) - ch hi (F (lastT a (ins F G sf sg a l))) (G (lastT a (ins F G sf sg a l)))) a (ins F G sf sg a l) := by
  induction hF with
  | @last a f1 f2 =>
    intro hG
    have f0 : PL P F sf a [] := .last f1 f2
    cases hG with
    | last g1 g2 =>
      have g0 : PL P G sg a [] := .last g1 g2
      unfold ins
      by_cases h : 0 < (F a - G a) * (sg - sf)
      · rw [if_pos h]
        obtain ⟨h1, h2, h3⟩ := met_tail f1 g1 h
        generalize a + (F a - G a) / (sg - sf) = x at *
        have f' := f0.ins h1 (fun b l' z => by cases z)
        have g' := g0.ins h1 (fun b l' z => by cases z)
        refine ⟨f', g', ?_⟩
        have d0 : F x - G x = 0 := by grind
        obtain ⟨j, j1, j2⟩ := piece_ch hi h1 (fun t t1 t2 => f1 t t1) (fun t t1 t2 => g1 t t1) f2 g2 (by rw [d0]; grind)
        refine .cons j h1 j1 j2 ?_
        have ft := f'.tl
        have gt := g'.tl
        cases ft with
        | last k1 k2 =>
          cases gt with
          | last k3 k4 => exact tail_ch hi k1 k3 k2 k4 (by show ¬ 0 < (F x - G x) * (sg - sf); rw [d0]; grind)
      · rw [if_neg h]
        exact ⟨f0, g0, tail_ch hi f1 g1 f2 g2 h⟩
  | @cons a b l m h1 h2 h3 h4 ih =>
    intro hG
    cases hG with
    | cons k g1 g2 g3 g4 =>
      obtain ⟨i1, i2, i3⟩ := ih g4
      have f0 : PL P F sf a (b :: l) := .cons m h1 h2 h3 h4
      have g0 : PL P G sg a (b :: l) := .cons k g1 g2 g3 g4
      unfold ins
      by_cases h : (F a - G a) * (F b - G b) < 0
      · rw [if_pos h]
        obtain ⟨x1, x2, x3, _, _⟩ := met_mid h1 h2 g2 h
        generalize a + (F a - G a) / ((F a - G a) - (F b - G b)) * (b - a) = x at *
        have d0 : F x - G x = 0 := by grind
        have hx : ∀ b' l', b :: l = b' :: l' → x < b' := fun b' l' z => by injection z with z1 z2; rw [← z1]; exact x2
        have f' := (f0.ins x1 hx).tl_map (fun z => z.tl_map fun _ => i1)
        have g' := (g0.ins x1 hx).tl_map (fun z => z.tl_map fun _ => i2)
        refine ⟨f', g', ?_⟩
        obtain ⟨j, j1, j2⟩ := piece_ch hi x1 (fun t t1 t2 => h2 t t1 (by grind)) (fun t t1 t2 => g2 t t1 (by grind)) h3 g3 (by rw [d0]; grind)
        refine .cons j x1 j1 j2 ?_
        have ft := f'.tl
        have gt := g'.tl
        cases ft with
        | cons m' k1 k2 k3 k4 =>
          cases gt with
          | cons k' k5 k6 k7 k8 =>
            obtain ⟨j', j3, j4⟩ := piece_ch hi x2 k2 k6 k3 k7 (by rw [d0]; grind)
            exact .cons j' x2 j3 j4 i3
      · rw [if_neg h]
        obtain ⟨j, j1, j2⟩ := piece_ch hi h1 h2 g2 h3 g3 h
        exact ⟨.cons m h1 h2 h3 i1, .cons k h1 g2 g3 i2, .cons j h1 j1 j2 i3⟩
theorem PL.at_line {P : Rat → Rat → Prop} {F : Rat → Rat} {s a : Rat} {l : List Rat} (h : PL P F s a l) : ∀ t ∈ a :: l, ∃ m, P m (F t - m * t) := by
  induction h with
  | @last a h1 h2 =>
    intro t ht
    rw [List.mem_singleton.mp ht]
    exact ⟨s, h2⟩
  | @cons a b l m h1 h2 h3 h4 ih =>
    intro t ht
    rcases List.mem_cons.mp ht with e | ht
    · rw [e]
      exact ⟨m, h3⟩
    · exact ih t ht
theorem PL.val_sz {B T : Nat} {F : Rat → Rat} {s a : Rat} {l : List Rat} (h : PL (LB B) F s a l) (t : Rat) (ht : t ∈ a :: l) (hT : Rb t T) : Rb (F t) (B + T + B + 1) := by
  obtain ⟨m, h1, h2⟩ := h.at_line t ht
  have e : F t = m * t + (F t - m * t) := by grind
  rw [e]
  exact ((h1.mul hT).add h2).mono (by omega)
theorem meet_sz {B : Nat} {F G : Rat → Rat} {a m k x : Rat} (hF : F x = F a + m * (x - a)) (hG : G x = G a + k * (x - a)) (pF : LB B m (F a - m * a)) (pG : LB B k (G a - k * a)) (e : F x = G x) (h : m - k ≠ 0) : Rb x (4 * B + 2) := by
  have : x = ((G a - k * a) - (F a - m * a)) / (m - k) := (quo_of h (by grind)).symm
  rw [this]
  exact ((pG.2.sub pF.2).quo (pF.1.sub pG.1) h).mono (by omega)
theorem ins_sz {B : Nat} {F G : Rat → Rat} {sf sg a : Rat} {l : List Rat} (hF : PL (LB B) F sf a l) : PL (LB B) G sg a l → (∀ t ∈ l, Rb t (4 * B + 2)) → ∀ t ∈ ins F G sf sg a l, Rb t (4 * B + 2) := by
  induction hF with
  | @last a f1 f2 =>
    intro hG hl t ht
    cases hG with
    | last g1 g2 =>
      unfold ins at ht
      by_cases h : 0 < (F a - G a) * (sg - sf)
      · rw [if_pos h] at ht
        obtain ⟨h1, h2, h3⟩ := met_tail f1 g1 h
        rw [List.mem_singleton.mp ht]
        generalize a + (F a - G a) / (sg - sf) = x at *
        exact meet_sz (f1 x (by grind)) (g1 x (by grind)) f2 g2 h2 (by grind)
      · rw [if_neg h] at ht
        cases ht
  | @cons a b l m h1 h2 h3 h4 ih =>
    intro hG hl t ht
    cases hG with
    | cons k g1 g2 g3 g4 =>
      have ih' := ih g4 (fun t ht => hl t (List.mem_cons_of_mem _ ht))
      have hb := hl b List.mem_cons_self
      unfold ins at ht
      by_cases h : (F a - G a) * (F b - G b) < 0
      · rw [if_pos h] at ht
        obtain ⟨x1, x2, x3, _, x5⟩ := met_mid h1 h2 g2 h
        rcases List.mem_cons.mp ht with e | ht
        · rw [e]
          generalize a + (F a - G a) / ((F a - G a) - (F b - G b)) * (b - a) = x at *
          exact meet_sz (h2 x (by grind) (by grind)) (g2 x (by grind) (by grind)) h3 g3 x3 x5
        · rcases List.mem_cons.mp ht with e | ht
          · rw [e]; exact hb
          · exact ih' t ht
      · rw [if_neg h] at ht
        rcases List.mem_cons.mp ht with e | ht
        · rw [e]; exact hb
        · exact ih' t ht

end Q
namespace Q
open PySem MP FP
theorem r_gap_of (n : Nat) (w : R3) (h1 : Sz w.2.1) (h2 : Sz w.2.2) : runTP T (n + 4) "gap_of" [dW w] = .ok (dR (w.2.1 - w.2.2)) := by
  rw [runTP_succ T_gap_of]
  unfold F_gap_of
  simp only [MW_, r_minus, h1, h2]

end Q
namespace Q
open PySem MP FP
theorem num_mul_neg (p q : Rat) : (p.num * q.num < 0) = (p * q < 0) := by
  have e : (p * q) * (((p.den : Int) : Rat) * ((q.den : Int) : Rat)) = (p.num : Rat) * (q.num : Rat) := by
    have h1 := num_den p
    have h2 := num_den q
    grind
  have hp : (0 : Rat) < ((p.den : Int) : Rat) * ((q.den : Int) : Rat) := Rat.mul_pos (Rat.intCast_pos.mpr (by have := p.den_pos; omega)) (Rat.intCast_pos.mpr (by have := q.den_pos; omega))
  have ei : (p.num * q.num < 0) = ((p.num : Rat) * (q.num : Rat) < 0) := by
    rw [← Rat.intCast_mul]
    simp only [eq_iff_iff]
    exact (Rat.intCast_lt_intCast (a := p.num * q.num) (b := 0)).symm
  rw [ei, ← e]
  simp only [eq_iff_iff]
  constructor
  · intro h
    exact lt_of_lin hp (by grind)
  · intro h
    have := lin_lt hp h
    grind
theorem num_mul_pos (p q : Rat) : (0 < p.num * q.num) = (0 < p * q) := by
  have := num_mul_neg (-p) q
  rw [Rat.neg_num, Int.neg_mul, Rat.neg_mul] at this
  simp only [eq_iff_iff] at *
  constructor
  · intro h
    have := this.mp (by omega)
    grind
  · intro h
    have := this.mpr (by grind)
    omega
/-- the row at which both meet between two rows -/
def metB (w w' : R3) : R3 := (w.1 + (w.2.1 - w.2.2) / ((w.2.1 - w.2.2) - (w'.2.1 - w'.2.2)) * (w'.1 - w.1), w.2.1 + (w.2.1 - w.2.2) / ((w.2.1 - w.2.2) - (w'.2.1 - w'.2.2)) * (w'.2.1 - w.2.1), w.2.1 + (w.2.1 - w.2.2) / ((w.2.1 - w.2.2) - (w'.2.1 - w'.2.2)) * (w'.2.1 - w.2.1))
theorem r_met_none (n : Nat) (w w' : R3) (h1 : Sz w.2.1) (h2 : Sz w.2.2) (h3 : Sz w'.2.1) (h4 : Sz w'.2.2) (h5 : Sz (w.2.1 - w.2.2)) (h6 : Sz (w'.2.1 - w'.2.2)) (h : ¬ (w.2.1 - w.2.2) * (w'.2.1 - w'.2.2) < 0) : runTP T (n + 5) "met_between" [dW w, dW w'] = .ok .non := by
  rw [runTP_succ T_met_between]
  have g1 := r_gap_of n w h1 h2
  have g2 := r_gap_of n w' h3 h4
  have m1 : mulOk (w.2.1 - w.2.2).num (w'.2.1 - w'.2.2).num := mulOk_of h5.1 h6.1 zm
  have z : 0 ≤ (w.2.1 - w.2.2).num * (w'.2.1 - w'.2.2).num := by
    have := num_mul_neg (w.2.1 - w.2.2) (w'.2.1 - w'.2.2)
    have : ¬ (w.2.1 - w.2.2).num * (w'.2.1 - w'.2.2).num < 0 := by rw [this]; exact h
    omega
  unfold F_met_between
  simp only [MW_, g1, g2, m1, z]
theorem r_met_some (n : Nat) (w w' : R3) (h1 : Sz w.2.1) (h2 : Sz w.2.2) (h3 : Sz w'.2.1) (h4 : Sz w'.2.2) (h5 : Sz (w.2.1 - w.2.2)) (h6 : Sz (w'.2.1 - w'.2.2)) (h7 : Sz ((w.2.1 - w.2.2) - (w'.2.1 - w'.2.2))) (h8 : Sz ((w.2.1 - w.2.2) / ((w.2.1 - w.2.2) - (w'.2.1 - w'.2.2)))) (h9 : Sz (w'.2.1 - w.2.1)) (h10 : Sz (w'.1 - w.1)) (h11 : Sz ((w.2.1 - w.2.2) / ((w.2.1 - w.2.2) - (w'.2.1 - w'.2.2)) * (w'.2.1 - w.2.1))) (h12 : Sz ((w.2.1 - w.2.2) / ((w.2.1 - w.2.2) - (w'.2.1 - w'.2.2)) * (w'.1 - w.1))) (h13 : Sz w.1) (h14 : Sz w'.1) (hne : (w.2.1 - w.2.2) - (w'.2.1 - w'.2.2) ≠ 0) (h : (w.2.1 - w.2.2) * (w'.2.1 - w'.2.2) < 0) : runTP T (n + 5) "met_between" [dW w, dW w'] = .ok (dW (metB w w')) := by
  rw [runTP_succ T_met_between]
  have g1 := r_gap_of n w h1 h2
  have g2 := r_gap_of n w' h3 h4
  have m1 : mulOk (w.2.1 - w.2.2).num (w'.2.1 - w'.2.2).num := mulOk_of h5.1 h6.1 zm
  have z : ¬ 0 ≤ (w.2.1 - w.2.2).num * (w'.2.1 - w'.2.2).num := by
    have := num_mul_neg (w.2.1 - w.2.2) (w'.2.1 - w'.2.2)
    have : (w.2.1 - w.2.2).num * (w'.2.1 - w'.2.2).num < 0 := by rw [this]; exact h
    omega
  unfold F_met_between metB
  simp only [MW_, g1, g2, m1, z, r_minus, r_over, r_times, r_plus, h1, h2, h3, h4, h5, h6, h7, h8, h9, h10, h11, h12, h13, h14, hne]

end Q
namespace Q
open PySem MP FP
theorem r_mbe_none (n : Nat) (w : R3) (p q : Rat) (h1 : Sz w.2.1) (h2 : Sz w.2.2) (h3 : Sz p) (h4 : Sz q) (h5 : Sz (w.2.1 - w.2.2)) (h6 : Sz (q - p)) (h : ¬ 0 < (w.2.1 - w.2.2) * (q - p)) : runTP T (n + 5) "met_behind" [dW w, dR p, dR q] = .ok .non := by
  rw [runTP_succ T_met_behind]
  have g1 := r_gap_of n w h1 h2
  have m1 : mulOk (w.2.1 - w.2.2).num (q - p).num := mulOk_of h5.1 h6.1 zm
  have z : (w.2.1 - w.2.2).num * (q - p).num ≤ 0 := by
    have := num_mul_pos (w.2.1 - w.2.2) (q - p)
    have : ¬ 0 < (w.2.1 - w.2.2).num * (q - p).num := by rw [this]; exact h
    omega
  unfold F_met_behind
  simp only [MW_, g1, m1, z, r_minus, h3, h4]
theorem r_mbe_some (n : Nat) (w : R3) (p q : Rat) (h1 : Sz w.2.1) (h2 : Sz w.2.2) (h3 : Sz p) (h4 : Sz q) (h5 : Sz (w.2.1 - w.2.2)) (h6 : Sz (q - p)) (h7 : Sz ((w.2.1 - w.2.2) / (q - p))) (h8 : Sz (p * ((w.2.1 - w.2.2) / (q - p)))) (h9 : Sz w.1) (hne : q - p ≠ 0) (h : 0 < (w.2.1 - w.2.2) * (q - p)) : runTP T (n + 5) "met_behind" [dW w, dR p, dR q] = .ok (dW (w.1 + (w.2.1 - w.2.2) / (q - p), w.2.1 + p * ((w.2.1 - w.2.2) / (q - p)), w.2.1 + p * ((w.2.1 - w.2.2) / (q - p)))) := by
  rw [runTP_succ T_met_behind]
  have g1 := r_gap_of n w h1 h2
  have m1 : mulOk (w.2.1 - w.2.2).num (q - p).num := mulOk_of h5.1 h6.1 zm
  have z : ¬ (w.2.1 - w.2.2).num * (q - p).num ≤ 0 := by
    have := num_mul_pos (w.2.1 - w.2.2) (q - p)
    have : 0 < (w.2.1 - w.2.2).num * (q - p).num := by rw [this]; exact h
    omega
  unfold F_met_behind
  simp only [MW_, g1, m1, z, r_minus, r_over, r_times, r_plus, h1, h3, h4, h5, h6, h7, h8, h9, hne]

end Q
namespace Q
open PySem MP FP
theorem line_sz {B T : Nat} {v m t : Rat} (h : LB B m (v - m * t)) (ht : Rb t T) : Rb v (B + T + B + 1) := by
  have e : v = m * t + (v - m * t) := by grind
  rw [e]
  exact ((h.1.mul ht).add h.2).mono (by omega)
theorem st_loop (n B : Nat) (hB : B ≤ 400) (cs cs' : List Cn) (sf sg : Rat) (F G : Rat → Rat) (L : List Rat) : ∀ (l pre : List Rat) (a : Rat) (acc : List Dv) (e4 e5 : Option Dv), L = pre ++ a :: l → PL (LB B) F sf a l → PL (LB B) G sg a l → (∀ t ∈ a :: l, Rb t (4 * B + 2)) → acc.length + 2 * l.length + 2 ≤ 900000 → ∃ e4' e5', foP (runTP T (n + 5)) 4 B_stops_1 (stepsP (pre.length : Int) 1 (l.length + 1)) [some (dF cs sf), some (dF cs' sg), some (.own (L.map fun t => dW (rowF F G t))), some (.own acc), e4, e5] = .nx [some (dF cs sf), some (dF cs' sg), some (.own (L.map fun t => dW (rowF F G t))), some (.own (acc ++ (a :: ins F G sf sg a l).map fun t => dW (rowF F G t))), e4', e5']
  | [], pre, a, acc, e4, e5, hL, hF, hG, hT, hl => by
    cases hF with
    | last f1 f2 =>
      cases hG with
      | last g1 g2 =>
        have ha := hT a List.mem_cons_self
        have zF := line_sz f2 ha
        have zG := line_sz g2 ha
        have s1 : Sz (F a) := zF.sz (by omega)
        have s2 : Sz (G a) := zG.sz (by omega)
        have s3 : Sz sf := f2.1.sz (by omega)
        have s4 : Sz sg := g2.1.sz (by omega)
        have s5 : Sz (F a - G a) := (zF.sub zG).sz (by omega)
        have s6 : Sz (sg - sf) := (g2.1.sub f2.1).sz (by omega)
        have i1 : L2.atI (L.map fun t => dW (rowF F G t)) (pre.length : Int) = some (dW (rowF F G a)) := by
          rw [hL, List.map_append, List.map_cons]
          exact FP.at_app (by simp)
        have y1 : ¬ (pre.length : Int) + 1 < (L.length : Int) := by rw [hL]; simp
        have l1 : acc.length < LIM := by unfold LIM; omega
        have l2 : acc.length + 1 < LIM := by unfold LIM; omega
        rw [show ([] : List Rat).length + 1 = 1 from rfl, stepsP_s, stepsP_0]
        unfold ins
        by_cases h : 0 < (F a - G a) * (sg - sf)
        · rw [if_pos h]
          obtain ⟨h1, h2, h3⟩ := met_tail f1 g1 h
          have bx : Rb (a + (F a - G a) / (sg - sf)) (4 * B + 2) := by
            generalize a + (F a - G a) / (sg - sf) = x at *
            exact meet_sz (f1 x (by grind)) (g1 x (by grind)) f2 g2 h2 (by grind)
          have b1 : Rb ((F a - G a) / (sg - sf)) (8 * B + 5) := by
            have : (F a - G a) / (sg - sf) = (a + (F a - G a) / (sg - sf)) - a := by grind
            rw [this]
            exact (bx.sub ha).mono (by omega)
          have s7 : Sz ((F a - G a) / (sg - sf)) := b1.sz (by omega)
          have s8 : Sz (sf * ((F a - G a) / (sg - sf))) := (f2.1.mul b1).sz (by omega)
          have e := r_mbe_some n (rowF F G a) sf sg s1 s2 s3 s4 s5 s6 s7 s8 (ha.sz (by omega)) h3 h
          have er : dW ((rowF F G a).1 + ((rowF F G a).2.1 - (rowF F G a).2.2) / (sg - sf), (rowF F G a).2.1 + sf * (((rowF F G a).2.1 - (rowF F G a).2.2) / (sg - sf)), (rowF F G a).2.1 + sf * (((rowF F G a).2.1 - (rowF F G a).2.2) / (sg - sf))) = dW (rowF F G (a + (F a - G a) / (sg - sf))) := by
            have k1 := f1 (a + (F a - G a) / (sg - sf)) (by grind)
            show dW (a + (F a - G a) / (sg - sf), F a + sf * ((F a - G a) / (sg - sf)), F a + sf * ((F a - G a) / (sg - sf))) = dW (a + (F a - G a) / (sg - sf), F (a + (F a - G a) / (sg - sf)), G (a + (F a - G a) / (sg - sf)))
            rw [← h2]
            have k2 : F a + sf * ((F a - G a) / (sg - sf)) = F (a + (F a - G a) / (sg - sf)) := by rw [k1]; grind
            rw [k2]
          rw [er] at e
          refine ⟨some (.int (pre.length : Int)), some (dW (rowF F G (a + (F a - G a) / (sg - sf)))), ?_⟩
          simp only [MW_, fo_cons, fo_nil, VB_stops_1, List.length_map, i1, y1, l1, l2, e, List.map_cons, List.map_nil, List.append_assoc, List.length_append, List.length_cons, List.length_nil, List.cons_append, List.nil_append]
        · rw [if_neg h]
          have e := r_mbe_none n (rowF F G a) sf sg s1 s2 s3 s4 s5 s6 h
          refine ⟨some (.int (pre.length : Int)), some .non, ?_⟩
          simp only [MW_, fo_cons, fo_nil, VB_stops_1, List.length_map, i1, y1, l1, e, List.map_cons, List.map_nil]
  | b :: l, pre, a, acc, e4, e5, hL, hF, hG, hT, hl => by
    cases hF with
    | cons m f0 f1 f2 f3 =>
      cases hG with
      | cons k g0 g1 g2 g3 =>
        have ha := hT a List.mem_cons_self
        have hb := hT b (by simp)
        have zF := line_sz f2 ha
        have zG := line_sz g2 ha
        have fb := f1 b (by grind) Rat.le_refl
        have gb := g1 b (by grind) Rat.le_refl
        have zF' : Rb (F b) (B + (4 * B + 2) + B + 1) := line_sz (m := m) (by rw [show F b - m * b = F a - m * a by grind]; exact f2) hb
        have zG' : Rb (G b) (B + (4 * B + 2) + B + 1) := line_sz (m := k) (by rw [show G b - k * b = G a - k * a by grind]; exact g2) hb
        have s1 : Sz (F a) := zF.sz (by omega)
        have s2 : Sz (G a) := zG.sz (by omega)
        have s3 : Sz (F b) := zF'.sz (by omega)
        have s4 : Sz (G b) := zG'.sz (by omega)
        have s5 : Sz (F a - G a) := (zF.sub zG).sz (by omega)
        have s6 : Sz (F b - G b) := (zF'.sub zG').sz (by omega)
        have i1 : L2.atI (L.map fun t => dW (rowF F G t)) (pre.length : Int) = some (dW (rowF F G a)) := by
          rw [hL, List.map_append, List.map_cons]
          exact FP.at_app (by simp)
        have i2 : L2.atI (L.map fun t => dW (rowF F G t)) ((pre.length : Int) + 1) = some (dW (rowF F G b)) := by
          rw [hL, show pre ++ a :: b :: l = (pre ++ [a]) ++ b :: l by simp, List.map_append, List.map_cons]
          exact FP.at_app (by simp)
        have y1 : (pre.length : Int) + 1 < (L.length : Int) := by rw [hL]; simp; omega
        have hl' : acc.length + 2 * (l.length + 1) + 2 ≤ 900000 := hl
        have l1 : acc.length < LIM := by unfold LIM; omega
        have l2 : acc.length + 1 < LIM := by unfold LIM; omega
        have ep : ∀ x : Rat, ((pre ++ [x]).length : Int) = (pre.length : Int) + 1 := fun x => by simp
        rw [show (b :: l).length + 1 = (l.length + 1) + 1 from rfl, stepsP_s]
        unfold ins
        by_cases h : (F a - G a) * (F b - G b) < 0
        · rw [if_pos h]
          obtain ⟨x1, x2, x3, x4, x5⟩ := met_mid f0 f1 g1 h
          obtain ⟨x, hx⟩ : ∃ x, x = a + (F a - G a) / ((F a - G a) - (F b - G b)) * (b - a) := ⟨_, rfl⟩
          have fx := f1 x (by grind) (by grind)
          have gx := g1 x (by grind) (by grind)
          have bx : Rb x (4 * B + 2) := by
            rw [← hx] at x3
            exact meet_sz fx gx f2 g2 x3 x5
          have bd := hb.sub ha
          have bxa := bx.sub ha
          have hba : b - a ≠ 0 := by grind
          have exa : (F a - G a) / ((F a - G a) - (F b - G b)) * (b - a) = x - a := by rw [hx]; grind
          have eq_ : (F a - G a) / ((F a - G a) - (F b - G b)) = (x - a) / (b - a) := (quo_of hba exa.symm).symm
          have b7 : Rb ((F a - G a) - (F b - G b)) ((B + B + 1) + (4 * B + 2 + (4 * B + 2) + 1)) := by
            have : (F a - G a) - (F b - G b) = (m - k) * (a - b) := by rw [fb, gb]; grind
            rw [this]
            exact ((f2.1.sub g2.1).mul (ha.sub hb)).mono (by omega)
          have b8 : Rb ((F a - G a) / ((F a - G a) - (F b - G b))) (4 * B + 2 + (4 * B + 2) + 1 + (4 * B + 2 + (4 * B + 2) + 1)) := by
            rw [eq_]
            exact bxa.quo bd hba
          have efb : F b - F a = m * (b - a) := by rw [fb]; grind
          have b9 : Rb (F b - F a) (B + (4 * B + 2 + (4 * B + 2) + 1)) := by
            rw [efb]
            exact (f2.1.mul bd).mono (by omega)
          have e11 : (F a - G a) / ((F a - G a) - (F b - G b)) * (F b - F a) = m * (x - a) := by
            rw [efb, ← exa]
            grind
          have s7 : Sz ((F a - G a) - (F b - G b)) := b7.sz (by omega)
          have s8 : Sz ((F a - G a) / ((F a - G a) - (F b - G b))) := b8.sz (by omega)
          have s9 : Sz (F b - F a) := b9.sz (by omega)
          have s10 : Sz (b - a) := bd.sz (by omega)
          have s11 : Sz ((F a - G a) / ((F a - G a) - (F b - G b)) * (F b - F a)) := by rw [e11]; exact (f2.1.mul bxa).sz (by omega)
          have s12 : Sz ((F a - G a) / ((F a - G a) - (F b - G b)) * (b - a)) := by rw [exa]; exact bxa.sz (by omega)
          have e := r_met_some n (rowF F G a) (rowF F G b) s1 s2 s3 s4 s5 s6 s7 s8 s9 s10 s11 s12 (ha.sz (by omega)) (hb.sz (by omega)) x4 h
          have er : metB (rowF F G a) (rowF F G b) = rowF F G x := by
            show (a + (F a - G a) / ((F a - G a) - (F b - G b)) * (b - a), F a + (F a - G a) / ((F a - G a) - (F b - G b)) * (F b - F a), F a + (F a - G a) / ((F a - G a) - (F b - G b)) * (F b - F a)) = (x, F x, G x)
            rw [← hx] at x3 ⊢
            rw [e11, ← x3, fx]
          rw [er] at e
          rw [← hx]
          obtain ⟨e4', e5', ih⟩ := st_loop n B hB cs cs' sf sg F G L l (pre ++ [a]) b (acc ++ [dW (rowF F G a), dW (rowF F G x)]) (some (.int (pre.length : Int))) (some (dW (rowF F G x))) (by rw [hL]; simp) f3 g3 (fun t ht => hT t (List.mem_cons_of_mem _ ht)) (by simp; omega)
          refine ⟨e4', e5', ?_⟩
          rw [ep, List.append_assoc] at ih
          rw [List.map_cons, List.map_cons]
          refine Eq.trans ?_ ih
          simp only [MW_, fo_cons, VB_stops_1, List.length_map, i1, i2, y1, l1, l2, e, List.append_assoc, List.length_append, List.length_cons, List.length_nil, List.cons_append, List.nil_append]
        · rw [if_neg h]
          have e := r_met_none n (rowF F G a) (rowF F G b) s1 s2 s3 s4 s5 s6 h
          obtain ⟨e4', e5', ih⟩ := st_loop n B hB cs cs' sf sg F G L l (pre ++ [a]) b (acc ++ [dW (rowF F G a)]) (some (.int (pre.length : Int))) (some .non) (by rw [hL]; simp) f3 g3 (fun t ht => hT t (List.mem_cons_of_mem _ ht)) (by simp; omega)
          refine ⟨e4', e5', ?_⟩
          rw [ep, List.append_assoc] at ih
          rw [List.map_cons]
          refine Eq.trans ?_ ih
          simp only [MW_, fo_cons, VB_stops_1, List.length_map, i1, i2, y1, l1, e]
theorem r_stops (n B : Nat) (hB : B ≤ 400) (c : Cn) (r : List Cn) (s : Rat) (c' : Cn) (r' : List Cn) (s' : Rat) (hf : Cv B c r s) (hg : Cv B c' r' s') (hl : r.length + r'.length ≤ 390000) : runTP T (n + 8) "stops" [dF (c :: r) s, dF (c' :: r') s'] = .ok (.own ((0 :: ins (fun t => val s t c r) (fun t => val s' t c' r') s s' 0 (gtimes r r')).map (fun t => dW (rowF (fun t => val s t c r) (fun t => val s' t c' r') t)))) := by
  rw [runTP_succ T_stops]
  have hgr := r_grid n B hB c r s c' r' s' hf hg (by omega)
  obtain ⟨pf, pg⟩ := gtimes_PL hf hg
  have hlen := gtimes_len r r'
  have hT : ∀ t ∈ (0 : Rat) :: gtimes r r', Rb t (4 * B + 2) := fun t ht => by
    rcases List.mem_cons.mp ht with e | ht
    · rw [e]; exact Rb0 _ (by omega)
    · exact gtimes_sz hf hg t ht
  generalize gtimes r r' = g at *
  obtain ⟨e4, e5, hlp⟩ := st_loop (n + 2) B hB (c :: r) (c' :: r') s s' _ _ (0 :: g) g [] 0 [] none none rfl pf pg hT (by simp; omega)
  have hrg := rng0' (g.length + 1) (by omega) (((0 :: g).length : Nat) : Int) (by simp)
  generalize c :: r = cs at *
  generalize c' :: r' = cs' at *
  have hlp' : foP (runTP T (n + 7)) 4 B_stops_1 (stepsP 0 1 (g.length + 1)) _ = _ := hlp
  generalize hJ : (0 : Rat) :: g = J at *
  unfold F_stops
  simp only [MW_, hgr, List.length_map, hrg, any_steps, hlp', List.nil_append]

end Q
namespace Q
open PySem MP FP
theorem ch_mono {hi : Bool} {x y x' y' : Rat} (h1 : x ≤ x') (h2 : y ≤ y') : ch hi x y ≤ ch hi x' y' := by
  unfold ch
  cases hi <;> grind
theorem ch_nn {hi : Bool} {x y : Rat} (h1 : 0 ≤ x) (h2 : 0 ≤ y) : 0 ≤ ch hi x y := by
  unfold ch
  cases hi <;> grind
theorem ch_Rb {hi : Bool} {x y : Rat} {k : Nat} (h1 : Rb x k) (h2 : Rb y k) : Rb (ch hi x y) k := by
  unfold ch
  split <;> split <;> assumption
/-- X is a curve in the told form, of a function -/
def Crv (B N : Nat) (F : Rat → Rat) (s : Rat) (X : Dv) : Prop := ∃ c r, X = dF (c :: r) s ∧ Cv B c r s ∧ r.length ≤ N ∧ ∀ t, 0 ≤ t → val s t c r = F t
theorem Crv.mono {B N B' N' : Nat} {F : Rat → Rat} {s : Rat} {X : Dv} (h : Crv B N F s X) (hB : B ≤ B') (hN : N ≤ N') : Crv B' N' F s X := by
  obtain ⟨c, r, h1, h2, h3, h4⟩ := h
  exact ⟨c, r, h1, h2.mono hB, by omega, h4⟩
theorem Crv.congr {B N : Nat} {F G : Rat → Rat} {s : Rat} {X : Dv} (h : Crv B N F s X) (e : ∀ t, 0 ≤ t → F t = G t) : Crv B N G s X := by
  obtain ⟨c, r, h1, h2, h3, h4⟩ := h
  exact ⟨c, r, h1, h2, h3, fun t ht => by rw [h4 t ht, e t ht]⟩
theorem Cv.vmono {B : Nat} {c : Cn} {r : List Cn} {s : Rat} (h : Cv B c r s) : ∀ x y, 0 ≤ x → x ≤ y → val s x c r ≤ val s y c r := fun x y hx hy => val_mono s (by have := h.s0; grind) x y hy c r h.up h.nd (by rw [h.c0]; exact hx)
theorem Cv.vnn {B : Nat} {c : Cn} {r : List Cn} {s : Rat} (h : Cv B c r s) : ∀ x, 0 ≤ x → 0 ≤ val s x c r := fun x hx => by
  have := val_ge s x (by have := h.s0; grind) c r h.up h.nd (by rw [h.c0]; exact hx)
  have := h.v0
  grind
theorem lastT_mem : ∀ (a : Rat) (l : List Rat), lastT a l ∈ a :: l
  | a, [] => List.mem_cons_self
  | a, b :: l => List.mem_cons_of_mem _ (lastT_mem b l)
theorem lastT_app : ∀ (a : Rat) (l : List Rat), ∃ pre, a :: l = pre ++ [lastT a l]
  | a, [] => ⟨[], rfl⟩
  | a, b :: l => by
    obtain ⟨pre, h⟩ := lastT_app b l
    exact ⟨a :: pre, by show a :: b :: l = a :: (pre ++ [lastT b l]); rw [← h]⟩
theorem i_lastT (f : Rat → Dv) (a : Rat) (l : List Rat) : L2.atI ((a :: l).map f) (-1) = some (f (lastT a l)) := by
  obtain ⟨pre, h⟩ := lastT_app a l
  generalize lastT a l = x at *
  rw [h, List.map_append]
  exact at_m1
theorem PL.s_line {P : Rat → Rat → Prop} {F : Rat → Rat} {s a : Rat} {l : List Rat} (h : PL P F s a l) : ∃ q, P s q := by
  induction h with
  | last h1 h2 => exact ⟨_, h2⟩
  | cons m h1 h2 h3 h4 ih => exact ih
theorem Cv.of_fold {B : Nat} {c : Cn} {r : List Cn} {s : Rat} (u : Ups c r) (nd : Nds c r) (c0 : c.1 = 0) (v0 : ¬ c.2 < 0) (s0 : ¬ s < 0) (ln : Lns (LB B) s c r) : Cv B c (kl s c r) s ∧ ∀ t, val s t c (kl s c r) = val s t c r := ⟨⟨c0, kl_up s _ _ _ (by grind) u, kl_nd s _ _ _ (by grind) nd, v0, s0, (Q.nf s _ _ _ u (.inl rfl)).1, kl_lns _ s _ _ _ u (.inl rfl) ln⟩, fun t => fold_val s t _ _ _ u (.inl rfl)⟩

end Q
namespace Q
open PySem MP FP
theorem PL.add {P Q R : Rat → Rat → Prop} (hR : ∀ m q m' q', P m q → Q m' q' → R (m + m') (q + q')) {F G : Rat → Rat} {s s' a : Rat} {l : List Rat} (h : PL P F s a l) : PL Q G s' a l → PL R (fun t => F t + G t) (s + s') a l := by
  induction h with
  | @last a f1 f2 =>
    intro hG
    cases hG with
    | last g1 g2 =>
      refine .last (fun t ht => ?_) ?_
      · show F t + G t = F a + G a + (s + s') * (t - a)
        rw [f1 t ht, g1 t ht]
        grind
      · have := hR _ _ _ _ f2 g2
        rw [show F a + G a - (s + s') * a = F a - s * a + (G a - s' * a) by grind]
        exact this
  | @cons a b l m h1 h2 h3 h4 ih =>
    intro hG
    cases hG with
    | cons k g1 g2 g3 g4 =>
      refine .cons (m + k) h1 (fun t ht ht' => ?_) ?_ (ih g4)
      · show F t + G t = F a + G a + (m + k) * (t - a)
        rw [h2 t ht ht', g2 t ht ht']
        grind
      · have := hR _ _ _ _ h3 g3
        rw [show F a + G a - (m + k) * a = F a - m * a + (G a - k * a) by grind]
        exact this
/-- X is a curve in the told form, of a function, with its lines' kind -/
def CrvP (P : Rat → Rat → Prop) (N : Nat) (F : Rat → Rat) (s : Rat) (X : Dv) : Prop := ∃ c r, X = dF (c :: r) s ∧ Cv 400 c r s ∧ Lns P s c r ∧ r.length ≤ N ∧ ∀ t, 0 ≤ t → val s t c r = F t
theorem CrvP.congr {P : Rat → Rat → Prop} {N : Nat} {F G : Rat → Rat} {s : Rat} {X : Dv} (h : CrvP P N F s X) (e : ∀ t, 0 ≤ t → F t = G t) : CrvP P N G s X := by
  obtain ⟨c, r, h1, h2, h5, h3, h4⟩ := h
  exact ⟨c, r, h1, h2, h5, h3, fun t ht => by rw [h4 t ht, e t ht]⟩
theorem CrvP.mono {P Q : Rat → Rat → Prop} (hPQ : ∀ m q, P m q → Q m q) {N N' : Nat} {F : Rat → Rat} {s : Rat} {X : Dv} (h : CrvP P N F s X) (hN : N ≤ N') : CrvP Q N' F s X := by
  obtain ⟨c, r, h1, h2, h5, h3, h4⟩ := h
  exact ⟨c, r, h1, h2, h5.mono hPQ, by omega, h4⟩
theorem CrvP.crv {P : Rat → Rat → Prop} {N : Nat} {F : Rat → Rat} {s : Rat} {X : Dv} (h : CrvP P N F s X) : Crv 400 N F s X := by
  obtain ⟨c, r, h1, h2, h5, h3, h4⟩ := h
  exact ⟨c, r, h1, h2, h3, h4⟩
theorem Crv.p {B N : Nat} {F : Rat → Rat} {s : Rat} {X : Dv} (h : Crv B N F s X) (hB : B ≤ 400) : CrvP (LB B) N F s X := by
  obtain ⟨c, r, h1, h2, h3, h4⟩ := h
  exact ⟨c, r, h1, h2.mono hB, h2.ln, h3, h4⟩
theorem CrvP.b {B N : Nat} {F : Rat → Rat} {s : Rat} {X : Dv} (h : CrvP (LB B) N F s X) : Crv B N F s X := by
  obtain ⟨c, r, h1, h2, h5, h3, h4⟩ := h
  exact ⟨c, r, h1, ⟨h2.c0, h2.up, h2.nd, h2.v0, h2.s0, h2.nf, h5⟩, h3, h4⟩
theorem gtimes_PLP {P Q : Rat → Rat → Prop} {B : Nat} {c c' : Cn} {r r' : List Cn} {s s' : Rat} (hf : Cv B c r s) (hg : Cv B c' r' s') (lf : Lns P s c r) (lg : Lns Q s' c' r') : PL P (fun t => val s t c r) s 0 (gtimes r r') ∧ PL Q (fun t => val s' t c' r') s' 0 (gtimes r r') := by
  have uf := hf.up.rise
  have ug := hg.up.rise
  have pf := crv_PL P s c r hf.up lf
  have pg := crv_PL Q s' c' r' hg.up lg
  rw [hf.c0] at uf pf
  rw [hg.c0] at ug pg
  refine ⟨PL.refine _ (Nat.le_refl _) pf ug, ?_⟩
  unfold gtimes
  rw [mrg_comm _ _ _ (Nat.le_refl _)]
  exact PL.refine _ (Nat.le_refl _) pg uf
/-- a whole told curve from straight pieces -/
theorem PL.cvP {P : Rat → Rat → Prop} {F : Rat → Rat} {s : Rat} {l : List Rat} (hB : ∀ m q, P m q → LB 400 m q) (h : PL P F s 0 l) (hm : ∀ x y, 0 ≤ x → x ≤ y → F x ≤ F y) (v0 : 0 ≤ F 0) (s0 : 0 ≤ s) : CrvP P l.length F s (dF ((0, F 0) :: kl s (0, F 0) (pts F l)) s) := by
  obtain ⟨cv, vv⟩ := (h.mono hB).cv hm v0 s0
  refine ⟨_, _, rfl, cv, kl_lns P s _ _ _ h.ups (.inl rfl) h.lns, ?_, vv⟩
  have := kl_len s (pts F l) (0, F 0)
  unfold pts at this ⊢
  rw [List.length_map] at this
  exact this

end Q
namespace Q
open PySem MP FP
theorem r_chosen (n B : Nat) (hB : B ≤ 400) (hi : Bool) (c : Cn) (r : List Cn) (s : Rat) (c' : Cn) (r' : List Cn) (s' : Rat) (hf : Cv B c r s) (hg : Cv B c' r' s') (hl : r.length + r'.length ≤ 100000) (nm : Str) (hnm : ∀ p q, Sz p → Sz q → runTP T (n + 8) nm [dR p, dR q] = .ok (dR (ch hi p q))) : ∃ Z u, runTP T (n + 9) "chosen" [dF (c :: r) s, dF (c' :: r') s', .fn nm] = .ok Z ∧ Crv B (2 * (r.length + r'.length) + 1) (fun t => ch hi (val s t c r) (val s' t c' r')) u Z := by
  rw [runTP_succ T_chosen]
  have hst := r_stops n B hB c r s c' r' s' hf hg (by omega)
  obtain ⟨pf, pg⟩ := gtimes_PL hf hg
  have hlen := gtimes_len r r'
  have hT : ∀ t ∈ gtimes r r', Rb t (4 * B + 2) := gtimes_sz hf hg
  obtain ⟨i1, i2, i3⟩ := ins_PL hi pf pg
  have iT := ins_sz pf pg hT
  have il := ins_len (fun t => val s t c r) (fun t => val s' t c' r') s s' 0 (gtimes r r')
  have mF := hf.vmono
  have mG := hg.vmono
  have nF := hf.vnn 0 Rat.le_refl
  have nG := hg.vnn 0 Rat.le_refl
  have ss : Rb s B := hf.ln.gaps s (by simp)
  have ss' : Rb s' B := hg.ln.gaps s' (by simp)
  have s0 := hf.s0
  have s0' := hg.s0
  generalize hFd : (fun t => val s t c r) = F at *
  have hFd' : ∀ t, val s t c r = F t := fun t => congrFun hFd t
  generalize hGd : (fun t => val s' t c' r') = G at *
  have hGd' : ∀ t, val s' t c' r' = G t := fun t => congrFun hGd t
  simp only [hFd', hGd'] at *
  generalize hI : ins F G s s' 0 (gtimes r r') = I at *
  have hT2 : ∀ t ∈ (0 : Rat) :: I, Rb t (4 * B + 2) := fun t ht => by
    rcases List.mem_cons.mp ht with e | ht
    · rw [e]; exact Rb0 _ (by omega)
    · exact iT t ht
  have bF : ∀ t ∈ (0 : Rat) :: I, Rb (F t) (6 * B + 3) := fun t ht => (i1.val_sz t ht (hT2 t ht)).mono (by omega)
  have bG : ∀ t ∈ (0 : Rat) :: I, Rb (G t) (6 * B + 3) := fun t ht => (i2.val_sz t ht (hT2 t ht)).mono (by omega)
  obtain ⟨u, hu⟩ : ∃ u, u = ch hi (F (lastT 0 I) + s) (G (lastT 0 I) + s') - ch hi (F (lastT 0 I)) (G (lastT 0 I)) := ⟨_, rfl⟩
  rw [← hu] at i3
  have hm : ∀ x y, 0 ≤ x → x ≤ y → (fun t => ch hi (F t) (G t)) x ≤ (fun t => ch hi (F t) (G t)) y := fun x y hx hy => ch_mono (mF x y hx hy) (mG x y hx hy)
  have u0 : 0 ≤ u := by
    rw [hu]
    have := ch_mono (hi := hi) (x := F (lastT 0 I)) (y := G (lastT 0 I)) (x' := F (lastT 0 I) + s) (y' := G (lastT 0 I) + s') (by grind) (by grind)
    grind
  obtain ⟨cv, vv⟩ := i3.cv hm (ch_nn nF nG) u0
  have ups := i3.ups
  have nds := i3.nds hm
  have bu : Rb u B := by
    obtain ⟨q, hq⟩ := i3.s_line
    exact hq.1.mono (by omega)
  have hz : ∀ x ∈ ((0 : Rat), ch hi (F 0) (G 0)) :: pts (fun t => ch hi (F t) (G t)) I, Cz x := fun x hx => by
    have hx' : x ∈ ((0 : Rat) :: I).map (fun t => (t, ch hi (F t) (G t))) := hx
    obtain ⟨t, ht, rfl⟩ := List.mem_map.mp hx'
    exact ⟨(hT2 t ht).mono (by omega), (ch_Rb (bF t ht) (bG t ht)).mono (by omega)⟩
  have hcu := r_curve n (.lst ((((0 : Rat), ch hi (F 0) (G 0)) :: pts (fun t => ch hi (F t) (G t)) I).map dC)) (0, ch hi (F 0) (G 0)) (pts (fun t => ch hi (F t) (G t)) I) u Sq.lst hz (by unfold pts; rw [List.length_map]; omega) ups nds rfl (by have := ch_nn (hi := hi) nF nG; show ¬ ch hi (F 0) (G 0) < 0; grind) (bu.sz (by omega)) (by grind)
  refine ⟨_, u, ?_, _, _, rfl, cv, ?_, vv⟩
  · have el : (((0 : Rat), ch hi (F 0) (G 0)) :: pts (fun t => ch hi (F t) (G t)) I).map dC = ((0 : Rat) :: I).map (fun t => dC (t, ch hi (F t) (G t))) := by
      show ((((0 : Rat) :: I).map (fun t => (t, ch hi (F t) (G t)))).map dC) = _
      rw [List.map_map]
      rfl
    have lm := lastT_mem 0 I
    have x1 := i_lastT (fun t => dW (rowF F G t)) 0 I
    have x2 := i_lastT (fun t => dC (t, ch hi (F t) (G t))) 0 I
    have z1 : Sz (F (lastT 0 I)) := (bF _ lm).sz (by omega)
    have z2 : Sz (G (lastT 0 I)) := (bG _ lm).sz (by omega)
    have z3 : Sz s := ss.sz (by omega)
    have z4 : Sz s' := ss'.sz (by omega)
    have z5 : Sz (F (lastT 0 I) + s) := ((bF _ lm).add ss).sz (by omega)
    have z6 : Sz (G (lastT 0 I) + s') := ((bG _ lm).add ss').sz (by omega)
    have z7 : Sz (ch hi (F (lastT 0 I) + s) (G (lastT 0 I) + s')) := ch_Rb z5 z6
    have z8 : Sz (ch hi (F (lastT 0 I)) (G (lastT 0 I))) := ch_Rb z1 z2
    have n1 := hnm _ _ z5 z6
    have n2 := r_minus (n + 5) _ _ z7 z8
    rw [← hu] at n2
    have hlen2 : ((0 : Rat) :: I).length < LIM := by simp; unfold LIM; omega
    rw [el] at hcu
    have hlc : ∀ X Y : Dv, lcQ (runTP T (n + 8)) 4 C_chosen_1 E_chosen_1 [some X, some Y, some (.fn nm), some (.own (((0 : Rat) :: I).map fun t => dW (rowF F G t))), none, none, none, none] (((0 : Rat) :: I).map fun t => dW (rowF F G t)) = .ok (((0 : Rat) :: I).map fun t => frz (dC (t, ch hi (F t) (G t)))) := fun X Y => by
      refine lc_map (fun t => dW (rowF F G t)) (fun t => dC (t, ch hi (F t) (G t))) ((0 : Rat) :: I) (fun t ht => ?_) (fun t ht => ?_)
      · simp only [MW_, VC_chosen_1]
      · have k := hnm (F t) (G t) ((bF t ht).sz (by omega)) ((bG t ht).sz (by omega))
        simp only [MW_, VE_chosen_1, rowF, k]
    have xr : ∀ t, (rowF F G t).2.1 = F t := fun t => rfl
    have xr2 : ∀ t, (rowF F G t).2.2 = G t := fun t => rfl
    have hal : (J_ : List Dv) → J_ = ((0 : Rat) :: I).map (fun t => dC (t, ch hi (F t) (G t))) → J_.any (lsF 12) = false := fun J_ e => by
      rw [e]
      exact any_f (fun _ => rfl) _
    have hal := hal _ rfl
    have hlen3 : ((0 : Rat) :: I).length ≤ LIM := Nat.le_of_lt hlen2
    generalize hG2 : (0 : Rat) :: I = J at *
    unfold F_chosen
    simp only [MW_, hst, hlc, List.length_map, hlen3, hal, x1, x2, xr, xr2, r_plus, z1, z2, z3, z4, n1, n2, hcu]
  · have : (pts (fun t => ch hi (F t) (G t)) I).length = I.length := by unfold pts; rw [List.length_map]
    have := kl_len u (pts (fun t => ch hi (F t) (G t)) I) (0, ch hi (F 0) (G 0))
    omega

end Q
namespace Q
open PySem MP FP
theorem r_least (n B N M : Nat) (hB : B ≤ 400) {F G : Rat → Rat} {s s' : Rat} {X Y : Dv} (hX : Crv B N F s X) (hY : Crv B M G s' Y) (hl : N + M ≤ 100000) : ∃ Z u, runTP T (n + 10) "least" [X, Y] = .ok Z ∧ Crv B (2 * (N + M) + 1) (fun t => ch false (F t) (G t)) u Z := by
  obtain ⟨c, r, rfl, h1, h2, h3⟩ := hX
  obtain ⟨c', r', rfl, k1, k2, k3⟩ := hY
  obtain ⟨Z, u, e, cz⟩ := r_chosen n B hB false c r s c' r' s' h1 k1 (by omega) "lesser" (fun p q hp hq => by
    rw [r_lesser (n + 6) p q hp hq]
    rfl)
  refine ⟨Z, u, ?_, (cz.mono (Nat.le_refl _) (by omega)).congr (fun t ht => by rw [h3 t ht, k3 t ht])⟩
  rw [runTP_succ T_least]
  generalize c :: r = cs at *
  generalize c' :: r' = cs' at *
  unfold F_least
  simp only [MC_, e]

end Q
namespace Q
open PySem MP FP
/-- a fraction, not in lowest terms -/
structure Fr where
  n : Int
  d : Int
def dFr (x : Fr) : Dv := .tup [.int x.n, .int x.d]
def Fr.v (x : Fr) : Rat := Rat.divInt x.n x.d
def Fr.of (q : Rat) : Fr := ⟨q.num, q.den⟩
theorem dFr_of (q : Rat) : dFr (Fr.of q) = dR q := rfl
theorem Fr.v_of (q : Rat) : (Fr.of q).v = q := Rat.num_divInt_den q
structure Fk (x : Fr) (k : Nat) : Prop where
  pos : 0 < x.d
  n : x.n.natAbs < 2 ^ k
  d : x.d.natAbs < 2 ^ k
theorem Fk.mono {x : Fr} {k k' : Nat} (h : Fk x k) (hk : k ≤ k') : Fk x k' := ⟨h.pos, up_lt h.n hk, up_lt h.d hk⟩
theorem Fk.of {q : Rat} {k : Nat} (h : Rb q k) : Fk (Fr.of q) k := ⟨by show 0 < (q.den : Int); have := q.den_pos; omega, h.1, den_lt h⟩
theorem Fk.rb {x : Fr} {k : Nat} (h : Fk x k) : Rb x.v k := Rb.div h.n h.d (by have := h.pos; omega)
theorem getP_Q {x : Fr} : getP (some (some (dFr x))) = .ok (dFr x) := rfl
theorem rawP_Q {x : Fr} : rawP (some (some (dFr x))) = .rt (dFr x) := rfl
theorem frz_Q {x : Fr} : frz (dFr x) = dFr x := rfl
theorem isL_Q {x : Fr} : isL (dFr x) = false := rfl
theorem inL_Q {x : Fr} : inL (dFr x) = false := rfl
theorem ls_Q {n : Nat} {x : Fr} : lsF (n + 2) (dFr x) = false := rfl
theorem any_Q {n : Nat} {xs : List Fr} : (xs.map dFr).any (lsF (n + 2)) = false := any_f (fun _ => rfl) xs
theorem xp_Q0 {x : Fr} : ixP (dFr x) (.int 0) = .ok (.int x.n) := rfl
theorem xp_Q1 {x : Fr} : ixP (dFr x) (.int 1) = .ok (.int x.d) := rfl
theorem t_Q {x : Fr} {t : Ty} : tyP (dFr x) t = .ok (.bl (t == .tuple)) := rfl
theorem l_Q {x : Fr} : biP .len [dFr x] = .ok (.int 2) := rfl
theorem nn_Q {x : Fr} : isNonP (dFr x) = false := rfl
theorem Q_eta {a b : Int} : Dv.tup [.int a, .int b] = dFr ⟨a, b⟩ := rfl
def Fr.sub (x y : Fr) : Fr := ⟨x.n * y.d - y.n * x.d, x.d * y.d⟩
def Fr.add (x y : Fr) : Fr := ⟨x.n * y.d + y.n * x.d, x.d * y.d⟩
def Fr.mul (x y : Fr) : Fr := ⟨x.n * y.n, x.d * y.d⟩
def Fr.quo (x y : Fr) : Fr := ⟨x.n * y.d, x.d * y.n⟩
theorem Fr.v_sub {x y : Fr} (hx : 0 < x.d) (hy : 0 < y.d) : (x.sub y).v = x.v - y.v := by
  unfold Fr.v Fr.sub
  rw [Rat.divInt_sub_divInt _ _ (by omega) (by omega)]
theorem Fr.v_add {x y : Fr} (hx : 0 < x.d) (hy : 0 < y.d) : (x.add y).v = x.v + y.v := by
  unfold Fr.v Fr.add
  rw [Rat.divInt_add_divInt _ _ (by omega) (by omega)]
theorem Fr.v_mul (x y : Fr) : (x.mul y).v = x.v * y.v := by
  unfold Fr.v Fr.mul
  rw [Rat.divInt_mul_divInt]
theorem Fr.v_quo (x y : Fr) : (x.quo y).v = x.v / y.v := by
  unfold Fr.v Fr.quo
  show Rat.divInt (x.n * y.d) (x.d * y.n) = _
  rw [Rat.div_def, Rat.inv_divInt, Rat.divInt_mul_divInt]
theorem Fr.pos_of {x : Fr} (h : 0 < x.d) (hv : 0 < x.v) : 0 < x.n := by
  unfold Fr.v at hv
  rw [Rat.divInt_eq_div] at hv
  have hd : (0 : Rat) < (x.d : Rat) := Rat.intCast_pos.mpr h
  rw [Rat.lt_div_iff hd] at hv
  have : (0 : Rat) < (x.n : Rat) := by grind
  exact Rat.intCast_pos.mp this
theorem Fr.lt {x y : Fr} (hx : 0 < x.d) (hy : 0 < y.d) : x.n * y.d < y.n * x.d ↔ x.v < y.v := by
  unfold Fr.v
  have h1 : (0 : Rat) < (x.d : Rat) := Rat.intCast_pos.mpr hx
  have h2 : (0 : Rat) < (y.d : Rat) := Rat.intCast_pos.mpr hy
  rw [Rat.divInt_eq_div, Rat.divInt_eq_div, Rat.div_lt_iff h1, ← Rat.intCast_lt_intCast, Rat.intCast_mul, Rat.intCast_mul]
  have e : (y.n : Rat) / y.d * x.d * y.d = y.n * x.d := by
    have : (y.n : Rat) / y.d * y.d = y.n := Rat.div_mul_cancel (by grind)
    grind
  rw [← e]
  exact Rat.mul_lt_mul_right h2
theorem Fr.eq {x y : Fr} (hx : 0 < x.d) (hy : 0 < y.d) : x.n * y.d = y.n * x.d ↔ x.v = y.v := by
  have h1 := Fr.lt hx hy
  have h2 := Fr.lt hy hx
  constructor
  · intro h
    have a : ¬ x.v < y.v := fun z => by have := h1.mpr z; omega
    have b : ¬ y.v < x.v := fun z => by have := h2.mpr z; omega
    grind
  · intro h
    have a : ¬ x.n * y.d < y.n * x.d := fun z => by have := h1.mp z; grind
    have b : ¬ y.n * x.d < x.n * y.d := fun z => by have := h2.mp z; grind
    omega
theorem Fr.le {x y : Fr} (hx : 0 < x.d) (hy : 0 < y.d) : x.n * y.d ≤ y.n * x.d ↔ x.v ≤ y.v := by
  have h2 := Fr.lt hy hx
  constructor
  · intro h
    have b : ¬ y.v < x.v := fun z => by have := h2.mpr z; omega
    grind
  · intro h
    have b : ¬ y.n * x.d < x.n * y.d := fun z => by have := h2.mp z; grind
    omega
theorem Fk.sub {x y : Fr} {j k : Nat} (hx : Fk x j) (hy : Fk y k) : Fk (x.sub y) (j + k + 1) := ⟨Int.mul_pos hx.pos hy.pos, sub_lt (mul_lt hx.n hy.d) (by rw [Nat.add_comm]; exact mul_lt hy.n hx.d), up_lt (mul_lt hx.d hy.d) (by omega)⟩
theorem Fk.add {x y : Fr} {j k : Nat} (hx : Fk x j) (hy : Fk y k) : Fk (x.add y) (j + k + 1) := ⟨Int.mul_pos hx.pos hy.pos, add_lt (mul_lt hx.n hy.d) (by rw [Nat.add_comm]; exact mul_lt hy.n hx.d), up_lt (mul_lt hx.d hy.d) (by omega)⟩
theorem Fk.mul {x y : Fr} {j k : Nat} (hx : Fk x j) (hy : Fk y k) : Fk (x.mul y) (j + k) := ⟨Int.mul_pos hx.pos hy.pos, mul_lt hx.n hy.n, mul_lt hx.d hy.d⟩
theorem Fk.quo {x y : Fr} {j k : Nat} (hx : Fk x j) (hy : Fk y k) (hp : 0 < y.v) : Fk (x.quo y) (j + k) := ⟨Int.mul_pos hx.pos (Fr.pos_of hy.pos hp), mul_lt hx.n hy.d, mul_lt hx.d hy.n⟩
theorem Fk.m1 {x y : Fr} {j k : Nat} (hx : Fk x j) (hy : Fk y k) (h : j + k ≤ 1000000) : mulOk x.n y.d := mulOk_of hx.n hy.d h
theorem Fk.m2 {x y : Fr} {j k : Nat} (hx : Fk x j) (hy : Fk y k) (h : j + k ≤ 1000000) : mulOk x.n y.n := mulOk_of hx.n hy.n h
theorem Fk.m3 {x y : Fr} {j k : Nat} (hx : Fk x j) (hy : Fk y k) (h : j + k ≤ 1000000) : mulOk x.d y.d := mulOk_of hx.d hy.d h
theorem Fk.m4 {x y : Fr} {j k : Nat} (hx : Fk x j) (hy : Fk y k) (h : j + k ≤ 1000000) : mulOk x.d y.n := mulOk_of hx.d hy.n h

end Q
namespace Q
open PySem MP FP
theorem at_mod {α : Type} (f : α → Dv) (xs : List α) (a : Int) (h : 0 < xs.length) : ∃ x ∈ xs, L2.atI (xs.map f) (a % (xs.length : Int)) = some (f x) := by
  have h1 := Int.emod_nonneg a (b := (xs.length : Int)) (by omega)
  have h2 := Int.emod_lt_of_pos a (b := (xs.length : Int)) (by omega)
  obtain ⟨k, hk⟩ : ∃ k : Nat, a % (xs.length : Int) = (k : Int) := ⟨(a % (xs.length : Int)).toNat, by omega⟩
  obtain ⟨x, hx⟩ : ∃ x, xs[k]? = some x := ⟨_, List.getElem?_eq_getElem (by omega)⟩
  exact ⟨x, List.mem_of_getElem? hx, by rw [hk]; exact at_map hx⟩
theorem ups_ge : ∀ {c : Cn} {r : List Cn} {x : Cn}, Ups c r → x ∈ c :: r → ¬ x.1 < c.1
  | c, [], x, u, h => by
    have := List.mem_singleton.mp h
    subst this
    grind
  | c, d :: r, x, u, h => by
    rcases List.mem_cons.mp h with h | h
    · subst h
      grind
    · have := ups_ge u.2 h
      have := u.1
      grind
theorem num_nn {q : Rat} (h : ¬ q < 0) : 0 ≤ q.num := by
  rw [Rat.lt_iff] at h
  have h' : ¬ (q.num * ((1 : Nat) : Int) < 0 * (q.den : Int)) := h
  rw [Int.zero_mul] at h'
  omega
theorem divOk_s (c k : Int) (hk : 0 < k ∧ k.natAbs < 2 ^ 256) : divOk c k := ⟨by omega, by
  unfold Builtin.divisionGoesByPylong
  simp only [Bool.and_eq_false_iff, decide_eq_false_iff_not, Nat.not_lt]
  left
  by_cases h0 : k = 0
  · subst h0
    decide
  · rw [if_neg (by simpa using h0)]
    have := log2_lt_of' hk.2 (by omega)
    omega⟩
theorem divOk4 (c : Int) : divOk c 4 := divOk_s c 4 ⟨by decide, up_lt (k := 3) (by decide) (by decide)⟩
theorem fdiv4 (c : Int) : c.fdiv 4 = c / 4 := Int.fdiv_eq_ediv_of_nonneg _ (by omega)
theorem fdp (c : Int) {k : Int} (h : 0 < k) : c.fdiv k = c / k := Int.fdiv_eq_ediv_of_nonneg _ (by omega)
theorem dlt {a b d : Int} (hd : 0 < d) : Rat.divInt a d < Rat.divInt b d ↔ a < b := by
  have h : (0 : Rat) < (d : Rat) := Rat.intCast_pos.mpr hd
  rw [Rat.divInt_eq_div, Rat.divInt_eq_div, Rat.div_lt_iff h, Rat.div_mul_cancel (by grind), Rat.intCast_lt_intCast]
theorem nn_div {a b : Int} (ha : 0 ≤ a) (hb : 0 < b) : ¬ Rat.divInt a b < 0 := by
  rw [Rat.lt_iff]
  have h : 0 ≤ (Rat.divInt a b).num := by
    rw [Rat.num_divInt, Int.sign_eq_one_of_pos hb, Int.one_mul]
    exact Int.ediv_nonneg ha (by omega)
  show ¬ ((Rat.divInt a b).num * ((1 : Nat) : Int) < 0 * _)
  rw [Int.zero_mul]
  omega
theorem fdiv3 (c : Int) : c.fdiv 3 = c / 3 := Int.fdiv_eq_ediv_of_nonneg _ (by omega)
theorem divOk3 (c : Int) : divOk c 3 := divOk_s c 3 ⟨by decide, up_lt (k := 3) (by decide) (by decide)⟩
theorem rng_st (i m s : Nat) (hi : i < 24) (hm : m < 64) (hs : s < 5) (h0 : 0 < s) : rngP [.int (i : Int), .int (m : Int), .int (s : Int)] = .ok (.tup (stepsP (i : Int) (s : Int) ((m - i + s - 1) / s))) := by
  have : ∀ i ∈ List.range 24, ∀ m ∈ List.range 64, ∀ s ∈ ([1, 2, 3, 4] : List Nat), ((s : Int) ≠ 0 ∧ (s : Int).natAbs < 1073741824 ∧ Builtin.Range.small (i : Int) (m : Int) (s : Int) = true ∧ 0 ≤ Builtin.Range.rangeSize (i : Int) (m : Int) (s : Int)) ∧ (Builtin.Range.rangeSize (i : Int) (m : Int) (s : Int)).toNat = (m - i + s - 1) / s := by decide +kernel
  obtain ⟨h1, h2⟩ := this i (List.mem_range.mpr hi) m (List.mem_range.mpr hm) s (by simp; omega)
  rw [rp_3, if_pos (show rngOk (i : Int) (m : Int) (s : Int) from h1), h2]
theorem lc_ints {Φ : Str → List Dv → Rv Dv} {σ : Ev} (P : Int → Prop) (s : Nat) (c e : Ex) : ∀ (n : Nat) (i st : Int), (∀ j : Nat, j < n → evP Φ c (σ.set s (some (.int (i + st * j)))) = .ok (.bl true)) → (∀ j : Nat, j < n → ∃ x, evP Φ e (σ.set s (some (.int (i + st * j)))) = .ok (.int x) ∧ P x) → ∃ ms : List Int, ms.length = n ∧ (∀ x ∈ ms, P x) ∧ lcQ Φ s c e σ (stepsP i st n) = .ok (ms.map Dv.int)
  | 0, i, st, _, _ => ⟨[], rfl, fun x hx => absurd hx List.not_mem_nil, FP.lc_nil⟩
  | n + 1, i, st, h1, h2 => by
    obtain ⟨ms, a, b, d⟩ := lc_ints P s c e n (i + st) st (fun j hj => by have := h1 (j + 1) (by omega); rw [show i + st + st * (j : Int) = i + st * ((j + 1 : Nat) : Int) by rw [Int.natCast_add, Int.mul_add]; omega]; exact this) (fun j hj => by have := h2 (j + 1) (by omega); rw [show i + st + st * (j : Int) = i + st * ((j + 1 : Nat) : Int) by rw [Int.natCast_add, Int.mul_add]; omega]; exact this)
    obtain ⟨x, hx, px⟩ := h2 0 (by omega)
    have h0 := h1 0 (by omega)
    rw [show i + st * ((0 : Nat) : Int) = i by simp] at hx h0
    refine ⟨x :: ms, by rw [List.length_cons, a], fun y hy => ?_, ?_⟩
    · rcases List.mem_cons.mp hy with e | hy
      · rw [e]; exact px
      · exact b y hy
    · rw [stepsP, List.map_cons]
      exact FP.lc_cons (y := .int x) h0 hx d
theorem cast_pos {a : Int} (h : 0 < a) : (0 : Rat) < (a : Rat) := Rat.intCast_pos.mpr h
theorem divInt_ext {a b c : Int} (hb : 0 < b) (hc : 0 < c) : Rat.divInt a b = Rat.divInt (a * c) (b * c) := by
  have h1 := Rat.divInt_mul_divInt a c (d₁ := b) (d₂ := c)
  have h2 : Rat.divInt c c = 1 := by
    rw [Rat.divInt_eq_div, Rat.div_def]
    have := cast_pos hc
    grind
  rw [← h1, h2]
  grind
theorem Fr.nn {x : Fr} (h : 0 ≤ x.n) (hd : 0 < x.d) : 0 ≤ x.v := by
  have : ¬ x.v < 0 := nn_div h hd
  grind
/-- a row of whole numbers: time, value, slope behind -/
abbrev Rw := Int × Int × Int
def dI (x : Rw) : Dv := .tup [.int x.1, .int x.2.1, .int x.2.2]
theorem getP_I {w : Rw} : getP (some (some (dI w))) = .ok (dI w) := rfl
theorem rawP_I {w : Rw} : rawP (some (some (dI w))) = .rt (dI w) := rfl
theorem frz_I {w : Rw} : frz (dI w) = dI w := rfl
theorem isL_I {w : Rw} : isL (dI w) = false := rfl
theorem inL_I {w : Rw} : inL (dI w) = false := rfl
theorem ls_I {n : Nat} {w : Rw} : lsF (n + 2) (dI w) = false := rfl
theorem any_I {n : Nat} {xs : List Rw} : (xs.map dI).any (lsF (n + 2)) = false := any_f (fun _ => rfl) xs
theorem xp_I0 {w : Rw} : ixP (dI w) (.int 0) = .ok (.int w.1) := rfl
theorem xp_I1 {w : Rw} : ixP (dI w) (.int 1) = .ok (.int w.2.1) := rfl
theorem xp_I2 {w : Rw} : ixP (dI w) (.int 2) = .ok (.int w.2.2) := rfl
theorem I_eta {a b c : Int} : Dv.tup [.int a, .int b, .int c] = dI (a, b, c) := rfl
def Chn : Rw → List Rw → Prop
  | _, [] => True
  | y, x :: l => y.1 < x.1 ∧ x.2.1 = y.2.1 + (x.1 - y.1) * y.2.2 ∧ Chn x l
structure RwSz (x : Rw) : Prop where
  a : 0 ≤ x.1 ∧ x.1 < 2 ^ 75
  v : 0 ≤ x.2.1 ∧ x.2.1 < 2 ^ 145
  m : 0 ≤ x.2.2 ∧ x.2.2 < 2 ^ 67
/-- rows of a law's curve -/
structure Raw (y : Rw) (l : List Rw) : Prop where
  a0 : y.1 = 0
  chn : Chn y l
  sz : ∀ x ∈ y :: l, RwSz x
  len : l.length ≤ 61
theorem Fr.n0_iff {x : Fr} (hd : 0 < x.d) : 0 ≤ x.n ↔ 0 ≤ x.v := by
  have h := Fr.le (x := ⟨0, 1⟩) (y := x) (by decide) hd
  have e : (⟨0, 1⟩ : Fr).v = 0 := by unfold Fr.v; exact Rat.zero_divInt 1
  rw [e] at h
  rw [← h]
  show _ ↔ 0 * x.d ≤ x.n * 1
  rw [Int.zero_mul, Int.mul_one]

end Q
namespace Q
open PySem MP FP
theorem r_cell_at (n : Nat) (ns : List Int) (k : Int) (h0 : 0 ≤ k) : runTP T (n + 1) "_law_cell_at" [.scr (ns.map Dv.int), .int k] = .ok (.int (cell ns k)) := by
  rw [runTP_succ T__law_cell_at]
  unfold F__law_cell_at
  by_cases h : k < ns.length
  · simp only [ME_, List.length_map, h, sc_at ns k h0 h]
  · have hc : cell ns k = 0 := by
      unfold cell
      rw [List.getD_eq_getElem?_getD, List.getElem?_eq_none (by omega)]
      rfl
    simp only [ME_, List.length_map, h, hc]

end Q
namespace Q
open PySem MP FP
theorem low_loop {Φ : Str → List Dv → Rv Dv} (e0 e1 : Option Dv) : ∀ (n : Nat) (a b : Nat) (r : Option Dv), b ≤ n → ∃ r', whP Φ C__law_lowest_1 B__law_lowest_1 [e0, e1, some (.int a), some (.int b), r] = .nx [e0, e1, some (.int (Nat.gcd a b)), some (.int 0), r']
  | n, a, 0, r, _ => by
    refine ⟨r, ?_⟩
    rw [wh_end (by simp only [ME_, VC__law_lowest_1, np_int] <;> rfl)]
    simp
  | 0, a, b + 1, r, h => absurd h (by omega)
  | n + 1, a, b + 1, r, h => by
    have hb : ((b + 1 : Nat) : Int) ≠ 0 := by omega
    have hlt : a % (b + 1) < b + 1 := Nat.mod_lt _ (by omega)
    obtain ⟨r', ih⟩ := low_loop e0 e1 n (b + 1) (a % (b + 1)) (some (.int ((a % (b + 1) : Nat) : Int))) (by omega)
    refine ⟨r', ?_⟩
    have hm : (a : Int).fmod ((b + 1 : Nat) : Int) = ((a % (b + 1) : Nat) : Int) := by
      rw [Int.fmod_eq_emod_of_nonneg _ (by omega)]
      rfl
    rw [wh_go (by simp only [ME_, VC__law_lowest_1, hb]) (by simp only [ME_, VB__law_lowest_1, hb, hm] <;> rfl) ih (fun z => by cases z)]
    rw [Nat.gcd_comm a, Nat.gcd_rec (b + 1) a, Nat.gcd_comm]
theorem r_lowest (n : Nat) (t b : Int) (hb : 0 < b) (ht : t.natAbs < 2 ^ BIG) (hbb : b.natAbs < 2 ^ BIG) : runTP T (n + 1) "_law_lowest" [.int t, .int b] = .ok (dR (Rat.divInt t b)) := by
  rw [runTP_succ T__law_lowest]
  obtain ⟨r, hl⟩ := low_loop (Φ := runTP T n) (some (.int t)) (some (.int b)) b.natAbs t.natAbs b.natAbs none (Nat.le_refl _)
  have hb' : ((b.natAbs : Nat) : Int) = b := by omega
  rw [hb'] at hl
  have hg : ((Nat.gcd t.natAbs b.natAbs : Nat) : Int) ≠ 0 := by
    intro h
    have h' : Int.gcd t b = 0 := by show Nat.gcd t.natAbs b.natAbs = 0; omega
    have := (Int.gcd_eq_zero_iff.mp h').2
    omega
  have hp := div_pos_parts t b hb
  have d1 := divOk_of hg ht
  have d2 := divOk_of hg hbb
  have p1 : t.fdiv (Nat.gcd t.natAbs b.natAbs : Nat) = (Rat.divInt t b).num := hp.1
  have p2 : b.fdiv (Nat.gcd t.natAbs b.natAbs : Nat) = ((Rat.divInt t b).den : Int) := hp.2
  unfold F__law_lowest
  simp only [MR_, abs_nat, hl, d1, d2, p1, p2]

end Q
namespace Q
open PySem MP FP
theorem r_is_ratio (n : Nat) (q : Rat) (hq : Sz q) : runTP T (n + 2) "_law_is_ratio" [dR q] = .ok (.bl true) := by
  rw [runTP_succ T__law_is_ratio]
  unfold F__law_is_ratio
  have hd : 0 < (q.den : Int) := by have := q.den_pos; omega
  have e := r_lowest n q.num q.den hd (up_lt hq.1 z1) (up_lt (den_lt hq) z1)
  rw [Rat.num_divInt_den] at e
  simp only [MR_, fo_cons, ls_int, VB__law_is_ratio_1, hd, e]

end Q
namespace Q
open PySem MP FP
theorem r_less (n : Nat) {x y : Fr} {j k : Nat} (hx : Fk x j) (hy : Fk y k) (h : j + k ≤ 1000000) : runTP T (n + 1) "_law_less" [dFr x, dFr y] = .ok (.bl (decide (x.v < y.v))) := by
  rw [runTP_succ T__law_less]
  unfold F__law_less
  have m1 := hx.m1 hy h
  have m2 := hy.m1 hx (by omega)
  simp only [MQ_, m1, m2]
  rw [decide_eq_decide.mpr (Fr.lt hx.pos hy.pos)]
theorem r_less_R (n : Nat) {x y : Rat} (hx : Sz x) (hy : Sz y) : runTP T (n + 1) "_law_less" [dR x, dR y] = .ok (.bl (decide (x < y))) := by
  have := r_less n (Fk.of hx) (Fk.of hy) zm
  rw [Fr.v_of, Fr.v_of] at this
  exact this
theorem r_less_1 (n : Nat) {x : Fr} {y : Rat} {j : Nat} (hx : Fk x j) (hy : Sz y) (h : j ≤ 900000) : runTP T (n + 1) "_law_less" [dFr x, dR y] = .ok (.bl (decide (x.v < y))) := by
  have := r_less n hx (Fk.of hy) (by rw [SZ_eq]; omega)
  rw [Fr.v_of] at this
  exact this
theorem r_less_2 (n : Nat) {x : Rat} {y : Fr} {j : Nat} (hx : Sz x) (hy : Fk y j) (h : j ≤ 900000) : runTP T (n + 1) "_law_less" [dR x, dFr y] = .ok (.bl (decide (x < y.v))) := by
  have := r_less n (Fk.of hx) hy (by rw [SZ_eq]; omega)
  rw [Fr.v_of] at this
  exact this

end Q
namespace Q
open PySem MP FP
theorem r_lminus (n : Nat) {x y : Fr} {j k : Nat} (hx : Fk x j) (hy : Fk y k) (h : j + k ≤ 1000000) : runTP T (n + 1) "_law_minus" [dFr x, dFr y] = .ok (dFr (x.sub y)) := by
  rw [runTP_succ T__law_minus]
  unfold F__law_minus
  have m1 := hx.m1 hy h
  have m2 := hy.m1 hx (by omega)
  have m3 := hx.m3 hy h
  simp only [MQ_, m1, m2, m3]
  rfl
theorem r_lminus_R (n : Nat) {x y : Rat} (hx : Sz x) (hy : Sz y) : runTP T (n + 1) "_law_minus" [dR x, dR y] = .ok (dFr ((Fr.of x).sub (Fr.of y))) := by
  have := r_lminus n (x := Fr.of x) (y := Fr.of y) (Fk.of hx) (Fk.of hy) zm
  exact this
theorem r_lminus_1 (n : Nat) {x : Fr} {y : Rat} {j : Nat} (hx : Fk x j) (hy : Sz y) (h : j ≤ 900000) : runTP T (n + 1) "_law_minus" [dFr x, dR y] = .ok (dFr (x.sub (Fr.of y))) := by
  have := r_lminus n (x := x) (y := Fr.of y) hx (Fk.of hy) (by rw [SZ_eq]; omega)
  exact this
theorem r_lminus_2 (n : Nat) {x : Rat} {y : Fr} {j : Nat} (hx : Sz x) (hy : Fk y j) (h : j ≤ 900000) : runTP T (n + 1) "_law_minus" [dR x, dFr y] = .ok (dFr ((Fr.of x).sub y)) := by
  have := r_lminus n (x := Fr.of x) (y := y) (Fk.of hx) hy (by rw [SZ_eq]; omega)
  exact this

end Q
namespace Q
open PySem MP FP
/-- the slope between two corners, as the laws reckon it -/
def slF (p d : Cn) : Fr := ((Fr.of d.2).sub (Fr.of p.2)).quo ((Fr.of d.1).sub (Fr.of p.1))
theorem slF_v (p d : Cn) : (slF p d).v = slope p d := by
  unfold slF slope
  rw [Fr.v_quo, Fr.v_sub (by have := d.2.den_pos; show 0 < (d.2.den : Int); omega) (by have := p.2.den_pos; show 0 < (p.2.den : Int); omega), Fr.v_sub (by have := d.1.den_pos; show 0 < (d.1.den : Int); omega) (by have := p.1.den_pos; show 0 < (p.1.den : Int); omega), Fr.v_of, Fr.v_of, Fr.v_of, Fr.v_of]
theorem bend_ne {x1 x2 y1 y2 : Fr} (h1 : 0 < x1.d) (h2 : 0 < x2.n) (h3 : 0 < y1.d) (h4 : 0 < y2.n) (h : (x1.quo x2).v ≠ (y1.quo y2).v) : ¬ x1.n * x2.d * y1.d * y2.n = y1.n * y2.d * x1.d * x2.n := by
  intro z
  apply h
  refine (Fr.eq (x := x1.quo x2) (y := y1.quo y2) (Int.mul_pos h1 h2) (Int.mul_pos h3 h4)).mp ?_
  show x1.n * x2.d * (y1.d * y2.n) = y1.n * y2.d * (x1.d * x2.n)
  rw [← Int.mul_assoc, z, Int.mul_assoc]
theorem r_bends (n K : Nat) (cs pre : List Cn) (p d : Cn) (r : List Cn) (s : Rat) (hcs : cs = pre ++ p :: d :: r) (hz : ∀ x ∈ cs, Rb x.1 K ∧ Rb x.2 K) (hs : Rb s K) (hK : K ≤ 6700) (u1 : p.1 < d.1) (u2 : ∀ e r', r = e :: r' → d.1 < e.1) (hne : slope p d ≠ behind d r s) : runTP T (n + 2) "_law_bends" [dF cs s, .int ((pre.length + 1 : Nat) : Int)] = .ok (.bl true) := by
  rw [runTP_succ T__law_bends]
  have zp := hz p (by rw [hcs]; simp)
  have zd := hz d (by rw [hcs]; simp)
  have i1 := i_at (cs := cs) (pre := pre ++ [p]) (c := d) (r := r) (k := ((pre.length + 1 : Nat) : Int)) (by rw [hcs]; simp) (by simp)
  have i0 := i_at (cs := cs) (pre := pre) (c := p) (r := d :: r) (k := (pre.length : Int)) hcs rfl
  have e1 : ((pre.length + 1 : Nat) : Int) - 1 = (pre.length : Int) := by omega
  have kp1 := Fk.of zp.1
  have kp2 := Fk.of zp.2
  have kd1 := Fk.of zd.1
  have kd2 := Fk.of zd.2
  have m1 := r_lminus_R n (zd.2.sz hK) (zp.2.sz hK)
  have m2 := r_lminus_R n (zd.1.sz hK) (zp.1.sz hK)
  have kr := kd2.sub kp2
  have ks := kd1.sub kp1
  have vs : ((Fr.of d.1).sub (Fr.of p.1)).v = d.1 - p.1 := by rw [Fr.v_sub kd1.pos kp1.pos, Fr.v_of, Fr.v_of]
  have ns := Fr.pos_of ks.pos (by rw [vs]; grind)
  obtain ⟨rise, hrise⟩ : ∃ x, x = (Fr.of d.2).sub (Fr.of p.2) := ⟨_, rfl⟩
  obtain ⟨span, hspan⟩ : ∃ x, x = (Fr.of d.1).sub (Fr.of p.1) := ⟨_, rfl⟩
  have vx : (rise.quo span).v = slope p d := by rw [hrise, hspan]; exact slF_v p d
  rw [← hrise] at m1 kr
  rw [← hspan] at m2 ks vs ns
  unfold F__law_bends
  cases r with
  | nil =>
    have y1 : ¬ ((pre.length + 1 : Nat) : Int) + 1 < (cs.length : Int) := by rw [hcs]; simp; omega
    have kb := Fk.of hs
    have kw : Fk ⟨1, 1⟩ 1 := ⟨by decide, by decide, by decide⟩
    have hv : (rise.quo span).v ≠ ((Fr.of s).quo ⟨1, 1⟩).v := by
      rw [vx, Fr.v_quo, Fr.v_of, show (⟨1, 1⟩ : Fr).v = 1 from rfl]
      have : s / 1 = s := by rw [Rat.div_def]; grind
      rw [this]
      exact hne
    have hb := bend_ne kr.pos ns kb.pos (show 0 < (⟨1, 1⟩ : Fr).n by decide) hv
    have q1 : mulOk rise.n span.d := mulOk_of kr.n ks.d (by omega)
    have q2 : mulOk (rise.n * span.d) (s.den : Int) := mulOk_of (mul_lt kr.n ks.d) kb.d (by omega)
    have q3 : mulOk (rise.n * span.d * (s.den : Int)) 1 := mulOk_small (by decide)
    have q4 : mulOk s.num 1 := mulOk_small (by decide)
    have q5 : mulOk (s.num * 1) rise.d := mulOk_of (mul_lt kb.n kw.n) kr.d (by omega)
    have q6 : mulOk (s.num * 1 * rise.d) span.n := mulOk_of (mul_lt (mul_lt kb.n kw.n) kr.d) ks.n (by omega)
    have hb' : ¬ rise.n * span.d * (s.den : Int) * 1 = s.num * 1 * rise.d * span.n := hb
    simp only [MQ_, i1, i0, e1, m1, m2, List.length_map, y1, q1, q2, q3, q4, q5, q6, hb']
  | cons e r =>
    have ze := hz e (by rw [hcs]; simp)
    have u3 := u2 e r rfl
    have y1 : ((pre.length + 1 : Nat) : Int) + 1 < (cs.length : Int) := by rw [hcs]; simp; omega
    have i2 := i_at (cs := cs) (pre := pre ++ [p, d]) (c := e) (r := r) (k := ((pre.length + 1 : Nat) : Int) + 1) (by rw [hcs]; simp) (by simp; omega)
    have ke1 := Fk.of ze.1
    have ke2 := Fk.of ze.2
    have m3 := r_lminus_R n (ze.2.sz hK) (zd.2.sz hK)
    have m4 := r_lminus_R n (ze.1.sz hK) (zd.1.sz hK)
    have kb := ke2.sub kd2
    have kw := ke1.sub kd1
    have vw : ((Fr.of e.1).sub (Fr.of d.1)).v = e.1 - d.1 := by rw [Fr.v_sub ke1.pos kd1.pos, Fr.v_of, Fr.v_of]
    have nw := Fr.pos_of kw.pos (by rw [vw]; grind)
    have vy : (slF d e).v = slope d e := slF_v d e
    unfold slF at vy
    generalize (Fr.of e.2).sub (Fr.of d.2) = bh at *
    generalize (Fr.of e.1).sub (Fr.of d.1) = wd at *
    have hb := bend_ne kr.pos ns kb.pos nw (by rw [vx, vy]; exact hne)
    have q1 : mulOk rise.n span.d := mulOk_of kr.n ks.d (by omega)
    have q2 : mulOk (rise.n * span.d) bh.d := mulOk_of (mul_lt kr.n ks.d) kb.d (by omega)
    have q3 : mulOk (rise.n * span.d * bh.d) wd.n := mulOk_of (mul_lt (mul_lt kr.n ks.d) kb.d) kw.n (by omega)
    have q4 : mulOk bh.n wd.d := mulOk_of kb.n kw.d (by omega)
    have q5 : mulOk (bh.n * wd.d) rise.d := mulOk_of (mul_lt kb.n kw.d) kr.d (by omega)
    have q6 : mulOk (bh.n * wd.d * rise.d) span.n := mulOk_of (mul_lt (mul_lt kb.n kw.d) kr.d) ks.n (by omega)
    simp only [MQ_, i1, i0, i2, e1, m1, m2, m3, m4, List.length_map, y1, q1, q2, q3, q4, q5, q6, hb]

end Q
namespace Q
open PySem MP FP
theorem ic1 (n : Nat) (X : Dv) (e2 : Option Dv) : ∀ (cs : List Cn) (e1 : Option Dv), (∀ x ∈ cs, Sz x.1 ∧ Sz x.2) → ∃ e1', foP (runTP T (n + 3)) 1 B__law_is_curve_1 (cs.map dC) [some X, e1, e2] = .nx [some X, e1', e2]
  | [], e1, _ => ⟨e1, rfl⟩
  | c :: cs, e1, h => by
    obtain ⟨e1', ih⟩ := ic1 n X e2 cs (some (dC c)) (fun x hx => h x (List.mem_cons_of_mem _ hx))
    have hc := h c List.mem_cons_self
    refine ⟨e1', ?_⟩
    rw [← ih]
    simp only [MC_, List.map_cons, fo_cons, VB__law_is_curve_1, r_is_ratio, hc.1, hc.2, show (Ty.tuple == Ty.tuple) = true from rfl]
theorem ic2 (n K : Nat) (cs : List Cn) (s : Rat) (e1 : Option Dv) (hz : ∀ x ∈ cs, Rb x.1 K ∧ Rb x.2 K) (hs : Rb s K) (hK : K ≤ 6700) : ∀ (r pre : List Cn) (p : Cn) (e2 : Option Dv), cs = pre ++ p :: r → Ups p r → Nds p r → NF s p r → ∃ e2', foP (runTP T (n + 3)) 2 B__law_is_curve_2 (stepsP ((pre.length + 1 : Nat) : Int) 1 r.length) [some (dF cs s), e1, e2] = .nx [some (dF cs s), e1, e2']
  | [], pre, p, e2, _, _, _, _ => ⟨e2, rfl⟩
  | d :: r, pre, p, e2, hcs, u, nd, nf => by
    obtain ⟨e2', ih⟩ := ic2 n K cs s e1 hz hs hK r (pre ++ [p]) d (some (.int ((pre.length + 1 : Nat) : Int))) (by rw [hcs]; simp) u.2 nd.2 nf.2
    have zp := hz p (by rw [hcs]; simp)
    have zd := hz d (by rw [hcs]; simp)
    have i1 := i_at (cs := cs) (pre := pre ++ [p]) (c := d) (r := r) (k := ((pre.length + 1 : Nat) : Int)) (by rw [hcs]; simp) (by simp)
    have i0 := i_at (cs := cs) (pre := pre) (c := p) (r := d :: r) (k := (pre.length : Int)) hcs rfl
    have x1 : ((pre.length + 1 : Nat) : Int) - 1 = (pre.length : Int) := by omega
    have b := r_bends (n + 1) K cs pre p d r s hcs hz hs hK u.1 (fun e r' z => by have := u.2; rw [z] at this; exact this.1) nf.1
    have l1 := r_less_R (n + 2) (zp.1.sz hK) (zd.1.sz hK)
    have l2 := r_less_R (n + 2) (zd.2.sz hK) (zp.2.sz hK)
    have u1 := u.1
    have n1 := nd.1
    have ep : (((pre ++ [p]).length + 1 : Nat) : Int) = ((pre.length + 1 : Nat) : Int) + 1 := by simp
    rw [ep] at ih
    refine ⟨e2', ?_⟩
    rw [← ih, show (d :: r).length = r.length + 1 from rfl, stepsP_s]
    simp only [MC_, fo_cons, VB__law_is_curve_2, i0, i1, x1, l1, l2, u1, n1, b]
theorem r_is_curve0 (n K : Nat) (hK : K ≤ 6700) (c : Cn) (r : List Cn) (s : Rat) (hz : ∀ x ∈ c :: r, Rb x.1 K ∧ Rb x.2 K) (ss : Rb s K) (up : Ups c r) (nd : Nds c r) (nf : NF s c r) (c0 : c.1 = 0) (v0 : ¬ c.2 < 0) (s0 : ¬ s < 0) (hl : r.length ≤ 390000) : runTP T (n + 4) "_law_is_curve" [dF (c :: r) s] = .ok (.bl true) := by
  rw [runTP_succ T__law_is_curve]
  obtain ⟨e1, h1⟩ := ic1 n (dF (c :: r) s) none (c :: r) none (fun x hx => ⟨(hz x hx).1.sz (by omega), (hz x hx).2.sz (by omega)⟩)
  obtain ⟨e2, h2⟩ := ic2 n K (c :: r) s e1 hz ss hK r [] c none rfl up nd nf
  have ri := r_is_ratio (n + 1) s (ss.sz (by omega))
  have i0 : L2.atI ((c :: r).map dC) 0 = some (dC c) := at_0
  have hrg := rng1 r.length (by omega)
  have hln : ((c :: r).length : Int) = ((r.length + 1 : Nat) : Int) := rfl
  have x1 : ¬ ((r.length + 1 : Nat) : Int) = 0 := by omega
  have d0 : decide (c.1 = 0) = true := decide_eq_true c0
  have h2' : foP (runTP T (n + 3)) 2 B__law_is_curve_2 (stepsP 1 1 r.length) _ = _ := h2
  generalize c :: r = cs at *
  unfold F__law_is_curve
  simp only [MC_, ri, h1, h2', i0, num_neg, s0, v0, d0, List.length_map, hln, x1, hrg, any_steps, show (Ty.tuple == Ty.tuple) = true from rfl]

end Q
namespace Q
open PySem MP FP
theorem PL.sub {P Q R : Rat → Rat → Prop} (hR : ∀ m q m' q', P m q → Q m' q' → R (m - m') (q - q')) {F G : Rat → Rat} {s s' a : Rat} {l : List Rat} (h : PL P F s a l) : PL Q G s' a l → PL R (fun t => F t - G t) (s - s') a l := by
  induction h with
  | @last a f1 f2 =>
    intro hG
    cases hG with
    | last g1 g2 =>
      refine .last (fun t ht => ?_) ?_
      · show F t - G t = F a - G a + (s - s') * (t - a)
        rw [f1 t ht, g1 t ht]
        grind
      · have := hR _ _ _ _ f2 g2
        rw [show F a - G a - (s - s') * a = F a - s * a - (G a - s' * a) by grind]
        exact this
  | @cons a b l m h1 h2 h3 h4 ih =>
    intro hG
    cases hG with
    | cons k g1 g2 g3 g4 =>
      refine .cons (m - k) h1 (fun t ht ht' => ?_) ?_ (ih g4)
      · show F t - G t = F a - G a + (m - k) * (t - a)
        rw [h2 t ht ht', g2 t ht ht']
        grind
      · have := hR _ _ _ _ h3 g3
        rw [show F a - G a - (m - k) * a = F a - m * a - (G a - k * a) by grind]
        exact this
/-- x is the most, from nought, that D has come to -/
structure IsL (D : Rat → Rat) (t x : Rat) : Prop where
  nn : 0 ≤ x
  ge : ∀ s, 0 ≤ s → s ≤ t → D s ≤ x
  at_ : x = 0 ∨ ∃ s, 0 ≤ s ∧ s ≤ t ∧ x = D s
theorem IsL.unique {D : Rat → Rat} {t x y : Rat} (h : IsL D t x) (k : IsL D t y) : x = y := by
  have h1 : x ≤ y := by
    rcases h.at_ with e | ⟨s, a, b, e⟩
    · rw [e]; exact k.nn
    · rw [e]; exact k.ge s a b
  have h2 : y ≤ x := by
    rcases k.at_ with e | ⟨s, a, b, e⟩
    · rw [e]; exact h.nn
    · rw [e]; exact h.ge s a b
  grind
/-- it stays where D does not come above -/
theorem IsL.stay {D : Rat → Rat} {a t x : Rat} (h : IsL D a x) (hat : a ≤ t) (k : ∀ s, a ≤ s → s ≤ t → D s ≤ x) : IsL D t x := by
  refine ⟨h.nn, fun s h1 h2 => ?_, ?_⟩
  · by_cases z : s ≤ a
    · exact h.ge s h1 z
    · exact k s (by grind) h2
  · rcases h.at_ with e | ⟨s, h1, h2, e⟩
    · exact .inl e
    · exact .inr ⟨s, h1, by grind, e⟩
/-- it goes with D where D rises from there -/
theorem IsL.go {D : Rat → Rat} {a t x : Rat} (h : IsL D a x) (a0 : 0 ≤ a) (hat : a ≤ t) (hx : x ≤ D t) (k : ∀ s, a ≤ s → s ≤ t → D s ≤ D t) : IsL D t (D t) := by
  refine ⟨by have := h.nn; grind, fun s h1 h2 => ?_, .inr ⟨t, by grind, Rat.le_refl, rfl⟩⟩
  by_cases z : s ≤ a
  · have := h.ge s h1 z
    grind
  · exact k s (by grind) h2
structure LC (D : Rat → Rat) (P : Rat → Rat → Prop) (u : Rat) (a ha : Rat) (r : List Cn) : Prop where
  up : Ups (a, ha) r
  nd : Nds (a, ha) r
  ln : Lns P u (a, ha) r
  v : ∀ t, a ≤ t → IsL D t (val u t (a, ha) r)
theorem LC.cons {D : Rat → Rat} {P : Rat → Rat → Prop} {u a ha b hb : Rat} {r : List Cn} (m : Rat) (hab : a < b) (hm : hb = ha + m * (b - a)) (hle : ha ≤ hb) (p : P m (ha - m * a)) (hv : ∀ t, a ≤ t → t < b → IsL D t (ha + m * (t - a))) (h : LC D P u b hb r) : LC D P u a ha ((b, hb) :: r) := by
  have es : slope (a, ha) (b, hb) = m := quo_of (show b - a ≠ 0 by grind) (show hb - ha = m * (b - a) by grind)
  refine ⟨⟨hab, h.up⟩, ⟨by show ¬ hb < ha; grind, h.nd⟩, ⟨by rw [es]; exact p, h.ln⟩, fun t ht => ?_⟩
  show IsL D t (if t < b then ha + slope (a, ha) (b, hb) * (t - a) else val u t (b, hb) r)
  split
  · rw [es]
    exact hv t ht (by assumption)
  · exact h.v t (by grind)
def lcor (D : Rat → Rat) : Rat → Rat → List Rat → List Cn
  | _, _, [] => []
  | a, hi, b :: l => if hi < D b then (if D a < hi then (a + (hi - D a) / (D b - D a) * (b - a), hi) :: (b, D b) :: lcor D b (D b) l else (b, D b) :: lcor D b (D b) l) else (b, hi) :: lcor D b hi l
def lhi (D : Rat → Rat) : Rat → List Rat → Rat
  | hi, [] => hi
  | hi, b :: l => if hi < D b then lhi D (D b) l else lhi D hi l
def ltail (D : Rat → Rat) (g e hi : Rat) : List Cn := if g ≤ 0 then [] else if D e < hi then [(e + (hi - D e) / g, hi)] else []
/-- where D comes up to a height between -/
theorem rise_mid {D : Rat → Rat} {a b m hi : Rat} (hab : a < b) (hD : ∀ t, a ≤ t → t ≤ b → D t = D a + m * (t - a)) (h1 : D a < hi) (h2 : hi < D b) : 0 < m ∧ D b - D a ≠ 0 ∧ a < a + (hi - D a) / (D b - D a) * (b - a) ∧ a + (hi - D a) / (D b - D a) * (b - a) < b ∧ D (a + (hi - D a) / (D b - D a) * (b - a)) = hi ∧ (hi - D a) / (D b - D a) * (b - a) = (hi - D a) / m := by
  have hb := hD b (by grind) Rat.le_refl
  have hm : 0 < m := by
    by_cases z : m ≤ 0
    · have := lin_le (m := b - a) (a := m) (b := 0) (by grind) z
      grind
    · grind
  have hne : D b - D a ≠ 0 := by grind
  obtain ⟨y, hy⟩ : ∃ y, y = (hi - D a) / (D b - D a) := ⟨_, rfl⟩
  have e : y * (D b - D a) = hi - D a := by rw [hy]; exact Rat.div_mul_cancel hne
  rw [← hy]
  have y0 : 0 < y := lt_of_lin (m := D b - D a) (by grind) (by grind)
  have y1 : y < 1 := lt_of_lin (m := D b - D a) (by grind) (by grind)
  have p1 := Rat.mul_pos y0 (show 0 < b - a by grind)
  have p2 := Rat.mul_pos (show 0 < 1 - y by grind) (show 0 < b - a by grind)
  have em : m * (y * (b - a)) = hi - D a := by
    have : D b - D a = m * (b - a) := by rw [hb]; grind
    rw [← e, this]
    grind
  refine ⟨hm, hne, by grind, by grind, ?_, (quo_of (by grind) (by grind)).symm⟩
  rw [hD _ (by grind) (by grind)]
  grind
theorem left_LC {P : Rat → Rat → Prop} {D : Rat → Rat} {g a : Rat} {l : List Rat} (h : PL P D g a l) : ∀ hi, 0 ≤ a → IsL D a hi → P 0 hi → (∀ t ∈ l, P 0 (D t)) → LC D P (if g ≤ 0 then 0 else g) a hi (lcor D a hi l ++ ltail D g (lastT a l) (lhi D hi l)) := by
  induction h with
  | @last a f1 f2 =>
    intro hi a0 hL p0 _
    have hge := hL.ge a a0 Rat.le_refl
    show LC D P (if g ≤ 0 then 0 else g) a hi (ltail D g a hi)
    unfold ltail
    by_cases hg : g ≤ 0
    · rw [if_pos hg, if_pos hg]
      refine ⟨trivial, trivial, ?_, fun t ht => ?_⟩
      · show P 0 (hi - 0 * a)
        rw [show hi - 0 * a = hi by grind]
        exact p0
      · show IsL D t (hi + 0 * (t - a))
        rw [show hi + 0 * (t - a) = hi by grind]
        refine hL.stay ht fun s h1 h2 => ?_
        rw [f1 s h1]
        have := lin_le (m := s - a) (a := g) (b := 0) (by grind) hg
        grind
    · rw [if_neg hg, if_neg hg]
      have up : ∀ x t, a ≤ x → x ≤ t → D x ≤ D t := fun x t h1 h2 => by
        rw [f1 x h1, f1 t (by grind)]
        have := lin_le (m := g) (a := x - a) (b := t - a) (by grind) (by grind)
        grind
      by_cases hd : D a < hi
      · rw [if_pos hd]
        obtain ⟨x, hx⟩ : ∃ x, x = a + (hi - D a) / g := ⟨_, rfl⟩
        have e : (hi - D a) / g * g = hi - D a := Rat.div_mul_cancel (by grind)
        have q0 : 0 < (hi - D a) / g := lt_of_lin (m := g) (by grind) (by grind)
        have dx : D x = hi := by
          rw [f1 x (by grind), hx]
          grind
        rw [← hx]
        refine LC.cons 0 (by grind) (by grind) Rat.le_refl (by rw [show hi - 0 * a = hi by grind]; exact p0) (fun t t1 t2 => ?_) ⟨trivial, trivial, ?_, fun t ht => ?_⟩
        · rw [show hi + 0 * (t - a) = hi by grind]
          exact hL.stay t1 fun s h1 h2 => by have := up s x h1 (by grind); grind
        · show P g (hi - g * x)
          have := f1 x (by grind)
          rw [show hi - g * x = D a - g * a by grind]
          exact f2
        · show IsL D t (hi + g * (t - x))
          have k1 := f1 x (by grind)
          have k2 := f1 t (by grind)
          rw [show hi + g * (t - x) = D t by grind]
          exact hL.go a0 (by grind) (by have := up x t (by grind) ht; grind) (fun s h1 h2 => up s t h1 h2)
      · rw [if_neg hd]
        have he : hi = D a := by grind
        refine ⟨trivial, trivial, ?_, fun t ht => ?_⟩
        · show P g (hi - g * a)
          rw [he]
          exact f2
        · show IsL D t (hi + g * (t - a))
          have k2 := f1 t ht
          rw [show hi + g * (t - a) = D t by grind]
          exact hL.go a0 ht (by have := up a t Rat.le_refl ht; grind) (fun s h1 h2 => up s t h1 h2)
  | @cons a b l m h1 h2 h3 h4 ih =>
    intro hi a0 hL p0 hP
    have hge := hL.ge a a0 Rat.le_refl
    have hb := h2 b (by grind) Rat.le_refl
    have hP' : ∀ t ∈ l, P 0 (D t) := fun t ht => hP t (List.mem_cons_of_mem _ ht)
    show LC D P (if g ≤ 0 then 0 else g) a hi (lcor D a hi (b :: l) ++ ltail D g (lastT b l) (lhi D hi (b :: l)))
    unfold lcor lhi
    by_cases hd : hi < D b
    · rw [if_pos hd, if_pos hd]
      have hm : 0 < m := by
        by_cases z : m ≤ 0
        · have := lin_le (m := b - a) (a := m) (b := 0) (by grind) z
          grind
        · grind
      have up : ∀ x t, a ≤ x → x ≤ t → t ≤ b → D x ≤ D t := fun x t k1 k2 k3 => by
        rw [h2 x k1 (by grind), h2 t (by grind) k3]
        have := lin_le (m := m) (a := x - a) (b := t - a) (by grind) (by grind)
        grind
      have hLb : IsL D b (D b) := hL.go a0 (by grind) (by grind) (fun s k1 k2 => up s b k1 k2 Rat.le_refl)
      have ih := ih (D b) (by grind) hLb (hP b List.mem_cons_self) hP'
      by_cases hda : D a < hi
      · rw [if_pos hda]
        obtain ⟨_, x0, x1, x2, x3, _⟩ := rise_mid h1 h2 hda hd
        generalize a + (hi - D a) / (D b - D a) * (b - a) = x at *
        have ex := h2 x (by grind) (by grind)
        refine LC.cons 0 x1 (by grind) Rat.le_refl (by rw [show hi - 0 * a = hi by grind]; exact p0) (fun t t1 t2 => ?_) (LC.cons m x2 (by grind) (by grind) (by rw [show hi - m * x = D a - m * a by grind]; exact h3) (fun t t1 t2 => ?_) ih)
        · rw [show hi + 0 * (t - a) = hi by grind]
          exact hL.stay t1 fun s k1 k2 => by have := up s x k1 (by grind) (by grind); grind
        · have k2 := h2 t (by grind) (by grind)
          rw [show hi + m * (t - x) = D t by grind]
          exact hL.go a0 (by grind) (by have := up x t (by grind) t1 (by grind); grind) (fun s k1 k2 => up s t k1 k2 (by grind))
      · rw [if_neg hda]
        have he : hi = D a := by grind
        refine LC.cons m h1 (by grind) (by grind) (by rw [he]; exact h3) (fun t t1 t2 => ?_) ih
        have k2 := h2 t (by grind) (by grind)
        rw [show hi + m * (t - a) = D t by grind]
        exact hL.go a0 t1 (by have := up a t Rat.le_refl t1 (by grind); grind) (fun s k1 k2 => up s t k1 k2 (by grind))
    · rw [if_neg hd, if_neg hd]
      have below : ∀ s, a ≤ s → s ≤ b → D s ≤ hi := fun s k1 k2 => by
        have e : (b - a) * D s = (b - s) * D a + (s - a) * D b := by rw [h2 s k1 k2, hb]; grind
        have e1 := lin_le (m := b - s) (a := D a) (b := hi) (by grind) hge
        have e2 := lin_le (m := s - a) (a := D b) (b := hi) (by grind) (by grind)
        exact le_of_lin (m := b - a) (by grind) (by grind)
      have ih := ih hi (by grind) (hL.stay (by grind) fun s k1 k2 => below s k1 k2) p0 hP'
      refine LC.cons 0 h1 (by grind) Rat.le_refl (by rw [show hi - 0 * a = hi by grind]; exact p0) (fun t t1 t2 => ?_) ih
      rw [show hi + 0 * (t - a) = hi by grind]
      exact hL.stay t1 fun s k1 k2 => below s k1 (by grind)
theorem num_le0 (q : Rat) : (q.num ≤ 0) = (q ≤ 0) := by
  have h := num_neg (-q)
  rw [Rat.neg_num] at h
  simp only [eq_iff_iff] at *
  constructor
  · intro z
    by_cases y : 0 < q
    · have := h.mpr (by grind); omega
    · grind
  · intro z
    by_cases y : 0 < q.num
    · have := h.mp (by omega); grind
    · omega
theorem PL.le_all {P : Rat → Rat → Prop} {D : Rat → Rat} {g a : Rat} {l : List Rat} (h : PL P D g a l) (hg : g ≤ 0) : (∀ b ∈ a :: l, D b ≤ 0) → ∀ s, a ≤ s → D s ≤ 0 := by
  induction h with
  | @last a f1 f2 =>
    intro ha s hs
    have := ha a List.mem_cons_self
    rw [f1 s hs]
    have := lin_le (m := s - a) (a := g) (b := 0) (by grind) hg
    grind
  | @cons a b l m h1 h2 h3 h4 ih =>
    intro ha s hs
    by_cases z : s ≤ b
    · have h0 := ha a List.mem_cons_self
      have hb := ha b (by simp)
      have e : (b - a) * D s = (b - s) * D a + (s - a) * D b := by
        have k1 := h2 b (by grind) Rat.le_refl
        rw [h2 s hs z, k1]
        grind
      have e1 := lin_le (m := b - s) (a := D a) (b := 0) (by grind) h0
      have e2 := lin_le (m := s - a) (a := D b) (b := 0) (by grind) hb
      exact le_of_lin (m := b - a) (by grind) (by grind)
    · exact ih (fun c hc => ha c (List.mem_cons_of_mem _ hc)) s (by grind)
theorem PL.end_ {P : Rat → Rat → Prop} {D : Rat → Rat} {g a : Rat} {l : List Rat} (h : PL P D g a l) : a ≤ lastT a l ∧ ∀ t, lastT a l ≤ t → D t = D (lastT a l) + g * (t - lastT a l) := by
  induction h with
  | last f1 f2 => exact ⟨Rat.le_refl, f1⟩
  | @cons a b l m h1 h2 h3 h4 ih => exact ⟨by have := ih.1; show a ≤ lastT b l; grind, ih.2⟩
/-- who is nowhere above has no greater last slope -/
theorem Cv.sl_le {c : Cn} {r : List Cn} {s : Rat} {c' : Cn} {r' : List Cn} {s' : Rat} (hf : Cv 400 c r s) (hg : Cv 400 c' r' s') (q : Rat) (h : ∀ t, 0 ≤ t → val s t c r - val s' t c' r' ≤ q) : ¬ s' < s := by
  intro z
  obtain ⟨qf, qg⟩ := gtimes_PL hf hg
  have pd := qf.sub (R := fun _ _ => True) (fun _ _ _ _ _ _ => trivial) qg
  obtain ⟨en1, en2⟩ := pd.end_
  generalize lastT 0 (gtimes r r') = E at *
  obtain ⟨d, hd⟩ : ∃ d, d = val s E c r - val s' E c' r' := ⟨_, rfl⟩
  have hq : (q - d + 1) / (s - s') * (s - s') = q - d + 1 := Rat.div_mul_cancel (by grind)
  have hE := h E en1
  have q0 : 0 < (q - d + 1) / (s - s') := lt_of_lin (m := s - s') (by grind) (by grind)
  have k := en2 (E + (q - d + 1) / (s - s')) (by grind)
  have k' : val s (E + (q - d + 1) / (s - s')) c r - val s' (E + (q - d + 1) / (s - s')) c' r' = val s E c r - val s' E c' r' + (s - s') * (E + (q - d + 1) / (s - s') - E) := k
  have k2 : (s - s') * (E + (q - d + 1) / (s - s') - E) = q - d + 1 := by rw [← hq]; grind
  have := h (E + (q - d + 1) / (s - s')) (by grind)
  grind
theorem PL.under_ {P : Rat → Rat → Prop} {D : Rat → Rat} {g a : Rat} {l : List Rat} (h : PL P D g a l) (t x : Rat) (hx : D t ≤ x) : a ≤ t → D a ≤ x → (∀ b ∈ l, b ≤ t → D b ≤ x) → ∀ s, a ≤ s → s ≤ t → D s ≤ x := by
  have seg : ∀ (a b m s : Rat), (∀ t, a ≤ t → t ≤ b → D t = D a + m * (t - a)) → a ≤ s → s ≤ b → D a ≤ x → D b ≤ x → D s ≤ x := fun a b m s hD h1 h2 h3 h4 => by
    by_cases z : a = b
    · have : s = a := by grind
      rw [this]; exact h3
    · have hb := hD b (by grind) Rat.le_refl
      have e : (b - a) * D s = (b - s) * D a + (s - a) * D b := by rw [hD s h1 h2, hb]; grind
      have e1 := lin_le (m := b - s) (a := D a) (b := x) (by grind) h3
      have e2 := lin_le (m := s - a) (a := D b) (b := x) (by grind) h4
      exact le_of_lin (m := b - a) (by grind) (by grind)
  induction h with
  | @last a f1 f2 =>
    intro hat ha _ s s1 s2
    exact seg a t g s (fun u u1 u2 => f1 u u1) s1 s2 ha hx
  | @cons a b l m h1 h2 h3 h4 ih =>
    intro hat ha hl s s1 s2
    by_cases z : t ≤ b
    · exact seg a t m s (fun u u1 u2 => h2 u u1 (by grind)) s1 s2 ha hx
    · have hb := hl b List.mem_cons_self (by grind)
      by_cases y : s ≤ b
      · exact seg a b m s h2 s1 y ha hb
      · exact ih (by grind) hb (fun u hu => hl u (List.mem_cons_of_mem _ hu)) s (by grind) s2

end Q
namespace Q
open PySem MP FP
/-- one curve as far as a time, another behind it -/
def lw (a : Rat) (cs : List Cn) : List Cn := cs.filter (fun x => decide (x.1 < a))
def sh (a b : Rat) (r : List Cn) : List Cn := r.map (fun d => (a + d.1, b + d.2))
theorem sh_slope (a b : Rat) (c d : Cn) : slope (a + c.1, b + c.2) (a + d.1, b + d.2) = slope c d := by
  unfold slope
  show (b + d.2 - (b + c.2)) / (a + d.1 - (a + c.1)) = _
  rw [show b + d.2 - (b + c.2) = d.2 - c.2 by grind, show a + d.1 - (a + c.1) = d.1 - c.1 by grind]
theorem sh_up (a b : Rat) : ∀ (c : Cn) (r : List Cn), Ups c r → Ups (a + c.1, b + c.2) (sh a b r)
  | c, [], u => trivial
  | c, d :: r, u => ⟨by have := u.1; show a + c.1 < a + d.1; grind, sh_up a b d r u.2⟩
theorem sh_nd (a b : Rat) : ∀ (c : Cn) (r : List Cn), Nds c r → Nds (a + c.1, b + c.2) (sh a b r)
  | c, [], u => trivial
  | c, d :: r, u => ⟨by have := u.1; show ¬ b + d.2 < b + c.2; grind, sh_nd a b d r u.2⟩
theorem sh_val (a b s t : Rat) : ∀ (c : Cn) (r : List Cn), val s t (a + c.1, b + c.2) (sh a b r) = b + val s (t - a) c r
  | c, [] => by
    show b + c.2 + s * (t - (a + c.1)) = b + (c.2 + s * (t - a - c.1))
    rw [show t - (a + c.1) = t - a - c.1 by grind]
    grind
  | c, d :: r => by
    show (if t < a + d.1 then b + c.2 + slope (a + c.1, b + c.2) (a + d.1, b + d.2) * (t - (a + c.1)) else val s t (a + d.1, b + d.2) (sh a b r)) = b + (if t - a < d.1 then c.2 + slope c d * (t - a - c.1) else val s (t - a) d r)
    rw [sh_slope, sh_val a b s t d r]
    by_cases h : t - a < d.1
    · rw [if_pos h, if_pos (by grind), show t - (a + c.1) = t - a - c.1 by grind]
      grind
    · rw [if_neg h, if_neg (by grind)]
theorem lw_nil (a : Rat) : ∀ (c : Cn) (r : List Cn), Ups c r → ¬ c.1 < a → lw a (c :: r) = []
  | c, [], u, h => by
    unfold lw
    rw [List.filter_cons, if_neg (by simp [h])]
    rfl
  | c, d :: r, u, h => by
    have := lw_nil a d r u.2 (by have := u.1; grind)
    unfold lw at this ⊢
    rw [List.filter_cons, if_neg (by simp [h])]
    exact this
theorem lw_cons {a : Rat} {c : Cn} {r : List Cn} (h : c.1 < a) : lw a (c :: r) = c :: lw a r := by
  unfold lw
  rw [List.filter_cons, if_pos (by simp [h])]
theorem slope_line {c : Cn} {a m : Rat} (h : c.1 < a) : slope c (a, c.2 + m * (a - c.1)) = m := by
  unfold slope
  show (c.2 + m * (a - c.1) - c.2) / (a - c.1) = m
  rw [show c.2 + m * (a - c.1) - c.2 = m * (a - c.1) by grind]
  exact Rat.mul_div_cancel (by grind)
theorem val_mid {s a : Rat} {c d : Cn} {r : List Cn} (u : Ups c (d :: r)) (h : ¬ d.1 < a) : val s a c (d :: r) = c.2 + slope c d * (a - c.1) := by
  show (if a < d.1 then c.2 + slope c d * (a - c.1) else val s a d r) = _
  by_cases z : a < d.1
  · rw [if_pos z]
  · have e : a = d.1 := by grind
    rw [if_neg z, e, val_start s d r u.2, slope_mul u.1]
    grind
theorem tl_up (a v : Rat) (q : List Cn) (hq : Ups (a, v) q) : ∀ (c : Cn) (r : List Cn), Ups c r → c.1 < a → Ups c (lw a r ++ (a, v) :: q)
  | c, [], u, h => ⟨h, hq⟩
  | c, d :: r, u, h => by
    by_cases z : d.1 < a
    · rw [lw_cons z]
      exact ⟨u.1, tl_up a v q hq d r u.2 z⟩
    · rw [lw_nil a d r u.2 z]
      exact ⟨h, hq⟩
theorem tl_nd (a s : Rat) (hs : ¬ s < 0) (q : List Cn) : ∀ (c : Cn) (r : List Cn), Ups c r → Nds c r → c.1 < a → Nds (a, val s a c r) q → Nds c (lw a r ++ (a, val s a c r) :: q)
  | c, [], u, nd, h, hq => by
    refine ⟨?_, hq⟩
    have := Rat.mul_nonneg (show 0 ≤ s by grind) (show 0 ≤ a - c.1 by grind)
    show ¬ c.2 + s * (a - c.1) < c.2
    grind
  | c, d :: r, u, nd, h, hq => by
    by_cases z : d.1 < a
    · have e : val s a c (d :: r) = val s a d r := if_neg (by grind)
      rw [lw_cons z]
      rw [e] at hq ⊢
      exact ⟨nd.1, tl_nd a s hs q d r u.2 nd.2 z hq⟩
    · rw [lw_nil a d r u.2 z]
      refine ⟨?_, hq⟩
      have := Rat.mul_nonneg (slope_nn u.1 nd.1) (show 0 ≤ a - c.1 by grind)
      rw [val_mid u z]
      show ¬ c.2 + slope c d * (a - c.1) < c.2
      grind
theorem tl_val (a s s' t : Rat) (q : List Cn) : ∀ (c : Cn) (r : List Cn), Ups c r → c.1 < a → val s' t c (lw a r ++ (a, val s a c r) :: q) = if t < a then val s t c r else val s' t (a, val s a c r) q
  | c, [], u, h => by
    show (if t < a then c.2 + slope c (a, c.2 + s * (a - c.1)) * (t - c.1) else _) = if t < a then c.2 + s * (t - c.1) else _
    rw [slope_line h]
  | c, d :: r, u, h => by
    by_cases z : d.1 < a
    · have e : val s a c (d :: r) = val s a d r := if_neg (by grind)
      have ih := tl_val a s s' t q d r u.2 z
      rw [lw_cons z, e]
      show (if t < d.1 then c.2 + slope c d * (t - c.1) else val s' t d (lw a r ++ (a, val s a d r) :: q)) = if t < a then (if t < d.1 then c.2 + slope c d * (t - c.1) else val s t d r) else _
      rw [ih]
      by_cases y : t < d.1
      · rw [if_pos y, if_pos (by grind), if_pos y]
      · rw [if_neg y, if_neg y]
    · rw [lw_nil a d r u.2 z]
      have e := val_mid (s := s) u z
      show (if t < a then c.2 + slope c (a, val s a c (d :: r)) * (t - c.1) else val s' t (a, val s a c (d :: r)) q) = if t < a then (if t < d.1 then c.2 + slope c d * (t - c.1) else val s t d r) else _
      rw [e, slope_line h]
      by_cases y : t < a
      · rw [if_pos y, if_pos y, if_pos (by grind)]
      · rw [if_neg y, if_neg y]
/-- the corners of the spliced one -/
def spl (s a : Rat) (c : Cn) (r : List Cn) (c' : Cn) (r' : List Cn) : List Cn := lw a (c :: r) ++ (a, val s a c r) :: sh a (val s a c r - c'.2) r'
theorem spl_ex {s s' a : Rat} {c c' : Cn} {r r' : List Cn} (c0 : c.1 = 0) (a0 : ¬ a < 0) (u : Ups c r) (nd : Nds c r) (v0 : ¬ c.2 < 0) (s0 : ¬ s < 0) (c0' : c'.1 = 0) (u' : Ups c' r') (nd' : Nds c' r') : ∃ hd tl, spl s a c r c' r' = hd :: tl ∧ Ups hd tl ∧ Nds hd tl ∧ hd.1 = 0 ∧ ¬ hd.2 < 0 ∧ ∀ t, ¬ t < 0 → val s' t hd tl = if a < t then val s a c r + (val s' (t - a) c' r' - c'.2) else val s t c r := by
  unfold spl
  have hv := val_ge s a (by grind) c r u nd (by grind)
  have e : ((a, val s a c r) : Cn) = (a + c'.1, val s a c r - c'.2 + c'.2) := by
    rw [c0', show a + 0 = a by grind, show val s a c r - c'.2 + c'.2 = val s a c r by grind]
  have k1 := sh_up a (val s a c r - c'.2) c' r' u'
  have k2 := sh_nd a (val s a c r - c'.2) c' r' nd'
  have k3 := fun t => sh_val a (val s a c r - c'.2) s' t c' r'
  rw [← e] at k1 k2
  have k4 : ∀ t, val s' t (a, val s a c r) (sh a (val s a c r - c'.2) r') = val s a c r + (val s' (t - a) c' r' - c'.2) := fun t => by
    rw [e, k3 t]
    grind
  have k5 : val s' (a - a) c' r' = c'.2 := by
    have := val_start s' c' r' u'
    rw [c0'] at this
    rw [show a - a = 0 by grind]
    exact this
  by_cases h : c.1 < a
  · rw [lw_cons h]
    refine ⟨c, lw a r ++ (a, val s a c r) :: sh a (val s a c r - c'.2) r', rfl, tl_up a _ _ k1 c r u h, tl_nd a s s0 _ c r u nd h k2, c0, v0, fun t t0 => ?_⟩
    rw [tl_val a s s' t _ c r u h, k4 t]
    by_cases z : t < a
    · rw [if_pos z, if_neg (by grind)]
    · rw [if_neg z]
      by_cases y : a < t
      · rw [if_pos y]
      · have e2 : t = a := by grind
        rw [if_neg y, e2, k5]
        grind
  · rw [lw_nil a c r u h]
    have ea : a = 0 := by grind
    refine ⟨_, _, rfl, k1, k2, ea, by grind, fun t t0 => ?_⟩
    rw [k4 t]
    by_cases y : a < t
    · rw [if_pos y]
    · have e2 : t = a := by grind
      rw [if_neg y, e2, k5]
      grind
theorem spl_len {s a : Rat} {c c' : Cn} {r r' : List Cn} : (spl s a c r c' r').length ≤ r.length + r'.length + 2 := by
  unfold spl lw sh
  have := List.length_filter_le (fun x : Cn => decide (x.1 < a)) (c :: r)
  simp only [List.length_append, List.length_cons, List.length_map] at this ⊢
  omega
theorem spl_Rb {s a : Rat} {c c' : Cn} {r r' : List Cn} {j k i : Nat} (h : ∀ x ∈ c :: r, Rb x.1 j ∧ Rb x.2 j) (h' : ∀ x ∈ c' :: r', Rb x.1 j ∧ Rb x.2 j) (ha : Rb a k) (hv : Rb (val s a c r) i) : ∀ x ∈ spl s a c r c' r', Rb x.1 (k + j + 1) ∧ Rb x.2 (i + 2 * j + 2) := fun x hx => by
  unfold spl at hx
  rcases List.mem_append.mp hx with hx | hx
  · have := h x ((List.mem_filter.mp hx).1)
    exact ⟨this.1.mono (by omega), this.2.mono (by omega)⟩
  · rcases List.mem_cons.mp hx with e | hx
    · rw [e]
      exact ⟨ha.mono (by omega), hv.mono (by omega)⟩
    · obtain ⟨d, hd, rfl⟩ := List.mem_map.mp hx
      have hd' := h' d (List.mem_cons_of_mem _ hd)
      have hc' := h' c' List.mem_cons_self
      exact ⟨ha.add hd'.1, ((hv.sub hc'.2).add hd'.2).mono (by omega)⟩
theorem val_Rb {bt bv bm k : Nat} (s t : Rat) : ∀ (c : Cn) (r : List Cn), Fz bt bv bm c r s → Rb t k → Rb (val s t c r) (bv + (bm + (k + bt + 1)) + 1)
  | c, [], f, ht => ((f.v c (by simp)).add ((f.m s (by simp)).mul (ht.sub (f.t c (by simp))))).mono (by omega)
  | c, d :: r, f, ht => by
    unfold val
    split
    · exact ((f.v c (by simp)).add ((f.m _ (by simp [gaps])).mul (ht.sub (f.t c (by simp))))).mono (by omega)
    · exact val_Rb s t d r ⟨fun x hx => f.t x (List.mem_cons_of_mem _ hx), fun x hx => f.v x (List.mem_cons_of_mem _ hx), fun m hm => f.m m (by simp [gaps] at hm ⊢; exact .inr hm)⟩ ht

end Q
namespace Q
open PySem MP FP
theorem cut_tl {α : Type} (x : α) (xs : List α) : cut (x :: xs) (some 1) none = xs := by
  have e1 : HT.sIx (x :: xs).length 0 (some 1) = 1 := by
    rw [show (1 : Int) = ((1 : Nat) : Int) from rfl, HT.sIx_nat, List.length_cons]
    omega
  unfold cut
  rw [e1, HT.sIx_none, List.drop_one, List.tail_cons, List.take_of_length_le (by simp)]
theorem sp_loop (n : Nat) (a b : Rat) (ha : Sz a) (hb : Sz b) (e0 e2 e3 : Option Dv) : ∀ (r : List Cn) (acc : List Cn) (r4 : Option Dv), (∀ x ∈ r, Sz x.1 ∧ Sz x.2) → acc.length + r.length ≤ 900000 → ∃ r4', foP (runTP T (n + 3)) 4 B_spliced_2 (r.map dC) [e0, some (dR a), e2, e3, r4, some (.own (acc.map dC)), some (dR b)] = .nx [e0, some (dR a), e2, e3, r4', some (.own ((acc ++ sh a b r).map dC)), some (dR b)]
  | [], acc, r4, _, _ => ⟨r4, by simp only [ME_, List.map_nil, sh, List.append_nil]⟩
  | d :: r, acc, r4, hz, hl => by
    obtain ⟨r4', ih⟩ := sp_loop n a b ha hb e0 e2 e3 r (acc ++ [(a + d.1, b + d.2)]) (some (dC d)) (fun x hx => hz x (List.mem_cons_of_mem _ hx)) (by simp at hl ⊢; omega)
    have zd := hz d List.mem_cons_self
    have hal : acc.length < LIM := by unfold LIM; simp at hl; omega
    refine ⟨r4', ?_⟩
    rw [List.append_assoc, List.map_append] at ih
    have e : sh a b (d :: r) = [(a + d.1, b + d.2)] ++ sh a b r := rfl
    rw [e, ← ih]
    simp only [MC_, List.map_cons, fo_cons, VB_spliced_2, r_plus, ha, hb, zd.1, zd.2, List.length_map, hal]
theorem r_spliced (n : Nat) (c c' : Cn) (r r' : List Cn) (s s' a : Rat) (hd : Cn) (tl : List Cn) (fz : Fz 110 110 500 c r s) (hz' : ∀ x ∈ c' :: r', Rb x.1 110 ∧ Rb x.2 110) (ha : Rb a 330) (a0 : ¬ a < 0) (c0 : c.1 = 0) (u : Ups c r) (hl : r.length ≤ 200) (hl' : r'.length ≤ 200) (e : spl s a c r c' r' = hd :: tl) (ut : Ups hd tl) : runTP T (n + 8) "spliced" [dF (c :: r) s, dR a, dF (c' :: r') s'] = .ok (dF (hd :: kl s' hd tl) s') := by
  rw [runTP_succ T_spliced]
  have sa : Sz a := ha.sz (by decide)
  have hv := val_Rb s a c r fz ha
  have v1 := r_value_at (n + 1) 110 110 500 330 c r s a fz ha (by decide) (by decide) (by decide) u c0 a0
  have hb : Rb (val s a c r - c'.2) 1200 := (hv.sub (hz' c' List.mem_cons_self).2).mono (by decide)
  have sv : Sz (val s a c r) := hv.sz (by decide)
  have sc : Sz c'.2 := (hz' c' List.mem_cons_self).2.sz (by decide)
  have hsz := spl_Rb (s := s) (fun x hx => ⟨fz.t x hx, fz.v x hx⟩) hz' ha hv
  have hln := spl_len (s := s) (a := a) (c := c) (r := r) (c' := c') (r' := r')
  rw [e] at hsz hln
  have hlw : (lw a (c :: r)).length ≤ 201 := by
    have := List.length_filter_le (fun x : Cn => decide (x.1 < a)) (c :: r)
    unfold lw
    simp only [List.length_cons] at this ⊢
    omega
  have hm := r_made n (.lst ((hd :: tl).map dC)) hd tl s' Sq.lst (fun x hx => ⟨(hsz x hx).1.mono (by decide), (hsz x hx).2.mono (by decide)⟩) (by simp at hln; omega) ut
  obtain ⟨r4, hlp⟩ := sp_loop (n + 4) a (val s a c r - c'.2) sa (hb.sz (by decide)) (some (dF (c :: r) s)) (some (dF (c' :: r') s')) (some (dR (val s a c r))) r' (lw a (c :: r) ++ [(a, val s a c r)]) none (fun x hx => ⟨(hz' x (List.mem_cons_of_mem _ hx)).1.sz (by decide), (hz' x (List.mem_cons_of_mem _ hx)).2.sz (by decide)⟩) (by simp; omega)
  have e' : lw a (c :: r) ++ [(a, val s a c r)] ++ sh a (val s a c r - c'.2) r' = hd :: tl := by
    rw [← e]
    unfold spl
    simp
  rw [e'] at hlp
  have ct : cut ((c' :: r').map dC) (some 1) none = r'.map dC := cut_tl _ _
  have i0 : L2.atI ((c' :: r').map dC) 0 = some (dC c') := i_at (pre := []) rfl rfl
  have hlc : ∀ σ : Ev, σ[1]? = some (some (dR a)) → σ.length = 7 → lcQ (runTP T (n + 7)) 4 C_spliced_1 E_spliced_1 σ ((c :: r).map dC) = .ok ((lw a (c :: r)).map dC) := fun σ h1 h7 => by
    have := lc_filter (Φ := runTP T (n + 7)) (σ := σ) (s := 4) (c := C_spliced_1) (e := E_spliced_1) (fun x : Cn => decide (x.1 < a)) dC dC (c :: r) (fun x hx => by
      have sx := (fz.t x hx).sz (show 110 ≤ 6700 by decide)
      match σ, h1, h7 with
      | [o0, o1, o2, o3, o4, o5, o6], h1, _ =>
        cases h1
        simp only [MC_, VC_spliced_1, r_under, sx, sa]) (fun x hx _ => by
      match σ, h1, h7 with
      | [o0, o1, o2, o3, o4, o5, o6], h1, _ =>
        cases h1
        simp only [MC_, VE_spliced_1])
    exact this
  have hll : (lw a (c :: r)).length < LIM := by unfold LIM; omega
  have hll' : (lw a (c :: r)).length ≤ LIM := by unfold LIM; omega
  have hlr : r'.length ≤ LIM := by unfold LIM; omega
  have hlc' := hlc [some (dF (c :: r) s), some (dR a), some (dF (c' :: r') s'), some (dR (val s a c r)), none, none, none] rfl rfl
  rw [List.map_append, List.map_cons, List.map_nil] at hlp
  rw [List.map_cons] at hm hlp
  generalize c :: r = cs at *
  generalize c' :: r' = cs' at *
  generalize lw a cs = ws at *
  unfold F_spliced
  simp only [MC_, v1, hlc', r_minus, sv, sc, i0, ct, hlp, hm, List.length_map, hll, hll', hlr]

end Q
namespace Q
open PySem MP FP
theorem spl_RbG {s a : Rat} {c c' : Cn} {r r' : List Cn} {j l k i : Nat} (h : ∀ x ∈ c :: r, Rb x.1 j ∧ Rb x.2 l) (h' : ∀ x ∈ c' :: r', Rb x.1 j ∧ Rb x.2 l) (ha : Rb a k) (hv : Rb (val s a c r) i) : ∀ x ∈ spl s a c r c' r', Rb x.1 (k + j + 1) ∧ Rb x.2 (i + 2 * l + 2) := fun x hx => by
  unfold spl at hx
  rcases List.mem_append.mp hx with hx | hx
  · have := h x (List.mem_filter.mp hx).1
    exact ⟨this.1.mono (by omega), this.2.mono (by omega)⟩
  · rcases List.mem_cons.mp hx with e | hx
    · rw [e]
      exact ⟨ha.mono (by omega), hv.mono (by omega)⟩
    · obtain ⟨d, hd, rfl⟩ := List.mem_map.mp hx
      have hd' := h' d (List.mem_cons_of_mem _ hd)
      have hc' := h' c' List.mem_cons_self
      exact ⟨ha.add hd'.1, ((hv.sub hc'.2).add hd'.2).mono (by omega)⟩
theorem r_splicedG (n bt bv bm k i : Nat) (c c' : Cn) (r r' : List Cn) (s s' a : Rat) (hd : Cn) (tl : List Cn) (fz : Fz bt bv bm c r s) (hz' : ∀ x ∈ c' :: r', Rb x.1 bt ∧ Rb x.2 bv) (ha : Rb a k) (hv : Rb (val s a c r) i) (n1 : k + bt + 1 ≤ 3300) (n2 : i + 2 * bv + 2 ≤ 3300) (n3 : k + bt + 1 + bm ≤ 6700) (a0 : ¬ a < 0) (c0 : c.1 = 0) (u : Ups c r) (hl : r.length + r'.length ≤ 300000) (e : spl s a c r c' r' = hd :: tl) (ut : Ups hd tl) : runTP T (n + 8) "spliced" [dF (c :: r) s, dR a, dF (c' :: r') s'] = .ok (dF (hd :: kl s' hd tl) s') := by
  rw [runTP_succ T_spliced]
  have sa : Sz a := ha.sz (by omega)
  have v1 := r_value_at (n + 1) bt bv bm k c r s a fz ha (by omega) (by omega) (by omega) u c0 a0
  have hb : Rb (val s a c r - c'.2) (i + bv + 1) := hv.sub (hz' c' List.mem_cons_self).2
  have sv : Sz (val s a c r) := hv.sz (by omega)
  have sc : Sz c'.2 := (hz' c' List.mem_cons_self).2.sz (by omega)
  have hsz := spl_RbG (s := s) (fun x hx => ⟨fz.t x hx, fz.v x hx⟩) hz' ha hv
  have hln := spl_len (s := s) (a := a) (c := c) (r := r) (c' := c') (r' := r')
  rw [e] at hsz hln
  have hlw : (lw a (c :: r)).length ≤ r.length + 1 := by
    have := List.length_filter_le (fun x : Cn => decide (x.1 < a)) (c :: r)
    unfold lw
    simp only [List.length_cons] at this ⊢
    omega
  have hm := r_made n (.lst ((hd :: tl).map dC)) hd tl s' Sq.lst (fun x hx => ⟨(hsz x hx).1.mono (by omega), (hsz x hx).2.mono (by omega)⟩) (by simp at hln; omega) ut
  obtain ⟨r4, hlp⟩ := sp_loop (n + 4) a (val s a c r - c'.2) sa (hb.sz (by omega)) (some (dF (c :: r) s)) (some (dF (c' :: r') s')) (some (dR (val s a c r))) r' (lw a (c :: r) ++ [(a, val s a c r)]) none (fun x hx => ⟨(hz' x (List.mem_cons_of_mem _ hx)).1.sz (by omega), (hz' x (List.mem_cons_of_mem _ hx)).2.sz (by omega)⟩) (by simp; omega)
  have e' : lw a (c :: r) ++ [(a, val s a c r)] ++ sh a (val s a c r - c'.2) r' = hd :: tl := by
    rw [← e]
    unfold spl
    simp
  rw [e'] at hlp
  have ct : cut ((c' :: r').map dC) (some 1) none = r'.map dC := cut_tl _ _
  have i0 : L2.atI ((c' :: r').map dC) 0 = some (dC c') := i_at (pre := []) rfl rfl
  have hlc : ∀ σ : Ev, σ[1]? = some (some (dR a)) → σ.length = 7 → lcQ (runTP T (n + 7)) 4 C_spliced_1 E_spliced_1 σ ((c :: r).map dC) = .ok ((lw a (c :: r)).map dC) := fun σ h1 h7 => by
    have := lc_filter (Φ := runTP T (n + 7)) (σ := σ) (s := 4) (c := C_spliced_1) (e := E_spliced_1) (fun x : Cn => decide (x.1 < a)) dC dC (c :: r) (fun x hx => by
      have sx := (fz.t x hx).sz (show bt ≤ 6700 by omega)
      match σ, h1, h7 with
      | [o0, o1, o2, o3, o4, o5, o6], h1, _ =>
        cases h1
        simp only [MC_, VC_spliced_1, r_under, sx, sa]) (fun x hx _ => by
      match σ, h1, h7 with
      | [o0, o1, o2, o3, o4, o5, o6], h1, _ =>
        cases h1
        simp only [MC_, VE_spliced_1])
    exact this
  have hll : (lw a (c :: r)).length < LIM := by unfold LIM; omega
  have hll' : (lw a (c :: r)).length ≤ LIM := by unfold LIM; omega
  have hlr : r'.length ≤ LIM := by unfold LIM; omega
  have hlc' := hlc [some (dF (c :: r) s), some (dR a), some (dF (c' :: r') s'), some (dR (val s a c r)), none, none, none] rfl rfl
  rw [List.map_append, List.map_cons, List.map_nil] at hlp
  rw [List.map_cons] at hm hlp
  generalize c :: r = cs at *
  generalize c' :: r' = cs' at *
  generalize lw a cs = ws at *
  unfold F_spliced
  simp only [MC_, v1, hlc', r_minus, sv, sc, i0, ct, hlp, hm, List.length_map, hll, hll', hlr]

end Q
namespace Q
open PySem MP FP
/-- lines moved -/
theorem sh_lns {P R : Rat → Rat → Prop} {a b s : Rat} (h : ∀ m q, P m q → R m (b + q - m * a)) : ∀ (c : Cn) (r : List Cn), Lns P s c r → Lns R s (a + c.1, b + c.2) (sh a b r)
  | c, [], hp => by
    have := h _ _ hp
    show R s (b + c.2 - s * (a + c.1))
    rw [show b + c.2 - s * (a + c.1) = b + (c.2 - s * c.1) - s * a by grind]
    exact this
  | c, d :: r, hp => by
    refine ⟨?_, sh_lns h d r hp.2⟩
    have := h _ _ hp.1
    show R (slope (a + c.1, b + c.2) (a + d.1, b + d.2)) (b + c.2 - slope (a + c.1, b + c.2) (a + d.1, b + d.2) * (a + c.1))
    rw [sh_slope, show b + c.2 - slope c d * (a + c.1) = b + (c.2 - slope c d * c.1) - slope c d * a by grind]
    exact this
theorem sh_nf (a b s : Rat) : ∀ (c : Cn) (r : List Cn), NF s c r → NF s (a + c.1, b + c.2) (sh a b r)
  | c, [], h => trivial
  | c, d :: r, h => by
    refine ⟨?_, sh_nf a b s d r h.2⟩
    rw [sh_slope]
    have e : behind (a + d.1, b + d.2) (sh a b r) s = behind d r s := by
      cases r with
      | nil => rfl
      | cons e r => exact sh_slope a b d e
    show slope c d ≠ behind (a + d.1, b + d.2) (sh a b r) s
    rw [e]
    exact h.1
theorem tl_lns {P R : Rat → Rat → Prop} {a s s' : Rat} (q : List Cn) (h : ∀ m q, P m q → R m q) : ∀ (c : Cn) (r : List Cn), Ups c r → c.1 < a → Lns P s c r → Lns R s' (a, val s a c r) q → Lns R s' c (lw a r ++ (a, val s a c r) :: q)
  | c, [], u, ha, hp, hq => by
    refine ⟨?_, hq⟩
    show R (slope c (a, c.2 + s * (a - c.1))) (c.2 - slope c (a, c.2 + s * (a - c.1)) * c.1)
    rw [slope_line ha]
    exact h _ _ hp
  | c, d :: r, u, ha, hp, hq => by
    by_cases z : d.1 < a
    · have e : val s a c (d :: r) = val s a d r := if_neg (by grind)
      rw [lw_cons z]
      rw [e] at hq ⊢
      exact ⟨h _ _ hp.1, tl_lns q h d r u.2 z hp.2 hq⟩
    · rw [lw_nil a d r u.2 z]
      refine ⟨?_, hq⟩
      rw [val_mid u z, slope_line ha]
      exact h _ _ hp.1
theorem spl_lns {P P' R : Rat → Rat → Prop} {s s' a : Rat} {c c' hd : Cn} {r r' tl : List Cn} (u : Ups c r) (hp : Lns P s c r) (hp' : Lns P' s' c' r') (c0' : c'.1 = 0) (h1 : ∀ m q, P m q → R m q) (h2 : ∀ m q, P' m q → R m (val s a c r - c'.2 + q - m * a)) (e : spl s a c r c' r' = hd :: tl) : Lns R s' hd tl := by
  unfold spl at e
  have ec : ((a, val s a c r) : Cn) = (a + c'.1, val s a c r - c'.2 + c'.2) := by
    rw [c0', show a + 0 = a by grind, show val s a c r - c'.2 + c'.2 = val s a c r by grind]
  have k := sh_lns h2 c' r' hp'
  rw [← ec] at k
  by_cases h : c.1 < a
  · rw [lw_cons h] at e
    injection e with e1 e2
    subst e1 e2
    exact tl_lns _ h1 c r u h hp k
  · rw [lw_nil a c r u h] at e
    injection e with e1 e2
    subst e1 e2
    exact k
/-- one row: the first as far as a time, then the second -/
def rowJ (f g : Rat → Rat) (a : Rat) (t : Rat) : Rat := if a < t then f a + g (t - a) else f t + g 0
theorem Cv.raised {B : Nat} {R : Rat → Rat → Prop} {hd : Cn} {tl : List Cn} {s v : Rat} (c0 : hd.1 = 0) (u : Ups hd tl) (nd : Nds hd tl) (v0 : ¬ hd.2 < 0) (vv : ¬ v < 0) (s0 : ¬ s < 0) (ln : Lns R s hd tl) (hR : ∀ m q, R m q → LB B m (v + q)) : Cv B (0 + hd.1, v + hd.2) (sh 0 v (kl s hd tl)) s ∧ ∀ t, val s t (0 + hd.1, v + hd.2) (sh 0 v (kl s hd tl)) = v + val s t hd tl := by
  have k1 := kl_up s tl hd hd (by grind) u
  have k2 := kl_nd s tl hd hd (by grind) nd
  have k3 := (Q.nf s tl hd hd u (.inl rfl)).1
  have k4 := kl_lns R s tl hd hd u (.inl rfl) ln
  refine ⟨⟨by show 0 + hd.1 = 0; grind, sh_up 0 v hd _ k1, sh_nd 0 v hd _ k2, by show ¬ v + hd.2 < 0; grind, s0, sh_nf 0 v s hd _ k3, sh_lns (fun m q z => by
    have := hR m q z
    rw [show v + q - m * 0 = v + q by grind]
    exact this) hd _ k4⟩, fun t => ?_⟩
  rw [sh_val, show t - 0 = t by grind, fold_val s t tl hd hd u (.inl rfl)]
/-- straight round a time -/
theorem piece_of (s u : Rat) : ∀ (c : Cn) (r : List Cn), Ups c r → ¬ u < c.1 → ∃ p ∈ c :: r, ∃ m, p.1 ≤ u ∧ ((∃ d ∈ c :: r, u < d.1 ∧ ∀ w, p.1 ≤ w → w ≤ d.1 → val s w c r = val s u c r + m * (w - u)) ∨ ∀ w, p.1 ≤ w → val s w c r = val s u c r + m * (w - u))
  | c, [], up, h => ⟨c, List.mem_cons_self, s, by grind, .inr fun w _ => by
    show c.2 + s * (w - c.1) = c.2 + s * (u - c.1) + s * (w - u)
    grind⟩
  | c, d :: r, up, h => by
    by_cases z : u < d.1
    · refine ⟨c, List.mem_cons_self, slope c d, by grind, .inl ⟨d, List.mem_cons_of_mem _ List.mem_cons_self, z, fun w w1 w2 => ?_⟩⟩
      have e1 : val s u c (d :: r) = c.2 + slope c d * (u - c.1) := if_pos z
      have e2 : val s w c (d :: r) = c.2 + slope c d * (w - c.1) := by
        by_cases y : w < d.1
        · exact if_pos y
        · have e : w = d.1 := by grind
          rw [e, val_mid up (by grind)]
      rw [e1, e2]
      grind
    · obtain ⟨p, hp, m, p1, h1⟩ := piece_of s u d r up.2 z
      have pd : d.1 ≤ p.1 := by have := ups_ge up.2 hp; grind
      have ev : ∀ w, p.1 ≤ w → val s w c (d :: r) = val s w d r := fun w hw => if_neg (by grind)
      refine ⟨p, List.mem_cons_of_mem _ hp, m, p1, ?_⟩
      rcases h1 with ⟨e, he, e1, e2⟩ | h1
      · exact .inl ⟨e, List.mem_cons_of_mem _ he, e1, fun w w1 w2 => by rw [ev w w1, ev u p1]; exact e2 w w1 w2⟩
      · exact .inr fun w w1 => by rw [ev w w1, ev u p1]; exact h1 w w1
/-- the least of all partings lies at a corner -/
theorem part_least {s s' : Rat} {c c' : Cn} {r r' : List Cn} (u : Ups c r) (u' : Ups c' r') (c0 : c.1 = 0) (c0' : c'.1 = 0) {t M : Rat} (h1 : ∀ x ∈ c :: r, x.1 ≤ t → M ≤ val s x.1 c r + val s' (t - x.1) c' r') (h2 : ∀ y ∈ c' :: r', y.1 ≤ t → M ≤ val s (t - y.1) c r + val s' y.1 c' r') {w : Rat} (w0 : 0 ≤ w) (w1 : w ≤ t) : M ≤ val s w c r + val s' (t - w) c' r' := by
  obtain ⟨p, hp, m, p1, hf⟩ := piece_of s w c r u (by grind)
  obtain ⟨q, hq, k, q1, hg⟩ := piece_of s' (t - w) c' r' u' (by grind)
  have p0 := ups_ge u hp
  have q0 := ups_ge u' hq
  rw [c0] at p0
  rw [c0'] at q0
  by_cases hm : m ≤ k
  · have hgL : ∀ v, q.1 ≤ v → v ≤ t - w → val s' v c' r' = val s' (t - w) c' r' + k * (v - (t - w)) := fun v v1 v2 => by
      rcases hg with ⟨e, he, e1, e2⟩ | hg
      · exact e2 v v1 (by grind)
      · exact hg v v1
    have fin : ∀ x, w ≤ x → x ≤ t - q.1 → val s x c r = val s w c r + m * (x - w) → M ≤ val s x c r + val s' (t - x) c' r' → M ≤ val s w c r + val s' (t - w) c' r' := fun x x1 x2 x3 hM => by
      have e2 := hgL (t - x) (by grind) (by grind)
      have := Rat.mul_nonneg (show 0 ≤ k - m by grind) (show 0 ≤ x - w by grind)
      rw [x3, e2] at hM
      grind
    have hq2 := h2 q hq (by grind)
    have eq : t - (t - q.1) = q.1 := by grind
    rcases hf with ⟨d, hd, d1, d2⟩ | hf
    · by_cases z : d.1 ≤ t - q.1
      · exact fin d.1 (by grind) z (d2 d.1 (by grind) Rat.le_refl) (h1 d hd (by grind))
      · exact fin (t - q.1) (by grind) Rat.le_refl (d2 _ (by grind) (by grind)) (by rw [eq]; exact hq2)
    · exact fin (t - q.1) (by grind) Rat.le_refl (hf _ (by grind)) (by rw [eq]; exact hq2)
  · have hfL : ∀ v, p.1 ≤ v → v ≤ w → val s v c r = val s w c r + m * (v - w) := fun v v1 v2 => by
      rcases hf with ⟨e, he, e1, e2⟩ | hf
      · exact e2 v v1 (by grind)
      · exact hf v v1
    have fin : ∀ x, p.1 ≤ x → x ≤ w → val s' (t - x) c' r' = val s' (t - w) c' r' + k * ((t - x) - (t - w)) → M ≤ val s x c r + val s' (t - x) c' r' → M ≤ val s w c r + val s' (t - w) c' r' := fun x x1 x2 x3 hM => by
      have e2 := hfL x x1 x2
      have := Rat.mul_nonneg (show 0 ≤ m - k by grind) (show 0 ≤ w - x by grind)
      rw [x3, e2] at hM
      grind
    have hp2 := h1 p hp (by grind)
    rcases hg with ⟨e, he, e1, e2⟩ | hg
    · by_cases z : p.1 ≤ t - e.1
      · have eq : t - (t - e.1) = e.1 := by grind
        exact fin (t - e.1) z (by grind) (by rw [eq]; exact e2 e.1 (by grind) Rat.le_refl) (by rw [eq]; exact h2 e he (by grind))
      · exact fin p.1 Rat.le_refl p1 (e2 _ (by grind) (by grind)) hp2
    · exact fin p.1 Rat.le_refl p1 (hg _ (by grind)) hp2

end Q
namespace Q
open PySem MP FP
theorem tail_of (s : Rat) : ∀ (c : Cn) (r : List Cn), Ups c r → ∃ x, c.1 ≤ x ∧ ∀ t, x ≤ t → val s t c r = val s x c r + s * (t - x)
  | c, [], u => ⟨c.1, Rat.le_refl, fun t _ => by
    show c.2 + s * (t - c.1) = c.2 + s * (c.1 - c.1) + s * (t - c.1)
    grind⟩
  | c, d :: r, u => by
    obtain ⟨x, h1, h2⟩ := tail_of s d r u.2
    have e : ∀ t, x ≤ t → val s t c (d :: r) = val s t d r := fun t ht => if_neg (by grind)
    refine ⟨x, by have := u.1; grind, fun t ht => ?_⟩
    rw [e t ht, e x Rat.le_refl]
    exact h2 t ht
theorem Crv.tail {B N : Nat} {F : Rat → Rat} {s : Rat} {X : Dv} (h : Crv B N F s X) : ∃ x, 0 ≤ x ∧ ∀ t, x ≤ t → F t = F x + s * (t - x) := by
  obtain ⟨c, r, _, h1, _, h3⟩ := h
  obtain ⟨x, x0, x1⟩ := tail_of s c r h1.up
  have := h1.c0
  refine ⟨x, by grind, fun t ht => ?_⟩
  rw [← h3 t (by grind), ← h3 x (by grind)]
  exact x1 t ht
theorem slope_cmp {F G : Rat → Rat} {s u x y : Rat} (x0 : 0 ≤ x) (y0 : 0 ≤ y) (hF : ∀ t, x ≤ t → F t = F x + s * (t - x)) (hG : ∀ t, y ≤ t → G t = G y + u * (t - y)) (h : ∀ t, 0 ≤ t → F t ≤ G t) : s ≤ u := by
  by_cases z : s ≤ u
  · exact z
  · exfalso
    obtain ⟨w, w1, w2⟩ : ∃ w, x ≤ w ∧ y ≤ w := by
      by_cases e : x ≤ y
      · exact ⟨y, e, Rat.le_refl⟩
      · exact ⟨x, Rat.le_refl, by grind⟩
    have hw := h w (by grind)
    have hd : (G w - F w) / (s - u) * (s - u) = G w - F w := Rat.div_mul_cancel (by grind)
    have hn : 0 ≤ (G w - F w) / (s - u) := by
      by_cases e : (G w - F w) / (s - u) < 0
      · have := lin_lt (m := s - u) (a := (G w - F w) / (s - u)) (b := 0) (by grind) e
        grind
      · grind
    generalize (G w - F w) / (s - u) = q at *
    have h2 := h (w + q + 1) (by grind)
    have f1 := hF (w + q + 1) (by grind)
    have f2 := hF w w1
    have g1 := hG (w + q + 1) (by grind)
    have g2 := hG w w2
    rw [f1, g1] at h2
    have : (F x + s * (w - x)) + s * (q + 1) ≤ (G y + u * (w - y)) + u * (q + 1) := by grind
    rw [← f2, ← g2] at this
    grind
theorem Crv.slope_le {B N B' M : Nat} {F G : Rat → Rat} {s u : Rat} {X Y : Dv} (h : Crv B N F s X) (k : Crv B' M G u Y) (hle : ∀ t, 0 ≤ t → F t ≤ G t) : s ≤ u := by
  obtain ⟨x, x0, hx⟩ := h.tail
  obtain ⟨y, y0, hy⟩ := k.tail
  exact slope_cmp x0 y0 hx hy hle
theorem ch_lo (p q : Rat) : (ch false p q = p ∨ ch false p q = q) ∧ ch false p q ≤ p ∧ ch false p q ≤ q := by
  unfold ch
  by_cases h : q < p <;> simp [h] <;> grind
theorem Crv.min_slope {B N M K : Nat} {F G : Rat → Rat} {s s' u : Rat} {X Y Z : Dv} (h : Crv B N F s X) (k : Crv B M G s' Y) (z : Crv B K (fun t => ch false (F t) (G t)) u Z) : u = ch false s s' := by
  have u1 : u ≤ s := z.slope_le h (fun t _ => (ch_lo _ _).2.1)
  have u2 : u ≤ s' := z.slope_le k (fun t _ => (ch_lo _ _).2.2)
  have u3 : ch false s s' ≤ u := by
    obtain ⟨x, x0, hx⟩ := h.tail
    obtain ⟨y, y0, hy⟩ := k.tail
    obtain ⟨v, v0, hv⟩ := z.tail
    obtain ⟨w, w1, w2⟩ : ∃ w, x ≤ w ∧ y ≤ w := by
      by_cases e : x ≤ y
      · exact ⟨y, e, Rat.le_refl⟩
      · exact ⟨x, Rat.le_refl, by grind⟩
    obtain ⟨m, hm⟩ : ∃ m, m = ch false s s' := ⟨_, rfl⟩
    obtain ⟨m1, m2⟩ : m ≤ s ∧ m ≤ s' := by rw [hm]; exact (ch_lo s s').2
    rw [← hm]
    -- a line below both, as far as from w on
    have key : ∀ t, w ≤ t → ch false (F w) (G w) + m * (t - w) ≤ ch false (F t) (G t) := fun t ht => by
      have e1 := hx t (by grind)
      have e2 := hx w w1
      have e3 := hy t (by grind)
      have e4 := hy w w2
      have a1 := Rat.mul_le_mul_of_nonneg_right m1 (show 0 ≤ t - w by grind)
      have a2 := Rat.mul_le_mul_of_nonneg_right m2 (show 0 ≤ t - w by grind)
      have c1 := (ch_lo (F w) (G w)).2
      have f1 : F w + m * (t - w) ≤ F t := by rw [e1, e2]; grind
      have g1 : G w + m * (t - w) ≤ G t := by rw [e3, e4]; grind
      rcases (ch_lo (F t) (G t)).1 with e | e <;> rw [e] <;> grind
    have := slope_cmp (F := fun t => if w ≤ t then ch false (F w) (G w) + m * (t - w) else ch false (F t) (G t)) (s := m) (x := w) (by grind) v0 (fun t ht => by
      show (if w ≤ t then _ else _) = (if w ≤ w then _ else _) + _
      rw [if_pos ht, if_pos Rat.le_refl]
      grind) hv (fun t t0 => by
      show (if w ≤ t then _ else _) ≤ _
      by_cases e : w ≤ t
      · rw [if_pos e]
        exact key t e
      · rw [if_neg e]
        exact Rat.le_refl)
    exact this
  have := (ch_lo s s').1
  have := (ch_lo s s').2
  grind

end Q
namespace Q
open PySem MP FP
theorem no_kink {s σ e : Rat} {p d : Cn} {t : List Cn} (u : Ups p (d :: t)) (nf : NF s p (d :: t)) (he : d.1 < e) (h : ∀ x, p.1 ≤ x → x < e → val s x p (d :: t) = p.2 + σ * (x - p.1)) : False := by
  obtain ⟨x, x1, x2, x3⟩ : ∃ x, d.1 < x ∧ x < e ∧ ∀ d' t', t = d' :: t' → x < d'.1 := by
    cases t with
    | nil => exact ⟨(d.1 + e) / 2, by grind, by grind, fun d' t' z => by cases z⟩
    | cons g t =>
      have hg := u.2.1
      by_cases z : g.1 < e
      · exact ⟨(d.1 + g.1) / 2, by grind, by grind, fun d' t' z => by injection z with z1 z2; rw [← z1]; grind⟩
      · exact ⟨(d.1 + e) / 2, by grind, by grind, fun d' t' z => by injection z with z1 z2; rw [← z1]; grind⟩
  have up := u.1
  have e1 := h d.1 (by grind) he
  rw [show val s d.1 p (d :: t) = val s d.1 d t from if_neg (by grind), val_start s d t u.2] at e1
  have e2 := h x (by grind) x2
  rw [show val s x p (d :: t) = val s x d t from if_neg (by grind), val_hd x3] at e2
  have b : behind d t s = σ := by
    have : (behind d t s - σ) * (x - d.1) = 0 := by grind
    rcases Rat.mul_eq_zero.mp this with z | z
    · grind
    · grind
  have c : slope p d = σ := quo_of (by grind) (by grind)
  exact nf.1 (by rw [b, c])
theorem behind_eq {s s' : Rat} {p : Cn} {r r' : List Cn} (u : Ups p r) (u' : Ups p r') (h : ∀ t, p.1 ≤ t → val s t p r = val s' t p r') : behind p r s = behind p r' s' := by
  obtain ⟨x, x1, x2, x3⟩ : ∃ x, p.1 < x ∧ (∀ d t, r = d :: t → x < d.1) ∧ ∀ d t, r' = d :: t → x < d.1 := by
    have one : ∀ (r : List Cn), Ups p r → ∃ y, p.1 < y ∧ ∀ d t, r = d :: t → y ≤ d.1 := fun r u => by
      cases r with
      | nil => exact ⟨p.1 + 1, by grind, fun d t z => by cases z⟩
      | cons d t => exact ⟨d.1, u.1, fun d' t' z => by injection z with z1 z2; rw [z1]; exact Rat.le_refl⟩
    obtain ⟨a, a1, a2⟩ := one r u
    obtain ⟨b, b1, b2⟩ := one r' u'
    by_cases z : a ≤ b
    · exact ⟨(p.1 + a) / 2, by grind, fun d t k => by have := a2 d t k; grind, fun d t k => by have := b2 d t k; grind⟩
    · exact ⟨(p.1 + b) / 2, by grind, fun d t k => by have := a2 d t k; grind, fun d t k => by have := b2 d t k; grind⟩
  have e := h x (by grind)
  rw [val_hd x2, val_hd x3] at e
  have : (behind p r s - behind p r' s') * (x - p.1) = 0 := by grind
  rcases Rat.mul_eq_zero.mp this with z | z
  · grind
  · grind
theorem uniq_from {s s' : Rat} : ∀ (r r' : List Cn) (p : Cn), Ups p r → Ups p r' → NF s p r → NF s' p r' → (∀ t, p.1 ≤ t → val s t p r = val s' t p r') → r = r' ∧ s = s'
  | [], [], p, u, u', nf, nf', h => ⟨rfl, behind_eq (r := []) (r' := []) u u' h⟩
  | [], d :: t, p, u, u', nf, nf', h => (no_kink (σ := s) (e := d.1 + 1) u' nf' (by grind) (fun x hx _ => by rw [← h x hx]; rfl)).elim
  | d :: t, [], p, u, u', nf, nf', h => (no_kink (σ := s') (e := d.1 + 1) u nf (by grind) (fun x hx _ => by rw [h x hx]; rfl)).elim
  | d :: t, d' :: t', p, u, u', nf, nf', h => by
    have hb := behind_eq u u' h
    have hb : slope p d = slope p d' := hb
    by_cases z1 : d.1 < d'.1
    · exact (no_kink (σ := slope p d') (e := d'.1) u nf z1 (fun x hx hx2 => by rw [h x hx]; exact if_pos hx2)).elim
    · by_cases z2 : d'.1 < d.1
      · exact (no_kink (σ := slope p d) (e := d.1) u' nf' z2 (fun x hx hx2 => by rw [← h x hx]; exact if_pos hx2)).elim
      · have e1 : d.1 = d'.1 := by grind
        have m1 := slope_mul u.1
        have m2 := slope_mul u'.1
        have e2 : d.2 = d'.2 := by rw [hb, e1] at m1; grind
        have e : d = d' := Prod.ext e1 e2
        subst e
        obtain ⟨a, b⟩ := uniq_from t t' d u.2 u'.2 nf.2 nf'.2 (fun x hx => by
          have := h x (by have := u.1; grind)
          rw [show val s x p (d :: t) = val s x d t from if_neg (by grind), show val s' x p (d :: t') = val s' x d t' from if_neg (by grind)] at this
          exact this)
        exact ⟨by rw [a], b⟩
/-- curves with the same values are the same -/
theorem Cv.uniq {B B' : Nat} {c : Cn} {r : List Cn} {s : Rat} {c' : Cn} {r' : List Cn} {s' : Rat} (hf : Cv B c r s) (hg : Cv B' c' r' s') (h : ∀ t, 0 ≤ t → val s t c r = val s' t c' r') : c = c' ∧ r = r' ∧ s = s' := by
  have e0 := h 0 Rat.le_refl
  have v1 := val_start s c r hf.up
  have v2 := val_start s' c' r' hg.up
  rw [hf.c0] at v1
  rw [hg.c0] at v2
  have ec : c = c' := Prod.ext (by rw [hf.c0, hg.c0]) (by rw [← v1, ← v2, e0])
  subst ec
  obtain ⟨a, b⟩ := uniq_from r r' c hf.up hg.up hf.nf hg.nf (fun t ht => h t (by rw [hf.c0] at ht; exact ht))
  exact ⟨rfl, a, b⟩
/-- one and the same curve -/
theorem CrvP.eq {P Q : Rat → Rat → Prop} {N M : Nat} {F : Rat → Rat} {s u : Rat} {X Y : Dv} (h : CrvP P N F s X) (k : CrvP Q M F u Y) : X = Y ∧ s = u := by
  obtain ⟨c, r, rfl, h2, h3, h4, h5⟩ := h
  obtain ⟨c', r', rfl, k2, k3, k4, k5⟩ := k
  obtain ⟨rfl, rfl, rfl⟩ := h2.uniq k2 (fun t t0 => by rw [h5 t t0, k5 t t0])
  exact ⟨rfl, rfl⟩

end Q
namespace Q
open PySem MP FP
theorem Crv.chP {P : Rat → Rat → Prop} (hP : ∀ m q, P m q → LB 400 m q) {hi : Bool} {N M K : Nat} {F G : Rat → Rat} {s s' u : Rat} {X Y Z : Dv} (hX : CrvP P N F s X) (hY : CrvP P M G s' Y) (hZ : Crv 400 K (fun t => ch hi (F t) (G t)) u Z) : CrvP P K (fun t => ch hi (F t) (G t)) u Z := by
  obtain ⟨c, r, rfl, h2, h5, h3, h4⟩ := hX
  obtain ⟨c', r', rfl, k2, k5, k3, k4⟩ := hY
  obtain ⟨pf, pg⟩ := gtimes_PLP h2 k2 h5 k5
  have pf := pf.congr (G := F) h4
  have pg := pg.congr (G := G) k4
  obtain ⟨_, _, i3⟩ := ins_PL hi pf pg
  have mF : ∀ x y, 0 ≤ x → x ≤ y → F x ≤ F y := fun x y hx hy => by rw [← h4 x hx, ← h4 y (by grind)]; exact h2.vmono x y hx hy
  have mG : ∀ x y, 0 ≤ x → x ≤ y → G x ≤ G y := fun x y hx hy => by rw [← k4 x hx, ← k4 y (by grind)]; exact k2.vmono x y hx hy
  have nF : 0 ≤ F 0 := by rw [← h4 0 Rat.le_refl]; exact h2.vnn 0 Rat.le_refl
  have nG : 0 ≤ G 0 := by rw [← k4 0 Rat.le_refl]; exact k2.vnn 0 Rat.le_refl
  have s0 := h2.s0
  have s0' := k2.s0
  have u0 := ch_mono (hi := hi) (x := F (lastT 0 (ins F G s s' 0 (gtimes r r')))) (y := G (lastT 0 (ins F G s s' 0 (gtimes r r')))) (x' := F (lastT 0 (ins F G s s' 0 (gtimes r r'))) + s) (y' := G (lastT 0 (ins F G s s' 0 (gtimes r r'))) + s') (by grind) (by grind)
  have cp := i3.cvP hP (fun x y hx hy => ch_mono (mF x y hx hy) (mG x y hx hy)) (ch_nn nF nG) (by grind)
  obtain ⟨e1, e2⟩ := (hZ.p (Nat.le_refl _)).eq cp
  obtain ⟨d, t, e3, z2, z3, z4⟩ := hZ
  obtain ⟨d', t', e3', w2, w5, w3, w4⟩ := cp
  have e5 := dF_inj (e3.symm.trans (e1.trans e3'))
  injection e5 with e6 e7
  subst e6 e7
  rw [← e2] at w5
  exact ⟨d, t, e3, z2, w5, z3, z4⟩

end Q
namespace Q
open PySem MP FP
/-- a row of curves, with what they have -/
structure Itm where
  cs : List Cn
  s : Rat
  f : Rat → Rat
def dJ (i : Itm) : Dv := dF i.cs i.s
def Itm.ok (N : Nat) (i : Itm) : Prop := Crv 400 N i.f i.s (dJ i)
theorem dJ_F {i : Itm} : dJ i = dF i.cs i.s := rfl
theorem rngE (l : Nat) (hl : l ≤ 100000) : rngP [.int 0, .int ((l : Int) - 1), .int 2] = .ok (.tup (stepsP 0 2 (l / 2))) := by
  have h2 : Builtin.Range.rangeSize 0 ((l : Int) - 1) 2 = ((l / 2 : Nat) : Int) := by
    unfold Builtin.Range.rangeSize
    rw [if_pos (by decide)]
    by_cases h : (0 : Int) < (l : Int) - 1
    · rw [if_pos h]; omega
    · rw [if_neg h]; omega
  have h1 : Builtin.Range.small 0 ((l : Int) - 1) 2 = true := by
    unfold Builtin.Range.small
    rw [h2, if_pos (show (2 : Int) > 0 by decide)]
    simp only [Builtin.Range.rangeFitsLong, Bool.and_eq_true, Bool.or_eq_true, decide_eq_true_eq, beq_iff_eq]
    omega
  rw [rp_3, if_pos (show rngOk 0 ((l : Int) - 1) 2 from ⟨by decide, by decide, h1, by rw [h2]; omega⟩), h2]
  rfl
theorem any_J {n : Nat} {xs : List Itm} : (xs.map dJ).any (lsF (n + 5)) = false := any_f (fun _ => ls_F) xs
theorem val_at (s : Rat) : ∀ (c : Cn) (r : List Cn) (x : Cn), Ups c r → x ∈ c :: r → val s x.1 c r = x.2
  | c, [], x, u, hx => by
    rw [List.mem_singleton.mp hx]
    exact val_start s c [] u
  | c, d :: r, x, u, hx => by
    rcases List.mem_cons.mp hx with e | hx
    · rw [e]
      exact val_start s c (d :: r) u
    · have := ups_ge u.2 hx
      show (if x.1 < d.1 then _ else val s x.1 d r) = x.2
      rw [if_neg this]
      exact val_at s d r x u.2 hx
/-- a curve to be joined -/
structure Jn (P : Rat → Rat → Prop) (bt bv bm : Nat) (c : Cn) (r : List Cn) (s : Rat) : Prop where
  c0 : c.1 = 0
  up : Ups c r
  nd : Nds c r
  v0 : ¬ c.2 < 0
  s0 : ¬ s < 0
  nf : NF s c r
  ln : Lns P s c r
  fz : Fz bt bv bm c r s

end Q
namespace Q
open PySem MP FP
theorem r_raised (n : Nat) (cs : List Cn) (s v : Rat) (hz : ∀ x ∈ cs, Sz x.2) (hv : Sz v) (hl : cs.length ≤ 900000) : runTP T (n + 4) "raised" [dF cs s, dR v] = .ok (dF (sh 0 v cs) s) := by
  rw [runTP_succ T_raised]
  have hlc : ∀ σ : Ev, σ[1]? = some (some (dR v)) → σ.length = 3 → lcQ (runTP T (n + 3)) 2 C_raised_1 E_raised_1 σ (cs.map dC) = .ok ((sh 0 v cs).map dC) := fun σ h1 h3 => by
    have e : (sh 0 v cs).map dC = cs.map fun x => frz (dC (x.1, x.2 + v)) := by
      unfold sh
      rw [List.map_map]
      refine List.map_congr_left (fun x _ => ?_)
      show dC (0 + x.1, v + x.2) = dC (x.1, x.2 + v)
      rw [show 0 + x.1 = x.1 by grind, show v + x.2 = x.2 + v by grind]
    rw [e]
    refine lc_map dC (fun x => dC (x.1, x.2 + v)) cs (fun x hx => ?_) (fun x hx => ?_)
    · simp only [MC_, VC_raised_1]
    · have sx := hz x hx
      match σ, h1, h3 with
      | [o0, o1, o2], h1, _ =>
        cases h1
        simp only [MC_, VE_raised_1, r_plus, sx, hv]
  have h1 := hlc [some (dF cs s), some (dR v), none] rfl rfl
  have hll : (sh 0 v cs).length ≤ LIM := by unfold LIM sh; simp; omega
  unfold F_raised
  simp only [MC_, h1, List.length_map, hll]
  rfl
structure Rel (xs ys : List Itm) : Prop where
  v1 : ∀ t, 0 ≤ t → ∀ y ∈ ys, ∃ x ∈ xs, y.f t = x.f t
  v2 : ∀ t, 0 ≤ t → ∀ x ∈ xs, ∃ y ∈ ys, y.f t ≤ x.f t
  s1 : ∀ y ∈ ys, ∃ x ∈ xs, y.s = x.s
  s2 : ∀ x ∈ xs, ∃ y ∈ ys, y.s ≤ x.s
theorem Rel.rfl' (xs : List Itm) : Rel xs xs := ⟨fun _ _ y h => ⟨y, h, rfl⟩, fun _ _ y h => ⟨y, h, Rat.le_refl⟩, fun y h => ⟨y, h, rfl⟩, fun y h => ⟨y, h, Rat.le_refl⟩⟩
theorem Rel.trans {xs ys zs : List Itm} (h : Rel xs ys) (k : Rel ys zs) : Rel xs zs :=
  ⟨fun t t0 z hz => by
    obtain ⟨y, hy, e⟩ := k.v1 t t0 z hz
    obtain ⟨x, hx, e2⟩ := h.v1 t t0 y hy
    exact ⟨x, hx, by rw [e, e2]⟩, fun t t0 x hx => by
    obtain ⟨y, hy, e⟩ := h.v2 t t0 x hx
    obtain ⟨z, hz, e2⟩ := k.v2 t t0 y hy
    exact ⟨z, hz, by grind⟩, fun z hz => by
    obtain ⟨y, hy, e⟩ := k.s1 z hz
    obtain ⟨x, hx, e2⟩ := h.s1 y hy
    exact ⟨x, hx, by rw [e, e2]⟩, fun x hx => by
    obtain ⟨y, hy, e⟩ := h.s2 x hx
    obtain ⟨z, hz, e2⟩ := k.s2 y hy
    exact ⟨z, hz, by grind⟩⟩
theorem Rel.app {xs ys xs' ys' : List Itm} (h : Rel xs ys) (k : Rel xs' ys') : Rel (xs ++ xs') (ys ++ ys') :=
  ⟨fun t t0 y hy => by
    rcases List.mem_append.mp hy with hy | hy
    · obtain ⟨x, hx, e⟩ := h.v1 t t0 y hy
      exact ⟨x, List.mem_append_left _ hx, e⟩
    · obtain ⟨x, hx, e⟩ := k.v1 t t0 y hy
      exact ⟨x, List.mem_append_right _ hx, e⟩, fun t t0 x hx => by
    rcases List.mem_append.mp hx with hx | hx
    · obtain ⟨y, hy, e⟩ := h.v2 t t0 x hx
      exact ⟨y, List.mem_append_left _ hy, e⟩
    · obtain ⟨y, hy, e⟩ := k.v2 t t0 x hx
      exact ⟨y, List.mem_append_right _ hy, e⟩, fun y hy => by
    rcases List.mem_append.mp hy with hy | hy
    · obtain ⟨x, hx, e⟩ := h.s1 y hy
      exact ⟨x, List.mem_append_left _ hx, e⟩
    · obtain ⟨x, hx, e⟩ := k.s1 y hy
      exact ⟨x, List.mem_append_right _ hx, e⟩, fun x hx => by
    rcases List.mem_append.mp hx with hx | hx
    · obtain ⟨y, hy, e⟩ := h.s2 x hx
      exact ⟨y, List.mem_append_left _ hy, e⟩
    · obtain ⟨y, hy, e⟩ := k.s2 x hx
      exact ⟨y, List.mem_append_right _ hy, e⟩⟩
theorem r_least_itm (n N : Nat) (x y : Itm) (hx : x.ok N) (hy : y.ok N) (hN : N ≤ 50000) : ∃ z : Itm, runTP T (n + 10) "least" [dJ x, dJ y] = .ok (dJ z) ∧ z.ok (4 * N + 1) ∧ Rel [x, y] [z] := by
  obtain ⟨Z, u, h1, h2⟩ := r_least n 400 N N (by decide) hx hy (by omega)
  have hu := Crv.min_slope hx hy h2
  have h2' := h2
  obtain ⟨c, r, rfl, _⟩ := h2
  refine ⟨⟨c :: r, u, fun t => ch false (x.f t) (y.f t)⟩, h1, h2'.mono (Nat.le_refl _) (by omega), ⟨fun t _ w hw => ?_, fun t _ w hw => ?_, fun w hw => ?_, fun w hw => ?_⟩⟩
  · rw [List.mem_singleton.mp hw]
    rcases (ch_lo (x.f t) (y.f t)).1 with e | e
    · exact ⟨x, List.mem_cons_self, e⟩
    · exact ⟨y, List.mem_cons_of_mem _ List.mem_cons_self, e⟩
  · refine ⟨_, List.mem_singleton.mpr rfl, ?_⟩
    simp only [List.mem_cons, List.not_mem_nil, or_false] at hw
    rcases hw with e | e <;> subst e
    · exact (ch_lo _ _).2.1
    · exact (ch_lo _ _).2.2
  · rw [List.mem_singleton.mp hw]
    show ∃ w ∈ [x, y], u = w.s
    rcases (ch_lo x.s y.s).1 with e | e
    · exact ⟨x, List.mem_cons_self, by rw [hu, e]⟩
    · exact ⟨y, List.mem_cons_of_mem _ List.mem_cons_self, by rw [hu, e]⟩
  · refine ⟨_, List.mem_singleton.mpr rfl, ?_⟩
    show u ≤ w.s
    simp only [List.mem_cons, List.not_mem_nil, or_false] at hw
    rw [hu]
    rcases hw with e | e <;> subst e
    · exact (ch_lo _ _).2.1
    · exact (ch_lo _ _).2.2
theorem gl_loop (n N : Nat) (hN : N ≤ 50000) (items : List Itm) : ∀ (m : Nat) (rest pre acc : List Itm) (r3 : Option Dv), rest.length / 2 = m → items = pre ++ rest → acc.length + rest.length ≤ 900000 → (∀ x ∈ rest, x.ok N) → ∃ ys r3', foP (runTP T (n + 10)) 3 B_gathered_1 (stepsP ((pre.length : Nat) : Int) 2 m) [some (.lst (items.map dJ)), some (.fn "least"), some (.own (acc.map dJ)), r3] = .nx [some (.lst (items.map dJ)), some (.fn "least"), some (.own ((acc ++ ys).map dJ)), r3'] ∧ (∀ y ∈ ys, y.ok (4 * N + 1)) ∧ ys.length = m ∧ Rel (rest.take (2 * m)) ys
  | 0, rest, pre, acc, r3, hm, hi, hl, hok => ⟨[], r3, by rw [List.append_nil]; rfl, fun y hy => absurd hy List.not_mem_nil, rfl, by rw [Nat.mul_zero, List.take_zero]; exact Rel.rfl' []⟩
  | m + 1, [], pre, acc, r3, hm, hi, hl, hok => by simp at hm
  | m + 1, [x], pre, acc, r3, hm, hi, hl, hok => by simp at hm
  | m + 1, x :: y :: rest, pre, acc, r3, hm, hi, hl, hok => by
    obtain ⟨z, z1, z2, z3⟩ := r_least_itm n N x y (hok x List.mem_cons_self) (hok y (List.mem_cons_of_mem _ List.mem_cons_self)) hN
    obtain ⟨ys, r3', h1, h2, h3, h4⟩ := gl_loop n N hN items m rest (pre ++ [x, y]) (acc ++ [z]) (some (.int ((pre.length : Nat) : Int))) (by simp at hm; omega) (by rw [hi]; simp) (by simp at hl ⊢; omega) (fun w hw => hok w (List.mem_cons_of_mem _ (List.mem_cons_of_mem _ hw)))
    refine ⟨z :: ys, r3', ?_, fun w hw => ?_, by rw [List.length_cons, h3], ?_⟩
    · have i1 : L2.atI (items.map dJ) ((pre.length : Nat) : Int) = some (dJ x) := by
        rw [hi, List.map_append, List.map_cons]
        exact FP.at_app (by simp)
      have i2 : L2.atI (items.map dJ) (((pre.length : Nat) : Int) + 1) = some (dJ y) := by
        rw [hi, show pre ++ x :: y :: rest = (pre ++ [x]) ++ y :: rest by simp, List.map_append, List.map_cons]
        exact FP.at_app (by simp)
      have hal : acc.length < LIM := by unfold LIM; simp at hl; omega
      have ep : (((pre ++ [x, y]).length : Nat) : Int) = ((pre.length : Nat) : Int) + 2 := by simp
      rw [ep, List.append_assoc] at h1
      rw [show acc ++ z :: ys = acc ++ ([z] ++ ys) from rfl, ← h1, List.map_append]
      rw [dJ_F, dJ_F, dJ_F] at z1
      rw [dJ_F] at i1 i2
      simp only [MC_, stepsP, fo_cons, VB_gathered_1, i1, i2, z1, List.length_map, hal, List.map_cons, List.map_nil, dJ_F]
    · rcases List.mem_cons.mp hw with e | hw
      · rw [e]; exact z2
      · exact h2 w hw
    · have := z3.app h4
      rw [show 2 * (m + 1) = 2 * m + 1 + 1 by omega, List.take_succ_cons, List.take_succ_cons]
      exact this

end Q
namespace Q
open PySem MP FP
theorem ga_loop (n : Nat) : ∀ (j N : Nat) (items : List Itm) (e2 e3 : Option Dv), items ≠ [] → items.length ≤ 2 ^ j → items.length ≤ 90000 → 4 ^ j * (N + 1) ≤ 200000 → (∀ x ∈ items, x.ok N) → ∃ z e2' e3', whP (runTP T (n + 10)) C_gathered_2 B_gathered_2 [some (.lst (items.map dJ)), some (.fn "least"), e2, e3] = .nx [some (.lst [dJ z]), some (.fn "least"), e2', e3'] ∧ z.ok (4 ^ j * (N + 1)) ∧ Rel items [z]
  | j, N, [], e2, e3, hne, h1, hL, h2, hok => absurd rfl hne
  | j, N, [z], e2, e3, hne, h1, hL, h2, hok => by
    have hz1 : ¬ (([z] : List Itm).length : Int) > 1 := by simp
    have hw : ∀ zs : List Itm, ¬ (zs.length : Int) > 1 → whP (runTP T (n + 10)) C_gathered_2 B_gathered_2 [some (.lst (zs.map dJ)), some (.fn "least"), e2, e3] = .nx [some (.lst (zs.map dJ)), some (.fn "least"), e2, e3] := fun zs hzs => wh_end (by simp only [MC_, VC_gathered_2, List.length_map, hzs])
    refine ⟨z, e2, e3, hw [z] hz1, (hok z List.mem_cons_self).mono (Nat.le_refl _) ?_, Rel.rfl' _⟩
    have := Nat.one_le_pow j 4 (by decide)
    have : 1 * (N + 1) ≤ 4 ^ j * (N + 1) := Nat.mul_le_mul_right _ this
    omega
  | 0, N, x :: y :: rest, e2, e3, hne, h1, hL, h2, hok => by simp at h1
  | j + 1, N, x :: y :: rest, e2, e3, hne, h1, hL, h2, hok => by
    obtain ⟨items, hi⟩ : ∃ items, items = x :: y :: rest := ⟨_, rfl⟩
    have hl2 : 2 ≤ items.length := by rw [hi]; simp
    rw [← hi] at h1 hok hL ⊢
    have hp := Nat.one_le_pow j 4 (by decide)
    have hpm : 1 * (N + 1) ≤ 4 ^ j * (N + 1) := Nat.mul_le_mul_right _ hp
    have h4 : 4 ^ (j + 1) * (N + 1) = 4 ^ j * (4 * N + 4) := by
      rw [Nat.pow_succ, Nat.mul_assoc]
      congr 1
    have hN : N ≤ 50000 := by
      have : 1 * (4 * N + 4) ≤ 4 ^ j * (4 * N + 4) := Nat.mul_le_mul_right _ hp
      omega
    have hle : 4 ^ j * (4 * N + 1 + 1) ≤ 4 ^ j * (4 * N + 4) := Nat.mul_le_mul_left _ (by omega)
    obtain ⟨ys, r3, k1, k2, k3, k4⟩ := gl_loop n N hN items (items.length / 2) items [] [] e3 rfl rfl (by simp; omega) hok
    have hr := rngE items.length (by omega)
    have hgt : (items.length : Int) > 1 := by omega
    have hpow : 2 ^ (j + 1) = 2 * 2 ^ j := by rw [Nat.pow_succ]; omega
    have key : ∀ ws : List Itm, ws.length = (items.length + 1) / 2 → (∀ w ∈ ws, w.ok (4 * N + 1)) → Rel items ws → ∀ r3', runP (runTP T (n + 10)) B_gathered_2 [some (.lst (items.map dJ)), some (.fn "least"), e2, e3] = .nx [some (.lst (ws.map dJ)), some (.fn "least"), some (.lst (ws.map dJ)), r3'] → ∃ z e2' e3', whP (runTP T (n + 10)) C_gathered_2 B_gathered_2 [some (.lst (items.map dJ)), some (.fn "least"), e2, e3] = .nx [some (.lst [dJ z]), some (.fn "least"), e2', e3'] ∧ z.ok (4 ^ (j + 1) * (N + 1)) ∧ Rel items [z] := fun ws w1 w2 w3 r3' hb => by
      obtain ⟨z, e2', e3', i1, i2, i3⟩ := ga_loop n j (4 * N + 1) ws (some (.lst (ws.map dJ))) r3' (fun h => by rw [h] at w1; simp at w1; omega) (by omega) (by omega) (by omega) w2
      refine ⟨z, e2', e3', ?_, i2.mono (Nat.le_refl _) (by omega), w3.trans i3⟩
      exact wh_go (by simp only [MC_, VC_gathered_2, List.length_map, hgt]) hb i1 (fun z => by cases z)
    rw [List.map_nil, List.nil_append] at k1
    have k1' : foP (runTP T (n + 10)) 3 B_gathered_1 (stepsP 0 2 (items.length / 2)) _ = _ := k1
    have hyl : ys.length < LIM := by unfold LIM; omega
    by_cases odd : items.length % 2 = 1
    · obtain ⟨pre, l, hpl⟩ : ∃ pre l, items = pre ++ [l] := ⟨items.dropLast, items.getLast (by rw [hi]; simp), (List.dropLast_concat_getLast _).symm⟩
      have il : L2.atI (items.map dJ) (-1) = some (dJ l) := by
        rw [hpl, List.map_append]
        exact at_m1
      have odd' : (items.length : Int) % 2 = 1 := by omega
      refine key (ys ++ [l]) (by simp; omega) (fun w hw => ?_) ?_ r3 ?_
      · rcases List.mem_append.mp hw with hw | hw
        · exact k2 w hw
        · rw [List.mem_singleton.mp hw]
          exact (hok l (by rw [hpl]; simp)).mono (Nat.le_refl _) (by omega)
      · have e : items.take (2 * (items.length / 2)) = pre := by
          have : 2 * (items.length / 2) = pre.length := by
            have := congrArg List.length hpl
            simp at this
            omega
          rw [this, hpl, List.take_left']
          rfl
        rw [e] at k4
        have := k4.app (Rel.rfl' [l])
        rw [← hpl] at this
        exact this
      · rw [dJ_F] at il
        simp only [MC_, VB_gathered_2, List.length_map, hr, any_steps, k1', any_J, odd', il, hyl, List.map_append, List.map_cons, List.map_nil, dJ_F]
    · have odd' : ¬ (items.length : Int) % 2 = 1 := by omega
      refine key ys (by omega) k2 ?_ r3 ?_
      · rw [List.take_of_length_le (by omega)] at k4
        exact k4
      · simp only [MC_, VB_gathered_2, List.length_map, hr, any_steps, k1', any_J, odd']
theorem r_gathered (n j N : Nat) (items : List Itm) (hne : items ≠ []) (h1 : items.length ≤ 2 ^ j) (hL : items.length ≤ 90000) (h2 : 4 ^ j * (N + 1) ≤ 200000) (hok : ∀ x ∈ items, x.ok N) : ∃ z : Itm, runTP T (n + 11) "gathered" [.lst (items.map dJ), .fn "least"] = .ok (dJ z) ∧ z.ok (4 ^ j * (N + 1)) ∧ Rel items [z] := by
  rw [runTP_succ T_gathered]
  obtain ⟨z, e2, e3, h, hz, hr⟩ := ga_loop n j N items none none hne h1 hL h2 hok
  refine ⟨z, ?_, hz, hr⟩
  unfold F_gathered
  rw [dJ_F] at h ⊢
  simp only [MC_, h]

end Q
namespace Q
open PySem MP FP
/-- lines that may be joined -/
structure JP (P : Rat → Rat → Prop) (bt bv bm : Nat) : Prop where
  p0 : ∀ m q, P m q → LB 400 m q
  p1 : ∀ v, Rb v bv → ∀ m q, P m q → LB 400 m (v + q)
  p2 : ∀ a v, Rb a bt → Rb v bv → ∀ m q, P m q → LB 400 m (v + q - m * a)
  n1 : bt + bt + 1 ≤ 3300
  n2 : bv + 2 * bv + 2 ≤ 3300
  n3 : bt + bt + 1 + bm ≤ 6700
theorem r_row (n : Nat) {P : Rat → Rat → Prop} {bt bv bm : Nat} (hP : JP P bt bv bm) {c : Cn} {r : List Cn} {s : Rat} {c' : Cn} {r' : List Cn} {s' : Rat} (h : Jn P bt bv bm c r s) (k : Jn P bt bv bm c' r' s') (hl : r.length + r'.length ≤ 30000) (x : Cn) (hx : x ∈ c :: r) : ∃ (A : Dv) (i : Itm), runTP T (n + 8) "spliced" [dF (c :: r) s, dR x.1, dF (c' :: r') s'] = .ok A ∧ getP (some (some A)) = .ok A ∧ frz A = A ∧ runTP T (n + 8) "raised" [A, dR c'.2] = .ok (dJ i) ∧ i.ok (r.length + r'.length + 1) ∧ i.s = s' ∧ i.f = rowJ (fun t => val s t c r) (fun t => val s' t c' r') x.1 := by
  have bx := h.fz.t x hx
  have vx := val_at s c r x h.up hx
  have bv' := h.fz.v x hx
  have x0 := ups_ge h.up hx
  rw [h.c0] at x0
  have hz' : ∀ y ∈ c' :: r', Rb y.1 bt ∧ Rb y.2 bv := fun y hy => ⟨k.fz.t y hy, k.fz.v y hy⟩
  obtain ⟨hd, tl, e1, e2, e3, e4, e5, e6⟩ := spl_ex (s' := s') h.c0 x0 h.up h.nd h.v0 h.s0 k.c0 k.up k.nd
  have hs := r_splicedG n bt bv bm bt bv c c' r r' s s' x.1 hd tl h.fz hz' bx (by rw [vx]; exact bv') hP.n1 hP.n2 hP.n3 x0 h.c0 h.up (by omega) e1 e2
  have hR := spl_RbG (s := s) (fun y hy => ⟨h.fz.t y hy, h.fz.v y hy⟩) hz' bx (show Rb (val s x.1 c r) bv by rw [vx]; exact bv')
  have hln := spl_len (s := s) (a := x.1) (c := c) (r := r) (c' := c') (r' := r')
  rw [e1] at hR hln
  have bc := (hz' c' List.mem_cons_self).2
  have ln : Lns (fun m q => LB 400 m (c'.2 + q)) s' hd tl := spl_lns (R := fun m q => LB 400 m (c'.2 + q)) h.up h.ln k.ln k.c0 (fun m q z => hP.p1 _ bc m q z) (fun m q z => by
    have := hP.p2 _ _ bx (show Rb (val s x.1 c r) bv by rw [vx]; exact bv') m q z
    show LB 400 m (c'.2 + (val s x.1 c r - c'.2 + q - m * x.1))
    rw [show c'.2 + (val s x.1 c r - c'.2 + q - m * x.1) = val s x.1 c r + q - m * x.1 by grind]
    exact this) e1
  obtain ⟨cv, cval⟩ := Cv.raised (B := 400) e4 e2 e3 e5 k.v0 k.s0 ln (fun m q z => z)
  have hll := kl_len s' tl hd
  have n2 := hP.n2
  have hra := r_raised (n + 4) (hd :: kl s' hd tl) s' c'.2 (fun y hy => by
    have := (hR y (by
      rcases List.mem_cons.mp hy with e | hy
      · rw [e]; exact List.mem_cons_self
      · exact List.mem_cons_of_mem _ (kl_mem s' tl hd y hy))).2
    exact this.sz (by omega)) (bc.sz (by omega)) (by simp at hln ⊢; omega)
  refine ⟨_, ⟨(0 + hd.1, c'.2 + hd.2) :: sh 0 c'.2 (kl s' hd tl), s', rowJ (fun t => val s t c r) (fun t => val s' t c' r') x.1⟩, hs, rfl, rfl, hra, ⟨_, _, rfl, cv, ?_, fun t t0 => ?_⟩, rfl, rfl⟩
  · unfold sh
    rw [List.length_map]
    simp at hln
    omega
  · rw [cval, e6 t (by grind)]
    have e0 := val_start s' c' r' k.up
    rw [k.c0] at e0
    unfold rowJ
    show _ = if x.1 < t then val s x.1 c r + val s' (t - x.1) c' r' else val s t c r + val s' 0 c' r'
    by_cases z : x.1 < t
    · rw [if_pos z, if_pos z]
      grind
    · rw [if_neg z, if_neg z, e0]
      grind
theorem ot_loop (n : Nat) {P : Rat → Rat → Prop} {bt bv bm : Nat} (hP : JP P bt bv bm) {c : Cn} {r : List Cn} {s : Rat} {c' : Cn} {r' : List Cn} {s' : Rat} (h : Jn P bt bv bm c r s) (k : Jn P bt bv bm c' r' s') (hl : r.length + r'.length ≤ 30000) : ∀ (rest : List Cn) (acc : List Itm) (r3 : Option Dv), (∀ x ∈ rest, x ∈ c :: r) → acc.length + rest.length ≤ 900000 → ∃ ys r3', foP (runTP T (n + 8)) 3 B_one_then_other_1 (rest.map dC) [some (dF (c :: r) s), some (dF (c' :: r') s'), some (.own (acc.map dJ)), r3] = .nx [some (dF (c :: r) s), some (dF (c' :: r') s'), some (.own ((acc ++ ys).map dJ)), r3'] ∧ ys.length = rest.length ∧ (∀ y ∈ ys, y.ok (r.length + r'.length + 1) ∧ y.s = s' ∧ ∃ x ∈ rest, y.f = rowJ (fun t => val s t c r) (fun t => val s' t c' r') x.1) ∧ ∀ x ∈ rest, ∃ y ∈ ys, y.f = rowJ (fun t => val s t c r) (fun t => val s' t c' r') x.1
  | [], acc, r3, _, _ => ⟨[], r3, by rw [List.append_nil]; rfl, rfl, fun y hy => absurd hy List.not_mem_nil, fun x hx => absurd hx List.not_mem_nil⟩
  | x :: rest, acc, r3, hm, ha => by
    obtain ⟨A, i, a1, a2, a3, a4, a5, a6, a7⟩ := r_row n hP h k hl x (hm x List.mem_cons_self)
    obtain ⟨ys, r3', h1, h2, h3, h4⟩ := ot_loop n hP h k hl rest (acc ++ [i]) (some (dC x)) (fun y hy => hm y (List.mem_cons_of_mem _ hy)) (by simp at ha ⊢; omega)
    refine ⟨i :: ys, r3', ?_, by simp [h2], fun y hy => ?_, fun y hy => ?_⟩
    · have i0 : L2.atI ((c' :: r').map dC) 0 = some (dC c') := i_at (pre := []) rfl rfl
      have hal : acc.length < LIM := by unfold LIM; simp at ha; omega
      rw [List.append_assoc] at h1
      rw [show acc ++ i :: ys = acc ++ ([i] ++ ys) from rfl, ← h1, List.map_append]
      rw [dJ_F] at a4
      generalize c :: r = cs at *
      generalize c' :: r' = cs' at *
      simp only [MC_, List.map_cons, List.map_nil, fo_cons, VB_one_then_other_1, a1, a2, a3, a4, i0, List.length_map, hal, dJ_F]
    · rcases List.mem_cons.mp hy with e | hy
      · rw [e]
        exact ⟨a5, a6, x, List.mem_cons_self, a7⟩
      · obtain ⟨b1, b2, z, hz, b3⟩ := h3 y hy
        exact ⟨b1, b2, z, List.mem_cons_of_mem _ hz, b3⟩
    · rcases List.mem_cons.mp hy with e | hy
      · rw [e]
        exact ⟨i, List.mem_cons_self, a7⟩
      · obtain ⟨z, hz, b⟩ := h4 y hy
        exact ⟨z, List.mem_cons_of_mem _ hz, b⟩
theorem r_one_then_other (n : Nat) {P : Rat → Rat → Prop} {bt bv bm : Nat} (hP : JP P bt bv bm) {c : Cn} {r : List Cn} {s : Rat} {c' : Cn} {r' : List Cn} {s' : Rat} (h : Jn P bt bv bm c r s) (k : Jn P bt bv bm c' r' s') (hl : r.length + r'.length ≤ 30000) : ∃ ys : List Itm, runTP T (n + 9) "one_then_other" [dF (c :: r) s, dF (c' :: r') s'] = .ok (.own (ys.map dJ)) ∧ ys.length = r.length + 1 ∧ (∀ y ∈ ys, y.ok (r.length + r'.length + 1) ∧ y.s = s' ∧ ∃ x ∈ c :: r, y.f = rowJ (fun t => val s t c r) (fun t => val s' t c' r') x.1) ∧ ∀ x ∈ c :: r, ∃ y ∈ ys, y.f = rowJ (fun t => val s t c r) (fun t => val s' t c' r') x.1 := by
  obtain ⟨ys, r3, h1, h2, h3, h4⟩ := ot_loop n hP h k hl (c :: r) [] none (fun _ hx => hx) (by simp; omega)
  refine ⟨ys, ?_, by rw [h2, List.length_cons], h3, h4⟩
  rw [runTP_succ T_one_then_other]
  rw [List.map_nil, List.nil_append] at h1
  generalize c :: r = cs at *
  unfold F_one_then_other
  simp only [MC_, h1]
theorem Jn.itm {P : Rat → Rat → Prop} {bt bv bm : Nat} (hP : JP P bt bv bm) {c : Cn} {r : List Cn} {s : Rat} (h : Jn P bt bv bm c r s) {N : Nat} (hN : r.length ≤ N) : (Itm.mk (c :: r) s (fun t => val s t c r)).ok N := ⟨c, r, rfl, ⟨h.c0, h.up, h.nd, h.v0, h.s0, h.nf, h.ln.mono hP.p0⟩, hN, fun t _ => rfl⟩
/-- what the joined one has -/
structure Jd (f g : Rat → Rat) (cs cs' : List Cn) (F : Rat → Rat) : Prop where
  l1 : ∀ t, 0 ≤ t → F t ≤ f t
  l2 : ∀ t, 0 ≤ t → F t ≤ g t
  l3 : ∀ t, 0 ≤ t → ∀ x ∈ cs, F t ≤ rowJ f g x.1 t
  l4 : ∀ t, 0 ≤ t → ∀ y ∈ cs', F t ≤ rowJ g f y.1 t
  ex : ∀ t, 0 ≤ t → F t = f t ∨ F t = g t ∨ (∃ x ∈ cs, F t = rowJ f g x.1 t) ∨ ∃ y ∈ cs', F t = rowJ g f y.1 t
theorem r_joined (n j : Nat) {P : Rat → Rat → Prop} {bt bv bm : Nat} (hP : JP P bt bv bm) {c : Cn} {r : List Cn} {s : Rat} {c' : Cn} {r' : List Cn} {s' : Rat} (h : Jn P bt bv bm c r s) (k : Jn P bt bv bm c' r' s') (hl : r.length + r'.length ≤ 30000) (hj : r.length + r'.length + 4 ≤ 2 ^ j) (hN : 4 ^ j * (r.length + r'.length + 2) ≤ 200000) : ∃ z : Itm, runTP T (n + 12) "joined" [dF (c :: r) s, dF (c' :: r') s'] = .ok (dJ z) ∧ z.ok (4 ^ j * (r.length + r'.length + 2)) ∧ z.s = ch false s s' ∧ Jd (fun t => val s t c r) (fun t => val s' t c' r') (c :: r) (c' :: r') z.f := by
  obtain ⟨A, a1, a2, a3, a4⟩ := r_one_then_other (n + 2) hP h k hl
  obtain ⟨B, b1, b2, b3, b4⟩ := r_one_then_other (n + 2) hP k h (by omega)
  obtain ⟨I, hI⟩ : ∃ I : Itm, I = ⟨c :: r, s, fun t => val s t c r⟩ := ⟨_, rfl⟩
  obtain ⟨J, hJ⟩ : ∃ J : Itm, J = ⟨c' :: r', s', fun t => val s' t c' r'⟩ := ⟨_, rfl⟩
  obtain ⟨z, z1, z2, z3⟩ := r_gathered n j (r.length + r'.length + 1) ([I, J] ++ A ++ B) (by simp) (by simp; omega) (by simp; omega) hN (fun x hx => by
    simp only [List.mem_append, List.mem_cons, List.not_mem_nil, or_false] at hx
    rcases hx with ((e | e) | hx) | hx
    · rw [e, hI]; exact h.itm hP (by omega)
    · rw [e, hJ]; exact k.itm hP (by omega)
    · exact (a3 x hx).1
    · exact (b3 x hx).1.mono (Nat.le_refl _) (by omega))
  have mI : I ∈ [I, J] ++ A ++ B := by simp
  have mJ : J ∈ [I, J] ++ A ++ B := by simp
  have mA : ∀ x ∈ A, x ∈ [I, J] ++ A ++ B := fun x hx => by simp [hx]
  have mB : ∀ x ∈ B, x ∈ [I, J] ++ A ++ B := fun x hx => by simp [hx]
  have le : ∀ t, 0 ≤ t → ∀ x ∈ [I, J] ++ A ++ B, z.f t ≤ x.f t := fun t t0 x hx => by
    obtain ⟨y, hy, e⟩ := z3.v2 t t0 x hx
    rw [List.mem_singleton.mp hy] at e
    exact e
  have les : ∀ x ∈ [I, J] ++ A ++ B, z.s ≤ x.s := fun x hx => by
    obtain ⟨y, hy, e⟩ := z3.s2 x hx
    rw [List.mem_singleton.mp hy] at e
    exact e
  refine ⟨z, ?_, z2, ?_, ⟨fun t t0 => ?_, fun t t0 => ?_, fun t t0 x hx => ?_, fun t t0 x hx => ?_, fun t t0 => ?_⟩⟩
  · rw [runTP_succ T_joined]
    have la : 2 + A.length ≤ LIM := by unfold LIM; omega
    have lb : A.length + 1 + 1 + B.length ≤ LIM := by unfold LIM; omega
    have lc : A.length + 1 + 1 ≤ LIM := by unfold LIM; omega
    have e : ([I, J] ++ A ++ B).map dJ = dF (c :: r) s :: dF (c' :: r') s' :: (A.map dJ ++ B.map dJ) := by
      rw [List.map_append, List.map_append, hI, hJ]
      rfl
    rw [e] at z1
    rw [dJ_F] at z1 ⊢
    generalize c :: r = cs at *
    generalize c' :: r' = cs' at *
    unfold F_joined
    simp only [MC_, a1, b1, List.length_map, List.length_append, List.length_cons, List.length_nil, la, lb, lc, z1]
  · have s1 := les I mI
    have s2 := les J mJ
    rw [hI] at s1
    rw [hJ] at s2
    have e1 : z.s = s ∨ z.s = s' := by
      obtain ⟨x, hx, e⟩ := z3.s1 z (List.mem_singleton.mpr rfl)
      simp only [List.mem_append, List.mem_cons, List.not_mem_nil, or_false] at hx
      rcases hx with ((e2 | e2) | hx) | hx
      · rw [e, e2, hI]; exact .inl rfl
      · rw [e, e2, hJ]; exact .inr rfl
      · rw [e, (a3 x hx).2.1]; exact .inr rfl
      · rw [e, (b3 x hx).2.1]; exact .inl rfl
    have s1' : z.s ≤ s := s1
    have s2' : z.s ≤ s' := s2
    have := (ch_lo s s').1
    have := (ch_lo s s').2
    grind
  · have := le t t0 I mI
    rw [hI] at this
    exact this
  · have := le t t0 J mJ
    rw [hJ] at this
    exact this
  · obtain ⟨y, hy, e⟩ := a4 x hx
    have := le t t0 y (mA y hy)
    rw [e] at this
    exact this
  · obtain ⟨y, hy, e⟩ := b4 x hx
    have := le t t0 y (mB y hy)
    rw [e] at this
    exact this
  · obtain ⟨x, hx, e⟩ := z3.v1 t t0 z (List.mem_singleton.mpr rfl)
    simp only [List.mem_append, List.mem_cons, List.not_mem_nil, or_false] at hx
    rcases hx with ((e2 | e2) | hx) | hx
    · rw [e, e2, hI]; exact .inl rfl
    · rw [e, e2, hJ]; exact .inr (.inl rfl)
    · obtain ⟨_, _, y, hy, e3⟩ := a3 x hx
      rw [e, e3]
      exact .inr (.inr (.inl ⟨y, hy, rfl⟩))
    · obtain ⟨_, _, y, hy, e3⟩ := b3 x hx
      rw [e, e3]
      exact .inr (.inr (.inr ⟨y, hy, rfl⟩))

end Q
namespace Q
open PySem MP FP
/-- a corner of fractions -/
def dK (x : Fr × Fr) : Dv := .tup [dFr x.1, dFr x.2]
def kv (x : Fr × Fr) : Cn := (x.1.v, x.2.v)
def ofC (c : Cn) : Fr × Fr := (Fr.of c.1, Fr.of c.2)
theorem dK_ofC (c : Cn) : dK (ofC c) = dC c := rfl
theorem kv_ofC (c : Cn) : kv (ofC c) = c := by
  unfold kv ofC
  rw [Fr.v_of, Fr.v_of]
theorem map_dK (cs : List Cn) : (cs.map ofC).map dK = cs.map dC := by
  rw [List.map_map]
  rfl
theorem map_kv (cs : List Cn) : (cs.map ofC).map kv = cs := by
  rw [List.map_map]
  conv => rhs; rw [← List.map_id cs]
  congr 1
  funext c
  exact kv_ofC c
theorem getP_K {x : Fr × Fr} : getP (some (some (dK x))) = .ok (dK x) := rfl
theorem frz_K {x : Fr × Fr} : frz (dK x) = dK x := rfl
theorem inL_K {x : Fr × Fr} : inL (dK x) = false := rfl
theorem ls_K {n : Nat} {x : Fr × Fr} : lsF (n + 3) (dK x) = false := rfl
theorem any_K {n : Nat} {xs : List (Fr × Fr)} : (xs.map dK).any (lsF (n + 3)) = false := any_f (fun _ => rfl) xs
theorem xp_K0 {x : Fr × Fr} : ixP (dK x) (.int 0) = .ok (dFr x.1) := rfl
theorem xp_K1 {x : Fr × Fr} : ixP (dK x) (.int 1) = .ok (dFr x.2) := rfl

end Q
namespace Q
open PySem MP FP
/-- a law's curve by points: time and value as whole numbers over two bottoms -/
abbrev Pt := Int × Int
def pk (low high : Int) (p : Pt) : Fr × Fr := (⟨p.1, low⟩, ⟨p.2, high⟩)
def PCh : Pt → List Pt → Prop
  | _, [] => True
  | p, x :: l => p.1 < x.1 ∧ x.1 - p.1 < 2 ^ 94 ∧ p.2 ≤ x.2 ∧ x.2 - p.2 < 2 ^ 95 ∧ PCh x l
def PSz (p : Pt) : Prop := 0 ≤ p.1 ∧ p.1 < 2 ^ 96 ∧ 0 ≤ p.2 ∧ p.2 < 2 ^ 96
def lastP : Pt → List Pt → Pt
  | p, [] => p
  | _, x :: l => lastP x l
theorem lastP_mem : ∀ (p : Pt) (l : List Pt), lastP p l ∈ p :: l
  | p, [] => List.mem_cons_self
  | p, x :: l => List.mem_cons_of_mem _ (lastP_mem x l)
/-- small lines with one bottom -/
def LQ (ka kd kb : Nat) (m q : Rat) : Prop := ∃ a b D : Int, 0 < D ∧ D.natAbs < 2 ^ kd ∧ a.natAbs < 2 ^ ka ∧ b.natAbs < 2 ^ kb ∧ m = Rat.divInt a D ∧ q = Rat.divInt b D
theorem LQ.lb {ka kd kb B : Nat} (h1 : ka ≤ B) (h2 : kd ≤ B) (h3 : kb ≤ B) {m q : Rat} (h : LQ ka kd kb m q) : LB B m q := by
  obtain ⟨a, b, D, h0, hD, ha, hb, e1, e2⟩ := h
  rw [e1, e2]
  exact ⟨Rb.div (up_lt ha h1) (up_lt hD h2) (by omega), Rb.div (up_lt hb h3) (up_lt hD h2) (by omega)⟩
theorem pk_slope {low high : Int} (hl : 0 < low) (hh : 0 < high) {p x : Pt} (h : p.1 < x.1) : slope (kv (pk low high p)) (kv (pk low high x)) = Rat.divInt ((x.2 - p.2) * low) ((x.1 - p.1) * high) := by
  have k1 := cast_pos hl
  have k2 := cast_pos hh
  have k3 := cast_pos (show 0 < x.1 - p.1 by omega)
  unfold slope kv pk Fr.v
  show (Rat.divInt x.2 high - Rat.divInt p.2 high) / (Rat.divInt x.1 low - Rat.divInt p.1 low) = _
  rw [Rat.divInt_eq_div, Rat.divInt_eq_div, Rat.divInt_eq_div, Rat.divInt_eq_div, Rat.divInt_eq_div, Rat.intCast_mul, Rat.intCast_mul]
  rw [Rat.intCast_sub] at k3 ⊢
  rw [Rat.intCast_sub]
  have e1 : (x.1 : Rat) / low - (p.1 : Rat) / low = ((x.1 : Rat) - p.1) / low := by rw [Rat.div_def, Rat.div_def, Rat.div_def]; grind
  have e2 : (x.2 : Rat) / high - (p.2 : Rat) / high = ((x.2 : Rat) - p.2) / high := by rw [Rat.div_def, Rat.div_def, Rat.div_def]; grind
  rw [e1, e2]
  generalize (x.1 : Rat) - p.1 = u at *
  generalize (x.2 : Rat) - p.2 = v at *
  have f1 : u / low ≠ 0 := by
    intro z
    have := Rat.div_mul_cancel (a := u) (b := (low : Rat)) (by grind)
    rw [z] at this
    grind
  refine quo_of f1 ?_
  rw [Rat.div_def, Rat.div_def, Rat.div_def]
  have : (u * (high : Rat))⁻¹ * (u * high) = 1 := Rat.inv_mul_cancel _ (by have := Rat.mul_pos k3 k2; grind)
  grind
theorem pk_q {low high : Int} (hl : 0 < low) (hh : 0 < high) (p : Pt) (a D : Int) (hD : 0 < D) : (kv (pk low high p)).2 - Rat.divInt (a * low) (D * high) * (kv (pk low high p)).1 = Rat.divInt (p.2 * D - a * p.1) (D * high) := by
  have k1 := cast_pos hl
  have k2 := cast_pos hh
  have k3 := cast_pos hD
  unfold kv pk Fr.v
  show Rat.divInt p.2 high - Rat.divInt (a * low) (D * high) * Rat.divInt p.1 low = _
  rw [Rat.divInt_eq_div, Rat.divInt_eq_div, Rat.divInt_eq_div, Rat.divInt_eq_div, Rat.intCast_mul, Rat.intCast_mul, Rat.intCast_sub, Rat.intCast_mul, Rat.intCast_mul, Rat.div_def, Rat.div_def, Rat.div_def, Rat.div_def]
  have e1 : (low : Rat) * (low : Rat)⁻¹ = 1 := Rat.mul_inv_cancel _ (by grind)
  have e2 : (high : Rat) * (high : Rat)⁻¹ = 1 := Rat.mul_inv_cancel _ (by grind)
  have e3 : (D : Rat) * (D : Rat)⁻¹ = 1 := Rat.mul_inv_cancel _ (by grind)
  have e4 : ((D : Rat) * high)⁻¹ = (D : Rat)⁻¹ * (high : Rat)⁻¹ := by
    have := Rat.mul_inv_cancel ((D : Rat) * high) (by have := Rat.mul_pos k3 k2; grind)
    grind
  rw [e4]
  grind
/-- a law's curve as the laws keep it: fractions not in lowest terms -/
structure KR (P : Rat → Rat → Prop) (xs : List (Fr × Fr)) (last : Fr) (c : Cn) (r : List Cn) : Prop where
  eq : xs.map kv = c :: r
  up : Ups c r
  nd : Nds c r
  c0 : c.1 = 0
  v0 : ¬ c.2 < 0
  s0 : ¬ last.v < 0
  ln : Lns P last.v c r
  sz : ∀ x ∈ xs, Fk x.1 100 ∧ Fk x.2 100
  sl : Fk last 250
  len : xs.length ≤ 8
theorem KR.mono {P Q : Rat → Rat → Prop} (hPQ : ∀ m q, P m q → Q m q) {xs : List (Fr × Fr)} {last : Fr} {c : Cn} {r : List Cn} (h : KR P xs last c r) : KR Q xs last c r := ⟨h.eq, h.up, h.nd, h.c0, h.v0, h.s0, h.ln.mono hPQ, h.sz, h.sl, h.len⟩
def kD (xs : List (Fr × Fr)) (last : Fr) : Dv := .tup [.lst (xs.map dK), dFr last]
theorem getP_kD {xs : List (Fr × Fr)} {l : Fr} : getP (some (some (kD xs l))) = .ok (kD xs l) := rfl
theorem frz_kD {xs : List (Fr × Fr)} {l : Fr} : frz (kD xs l) = kD xs l := rfl
theorem inL_kD {xs : List (Fr × Fr)} {l : Fr} : inL (kD xs l) = true := rfl
theorem isL_kD {xs : List (Fr × Fr)} {l : Fr} : isL (kD xs l) = false := rfl
theorem ls_kD {n : Nat} {xs : List (Fr × Fr)} {l : Fr} : lsF (n + 2) (kD xs l) = true := rfl
theorem xp_kD0 {xs : List (Fr × Fr)} {l : Fr} : ixP (kD xs l) (.int 0) = .ok (.lst (xs.map dK)) := rfl
theorem xp_kD1 {xs : List (Fr × Fr)} {l : Fr} : ixP (kD xs l) (.int 1) = .ok (dFr l) := rfl
theorem kD_eta {xs : List (Fr × Fr)} {l : Fr} : Dv.tup [.lst (xs.map dK), dFr l] = kD xs l := rfl
theorem tupP_kD {xs : List (Fr × Fr)} {l : Fr} : tupP (kD xs l) = .ok (kD xs l) := by
  show (if 2 ≤ LIM then Rv.ok (kD xs l) else .bad) = _
  rw [if_pos (by decide)]
theorem KR.bnd {P : Rat → Rat → Prop} {xs : List (Fr × Fr)} {last : Fr} {c : Cn} {r : List Cn} (h : KR P xs last c r) : ∀ x ∈ c :: r, Rb x.1 100 ∧ Rb x.2 100 := fun x hx => by
  rw [← h.eq] at hx
  obtain ⟨y, hy, rfl⟩ := List.mem_map.mp hx
  exact ⟨(h.sz y hy).1.rb, (h.sz y hy).2.rb⟩
/-- a curve's line from point to point -/
theorem pk_LQ {low high : Int} (hl : 0 < low ∧ low < 2 ^ 30) (hh : 0 < high ∧ high < 2 ^ 30) (p : Pt) (sp : PSz p) (a D : Int) (hD : 0 < D ∧ D < 2 ^ 94) (ha : 0 ≤ a ∧ a < 2 ^ 95) : LQ 125 124 191 (Rat.divInt (a * low) (D * high)) ((kv (pk low high p)).2 - Rat.divInt (a * low) (D * high) * (kv (pk low high p)).1) := by
  obtain ⟨s1, s2, s3, s4⟩ := sp
  have b1 := mul_lt (a := p.2) (b := D) (j := 96) (k := 94) (by omega) (by omega)
  have b2 := mul_lt (a := a) (b := p.1) (j := 95) (k := 96) (by omega) (by omega)
  have n1 := Int.mul_nonneg s3 (show 0 ≤ D by omega)
  have n2 := Int.mul_nonneg ha.1 s1
  refine ⟨a * low, p.2 * D - a * p.1, D * high, Int.mul_pos hD.1 hh.1, mul_lt (j := 94) (k := 30) (by omega) (by omega), mul_lt (j := 95) (k := 30) (by omega) (by omega), ?_, rfl, pk_q hl.1 hh.1 p a D hD.1⟩
  have b1' := up_lt b1 (show 96 + 94 ≤ 191 by decide)
  have b2' := up_lt b2 (show 95 + 96 ≤ 191 by decide)
  omega
theorem pk_KR {low high : Int} (hl : 0 < low ∧ low < 2 ^ 30) (hh : 0 < high ∧ high < 2 ^ 30) (last : Fr) (P : Rat → Rat → Prop) (hP : ∀ m q, LQ 125 124 191 m q → P m q) : ∀ (p : Pt) (l : List Pt), PCh p l → (∀ x ∈ p :: l, PSz x) → P last.v ((kv (pk low high (lastP p l))).2 - last.v * (kv (pk low high (lastP p l))).1) → Ups (kv (pk low high p)) (l.map fun x => kv (pk low high x)) ∧ Nds (kv (pk low high p)) (l.map fun x => kv (pk low high x)) ∧ Lns P last.v (kv (pk low high p)) (l.map fun x => kv (pk low high x))
  | p, [], _, _, h => ⟨trivial, trivial, h⟩
  | p, x :: l, hc, sz, h => by
    obtain ⟨c1, c2, c3, c4, c5⟩ := hc
    obtain ⟨i1, i2, i3⟩ := pk_KR hl hh last P hP x l c5 (fun y hy => sz y (List.mem_cons_of_mem _ hy)) h
    refine ⟨⟨(dlt hl.1).mpr c1, i1⟩, ⟨?_, i2⟩, ?_, i3⟩
    · show ¬ Rat.divInt x.2 high < Rat.divInt p.2 high
      rw [dlt hh.1]
      omega
    · rw [pk_slope hl.1 hh.1 c1]
      exact hP _ _ (pk_LQ hl hh p (sz p List.mem_cons_self) _ _ ⟨by omega, by omega⟩ ⟨by omega, by omega⟩)
theorem KR_of {low high : Int} (hl : 0 < low ∧ low < 2 ^ 30) (hh : 0 < high ∧ high < 2 ^ 30) (last : Fr) (P : Rat → Rat → Prop) (hP : ∀ m q, LQ 125 124 191 m q → P m q) (p : Pt) (l : List Pt) (p0 : p.1 = 0) (hc : PCh p l) (sz : ∀ x ∈ p :: l, PSz x) (h : P last.v ((kv (pk low high (lastP p l))).2 - last.v * (kv (pk low high (lastP p l))).1)) (s0 : 0 ≤ last.n) (sl : Fk last 250) (hlen : l.length ≤ 7) : KR P ((p :: l).map (pk low high)) last (kv (pk low high p)) (l.map fun x => kv (pk low high x)) := by
  obtain ⟨i1, i2, i3⟩ := pk_KR hl hh last P hP p l hc sz h
  refine ⟨by rw [List.map_map]; rfl, i1, i2, ?_, ?_, ?_, i3, fun x hx => ?_, sl, by simp; omega⟩
  · show Rat.divInt p.1 low = 0
    rw [p0, Rat.zero_divInt]
  · exact nn_div (sz p List.mem_cons_self).2.2.1 hh.1
  · exact nn_div s0 sl.pos
  · obtain ⟨y, hy, rfl⟩ := List.mem_map.mp hx
    obtain ⟨s1, s2, s3, s4⟩ := sz y hy
    exact ⟨⟨hl.1, by show y.1.natAbs < _; omega, by show low.natAbs < _; omega⟩, ⟨hh.1, by show y.2.natAbs < _; omega, by show high.natAbs < _; omega⟩⟩

end Q
namespace Q
open PySem MP FP
/-- a number by its top and bottom -/
def Rn (j k : Nat) (t : Rat) : Prop := ∃ n d : Int, 0 < d ∧ d.natAbs < 2 ^ k ∧ n.natAbs < 2 ^ j ∧ t = Rat.divInt n d
theorem Rn.mono {j k j' k' : Nat} (hj : j ≤ j') (hk : k ≤ k') {t : Rat} (h : Rn j k t) : Rn j' k' t := by
  obtain ⟨n, d, h0, h1, h2, e⟩ := h
  exact ⟨n, d, h0, up_lt h1 hk, up_lt h2 hj, e⟩
theorem Rn.rb {j k B : Nat} (hj : j ≤ B) (hk : k ≤ B) {t : Rat} (h : Rn j k t) : Rb t B := by
  obtain ⟨n, d, h0, h1, h2, e⟩ := h
  rw [e]
  exact Rb.div (up_lt h2 hj) (up_lt h1 hk) (by omega)
theorem Rn.zero {j k : Nat} (hj : 1 ≤ j) (hk : 1 ≤ k) : Rn j k 0 := ⟨0, 1, by decide, Nat.lt_of_lt_of_le (by decide : (1 : Int).natAbs < 2 ^ 1) (Nat.pow_le_pow_right (by decide) hk), Nat.lt_of_lt_of_le (by decide : (0 : Int).natAbs < 2 ^ 1) (Nat.pow_le_pow_right (by decide) hj), by rw [Rat.zero_divInt]⟩
theorem LQ.mono' {ka kd kb ka' kd' kb' : Nat} (h1 : ka ≤ ka') (h2 : kd ≤ kd') (h3 : kb ≤ kb') {m q : Rat} (h : LQ ka kd kb m q) : LQ ka' kd' kb' m q := by
  obtain ⟨a, b, D, h0, hD, ha, hb, e1, e2⟩ := h
  exact ⟨a, b, D, h0, up_lt hD h2, up_lt ha h1, up_lt hb h3, e1, e2⟩
theorem LQ.of0 {ka kd kb : Nat} (h1 : 1 ≤ ka) {q : Rat} (h : Rn kb kd q) : LQ ka kd kb 0 q := by
  obtain ⟨n, d, h0, hd, hn, e⟩ := h
  exact ⟨0, n, d, h0, hd, Nat.lt_of_lt_of_le (by decide : (0 : Int).natAbs < 2 ^ 1) (Nat.pow_le_pow_right (by decide) h1), hn, by rw [Rat.zero_divInt], e⟩
theorem dvs' {a b d : Int} : Rat.divInt a d - Rat.divInt b d = Rat.divInt (a - b) d := by
  rw [Rat.divInt_eq_div, Rat.divInt_eq_div, Rat.divInt_eq_div, Rat.intCast_sub, Rat.div_def, Rat.div_def, Rat.div_def]
  grind
theorem dvs'' {a b d : Int} : Rat.divInt a d + Rat.divInt b d = Rat.divInt (a + b) d := by
  rw [Rat.divInt_eq_div, Rat.divInt_eq_div, Rat.divInt_eq_div, Rat.intCast_add, Rat.div_def, Rat.div_def, Rat.div_def]
  grind
theorem dvx {a b c d : Int} (hb : 0 < b) (hd : 0 < d) : Rat.divInt a b - Rat.divInt c d = Rat.divInt (a * d - c * b) (b * d) := by
  rw [divInt_ext hb hd, divInt_ext hd hb, Int.mul_comm d b, dvs']
theorem dvp {a b c d : Int} (hb : 0 < b) (hd : 0 < d) : Rat.divInt a b + Rat.divInt c d = Rat.divInt (a * d + c * b) (b * d) := by
  rw [divInt_ext hb hd, divInt_ext hd hb, Int.mul_comm d b, dvs'']
theorem LQ.subx {ka kd kb ka' kd' kb' x y z : Nat} (hx : ka + kd' + 1 ≤ x ∧ ka' + kd + 1 ≤ x) (hy : kd + kd' ≤ y) (hz : kb + kd' + 1 ≤ z ∧ kb' + kd + 1 ≤ z) {m q m' q' : Rat} (h : LQ ka kd kb m q) (k : LQ ka' kd' kb' m' q') : LQ x y z (m - m') (q - q') := by
  obtain ⟨a, b, D, h0, hD, ha, hb, e1, e2⟩ := h
  obtain ⟨a', b', D', h0', hD', ha', hb', e1', e2'⟩ := k
  refine ⟨a * D' - a' * D, b * D' - b' * D, D * D', Int.mul_pos h0 h0', up_lt (mul_lt hD hD') hy, ?_, ?_, by rw [e1, e1', dvx h0 h0'], by rw [e2, e2', dvx h0 h0']⟩
  · exact up_lt (sub_lt (k := x - 1) (up_lt (mul_lt ha hD') (by omega)) (up_lt (mul_lt ha' hD) (by omega))) (by omega)
  · exact up_lt (sub_lt (k := z - 1) (up_lt (mul_lt hb hD') (by omega)) (up_lt (mul_lt hb' hD) (by omega))) (by omega)
theorem LQ.addx {ka kd kb ka' kd' kb' x y z : Nat} (hx : ka + kd' + 1 ≤ x ∧ ka' + kd + 1 ≤ x) (hy : kd + kd' ≤ y) (hz : kb + kd' + 1 ≤ z ∧ kb' + kd + 1 ≤ z) {m q m' q' : Rat} (h : LQ ka kd kb m q) (k : LQ ka' kd' kb' m' q') : LQ x y z (m + m') (q + q') := by
  obtain ⟨a, b, D, h0, hD, ha, hb, e1, e2⟩ := h
  obtain ⟨a', b', D', h0', hD', ha', hb', e1', e2'⟩ := k
  refine ⟨a * D' + a' * D, b * D' + b' * D, D * D', Int.mul_pos h0 h0', up_lt (mul_lt hD hD') hy, ?_, ?_, by rw [e1, e1', dvp h0 h0'], by rw [e2, e2', dvp h0 h0']⟩
  · exact up_lt (add_lt (k := x - 1) (up_lt (mul_lt ha hD') (by omega)) (up_lt (mul_lt ha' hD) (by omega))) (by omega)
  · exact up_lt (add_lt (k := z - 1) (up_lt (mul_lt hb hD') (by omega)) (up_lt (mul_lt hb' hD) (by omega))) (by omega)
theorem LQ.at {ka kd kb j k x y : Nat} (hx : ka + j + 1 ≤ x ∧ kb + k + 1 ≤ x) (hy : kd + k ≤ y) {m q t : Rat} (h : LQ ka kd kb m q) (ht : Rn j k t) : Rn x y (m * t + q) := by
  obtain ⟨a, b, D, h0, hD, ha, hb, e1, e2⟩ := h
  obtain ⟨n, d, d0, hd, hn, e⟩ := ht
  refine ⟨a * n + b * d, D * d, Int.mul_pos h0 d0, up_lt (mul_lt hD hd) hy, up_lt (add_lt (k := x - 1) (up_lt (mul_lt ha hn) (by omega)) (up_lt (mul_lt hb hd) (by omega))) (by omega), ?_⟩
  rw [e1, e2, e, Rat.divInt_mul_divInt, divInt_ext h0 d0 (a := b), dvs'']
/-- where two lines meet -/
theorem LQ.meet {ka kd kb x y : Nat} (hx : kb + kd + 1 ≤ x) (hy : ka + kd + 1 ≤ y) {m q m' q' t : Rat} (h : LQ ka kd kb m q) (k : LQ ka kd kb m' q') (hm : m ≠ m') (ht : m * t + q = m' * t + q') : Rn x y t := by
  have hl := LQ.subx (x := y) (y := kd + kd) (z := x) (by omega) (Nat.le_refl _) (by omega) h k
  obtain ⟨a, b, D, h0, hD, ha, hb, e1, e2⟩ := hl
  have hne : m - m' ≠ 0 := by grind
  have hD0 : (D : Rat) ≠ 0 := by
    have := cast_pos h0
    grind
  have e3 : (m - m') * t = -(q - q') := by grind
  rw [e1, e2, Rat.divInt_eq_div, Rat.divInt_eq_div] at e3
  have ha0 : a ≠ 0 := by
    intro z
    rw [e1, z, Rat.zero_divInt] at hne
    exact hne rfl
  have e4 : (a : Rat) * t = -(b : Rat) := by
    have k1 : (a : Rat) / D * D = a := Rat.div_mul_cancel hD0
    have k2 : (b : Rat) / D * D = b := Rat.div_mul_cancel hD0
    grind
  rcases Int.lt_or_gt_of_ne ha0 with z | z
  · refine ⟨b, -a, by omega, by rw [Int.natAbs_neg]; exact ha, hb, ?_⟩
    rw [Rat.divInt_eq_div, Rat.intCast_neg]
    have : (-(a : Rat)) ≠ 0 := by
      have := cast_pos (show 0 < -a by omega)
      rw [Rat.intCast_neg] at this
      grind
    exact (quo_of this (by grind)).symm
  · refine ⟨-b, a, z, ha, by rw [Int.natAbs_neg]; exact hb, ?_⟩
    rw [Rat.divInt_eq_div, Rat.intCast_neg]
    have : (a : Rat) ≠ 0 := by
      have := cast_pos z
      grind
    exact (quo_of this (by grind)).symm
/-- the corners of a folded curve are where its lines meet -/
theorem nf_meet {P : Rat → Rat → Prop} {K : Rat → Prop} (hK : ∀ m q m' q' t, P m q → P m' q' → m ≠ m' → m * t + q = m' * t + q' → K t) {s : Rat} : ∀ {c : Cn} {r : List Cn}, Lns P s c r → Ups c r → NF s c r → ∀ d ∈ r, K d.1
  | c, [], _, _, _, d, hd => absurd hd List.not_mem_nil
  | c, e :: r, h, u, nf, d, hd => by
    rcases List.mem_cons.mp hd with hd | hd
    · rw [hd]
      have hl := h.2.hd
      have hne : slope c e ≠ behind e r s := nf.1
      refine hK _ _ _ _ e.1 h.1 hl hne ?_
      have := slope_mul u.1
      grind
    · exact nf_meet hK h.2 u.2 nf.2 d hd
/-- a curve with its lines and its times -/
def CrvT (P : Rat → Rat → Prop) (K : Rat → Prop) (N : Nat) (F : Rat → Rat) (s : Rat) (X : Dv) : Prop := ∃ c r, X = dF (c :: r) s ∧ Cv 400 c r s ∧ Lns P s c r ∧ r.length ≤ N ∧ (∀ t, 0 ≤ t → val s t c r = F t) ∧ ∀ x ∈ c :: r, K x.1
theorem CrvT.p {P : Rat → Rat → Prop} {K : Rat → Prop} {N : Nat} {F : Rat → Rat} {s : Rat} {X : Dv} (h : CrvT P K N F s X) : CrvP P N F s X := by
  obtain ⟨c, r, h1, h2, h3, h4, h5, _⟩ := h
  exact ⟨c, r, h1, h2, h3, h4, h5⟩
theorem CrvP.t {ka kd kb x y : Nat} (hx : kb + kd + 1 ≤ x) (hy : ka + kd + 1 ≤ y) {N : Nat} {F : Rat → Rat} {s : Rat} {X : Dv} (h : CrvP (LQ ka kd kb) N F s X) : CrvT (LQ ka kd kb) (Rn x y) N F s X := by
  obtain ⟨c, r, h1, h2, h3, h4, h5⟩ := h
  refine ⟨c, r, h1, h2, h3, h4, h5, fun d hd => ?_⟩
  rcases List.mem_cons.mp hd with e | hd
  · rw [e, h2.c0]; exact .zero (by omega) (by omega)
  · exact nf_meet (fun m q m' q' t a b hm ht => LQ.meet hx hy a b hm ht) h3 h2.up h2.nf d hd
theorem line_at {P : Rat → Rat → Prop} (s t : Rat) : ∀ {c : Cn} {r : List Cn}, Lns P s c r → ∃ m, P m (val s t c r - m * t)
  | c, [], h => ⟨s, by
    show P s (c.2 + s * (t - c.1) - s * t)
    rw [show c.2 + s * (t - c.1) - s * t = c.2 - s * c.1 by grind]
    exact h⟩
  | c, d :: r, h => by
    by_cases z : t < d.1
    · refine ⟨slope c d, ?_⟩
      rw [show val s t c (d :: r) = c.2 + slope c d * (t - c.1) from if_pos z, show c.2 + slope c d * (t - c.1) - slope c d * t = c.2 - slope c d * c.1 by grind]
      exact h.1
    · obtain ⟨m, hm⟩ := line_at s t (c := d) (r := r) h.2
      exact ⟨m, by rw [show val s t c (d :: r) = val s t d r from if_neg z]; exact hm⟩

end Q
namespace Q
open PySem MP FP
/-- a curve as the laws hold it: a list, a slope -/
def dG (cs : List Cn) (s : Rat) : Dv := .tup [.lst (cs.map dC), dR s]
theorem getP_G {cs : List Cn} {s : Rat} : getP (some (some (dG cs s))) = .ok (dG cs s) := rfl
theorem frz_G {cs : List Cn} {s : Rat} : frz (dG cs s) = dG cs s := rfl
theorem inL_G {cs : List Cn} {s : Rat} : inL (dG cs s) = true := rfl
theorem isL_G {cs : List Cn} {s : Rat} : isL (dG cs s) = false := rfl
theorem xp_G0 {cs : List Cn} {s : Rat} : ixP (dG cs s) (.int 0) = .ok (.lst (cs.map dC)) := rfl
theorem xp_G1 {cs : List Cn} {s : Rat} : ixP (dG cs s) (.int 1) = .ok (dR s) := rfl

end Q
namespace Q
open PySem MP FP
def cn (low high : Int) (p : Pt) : Cn := (Rat.divInt p.1 low, Rat.divInt p.2 high)
theorem cn_kv (low high : Int) (p : Pt) : kv (pk low high p) = cn low high p := rfl
def J6Ch : Pt → List Pt → Prop
  | _, [] => True
  | p, x :: l => p.1 < x.1 ∧ x.1 - p.1 ≤ 10 ^ 6 ∧ p.2 ≤ x.2 ∧ x.2 - p.2 ≤ 2 * 10 ^ 6 ∧ J6Ch x l
def J6Sz (p : Pt) : Prop := 0 ≤ p.1 ∧ p.1 < 2 ^ 22 ∧ 0 ≤ p.2 ∧ p.2 < 2 ^ 23
abbrev JQ : Rat → Rat → Prop := LQ 28 24 47
/-- a last slope -/
def SF6 (s : Rat) : Prop := ∃ n d : Int, (0 ≤ n ∧ n < 2 ^ 20) ∧ (0 < d ∧ d ≤ 12) ∧ s = Rat.divInt n d
theorem j6_last {low high : Int} (hl : 0 < low ∧ low ≤ 12) (hh : 0 < high ∧ high ≤ 12) {s : Rat} (h : SF6 s) {p : Pt} (sp : J6Sz p) : JQ s ((cn low high p).2 - s * (cn low high p).1) := by
  obtain ⟨n, d, hn, hd, e⟩ := h
  obtain ⟨s1, s2, s3, s4⟩ := sp
  have hdl : 0 < d * low := Int.mul_pos hd.1 hl.1
  have e2 : s = Rat.divInt (n * high * low) (d * low * high) := by
    rw [e, divInt_ext hd.1 (Int.mul_pos hh.1 hl.1), Int.mul_assoc n, Int.mul_assoc d, Int.mul_comm low high]
  have q := pk_q hl.1 hh.1 p (n * high) (d * low) hdl
  rw [cn_kv, ← e2] at q
  have b1 := mul_lt (a := n) (b := high) (j := 20) (k := 4) (by omega) (by omega)
  have b2 := mul_lt (b := low) (k := 4) b1 (by omega)
  have b3 := mul_lt (a := d) (b := low) (j := 4) (k := 4) (by omega) (by omega)
  have b4 := mul_lt (b := high) (k := 4) b3 (by omega)
  have b5 := mul_lt (a := p.2) (j := 23) (by omega) b3
  have b6 := mul_lt (b := p.1) (k := 22) b1 (by omega)
  exact ⟨n * high * low, p.2 * (d * low) - n * high * p.1, d * low * high, Int.mul_pos hdl hh.1, up_lt b4 (by decide), up_lt b2 (by decide), up_lt (sub_lt (up_lt b5 (show 23 + (4 + 4) ≤ 46 by decide)) (up_lt b6 (show 20 + 4 + 22 ≤ 46 by decide))) (by decide), e2, q⟩
theorem j6_cv {low high : Int} (hl : 0 < low ∧ low ≤ 12) (hh : 0 < high ∧ high ≤ 12) {s : Rat} (hs : SF6 s) : ∀ (p : Pt) (l : List Pt), J6Ch p l → (∀ x ∈ p :: l, J6Sz x) → Ups (cn low high p) (l.map (cn low high)) ∧ Nds (cn low high p) (l.map (cn low high)) ∧ Lns JQ s (cn low high p) (l.map (cn low high))
  | p, [], _, sz => ⟨trivial, trivial, j6_last hl hh hs (sz p List.mem_cons_self)⟩
  | p, x :: l, hc, sz => by
    obtain ⟨c1, c2, c3, c4, c5⟩ := hc
    obtain ⟨i1, i2, i3⟩ := j6_cv hl hh hs x l c5 (fun y hy => sz y (List.mem_cons_of_mem _ hy))
    obtain ⟨s1, s2, s3, s4⟩ := sz p List.mem_cons_self
    refine ⟨⟨(dlt hl.1).mpr c1, i1⟩, ⟨?_, i2⟩, ?_, i3⟩
    · show ¬ Rat.divInt x.2 high < Rat.divInt p.2 high
      rw [dlt hh.1]
      omega
    · have e1 := pk_slope hl.1 hh.1 c1
      rw [cn_kv, cn_kv] at e1
      have e2 := pk_q hl.1 hh.1 p (x.2 - p.2) (x.1 - p.1) (by omega)
      rw [cn_kv] at e2
      have bd := mul_lt (a := x.1 - p.1) (b := high) (j := 20) (k := 4) (by omega) (by omega)
      have bn := mul_lt (a := x.2 - p.2) (b := low) (j := 21) (k := 4) (by omega) (by omega)
      have b1 := mul_lt (a := p.2) (b := x.1 - p.1) (j := 23) (k := 20) (by omega) (by omega)
      have b2 := mul_lt (a := x.2 - p.2) (b := p.1) (j := 21) (k := 22) (by omega) (by omega)
      show JQ (slope (cn low high p) (cn low high x)) ((cn low high p).2 - slope (cn low high p) (cn low high x) * (cn low high p).1)
      rw [e1, e2]
      exact ⟨_, _, _, Int.mul_pos (by omega) hh.1, up_lt bd (by decide), up_lt bn (by decide), up_lt (sub_lt b1 b2) (by decide), rfl, rfl⟩
/-- a law's curve, as it is drawn -/
structure J6 (c : Cn) (r : List Cn) (s : Rat) (N : Nat) : Prop where
  c0 : c.1 = 0
  up : Ups c r
  nd : Nds c r
  v0 : ¬ c.2 < 0
  s0 : ¬ s < 0
  ss : SF6 s
  ln : Lns JQ s c r
  sz : ∀ x ∈ c :: r, Rn 22 4 x.1 ∧ Rn 23 4 x.2
  len : r.length ≤ N
theorem SF6.nn {s : Rat} (h : SF6 s) : ¬ s < 0 := by
  obtain ⟨n, d, hn, hd, e⟩ := h
  rw [e]
  exact nn_div hn.1 hd.1
theorem SF6.rb {s : Rat} (h : SF6 s) : Rb s 20 := by
  obtain ⟨n, d, hn, hd, e⟩ := h
  rw [e]
  exact Rb.div (by omega) (by omega) (by omega)
theorem cn_rn {low high : Int} (hl : 0 < low ∧ low ≤ 12) (hh : 0 < high ∧ high ≤ 12) {p : Pt} (h : J6Sz p) : Rn 22 4 (cn low high p).1 ∧ Rn 23 4 (cn low high p).2 := by
  obtain ⟨a, b, c, d⟩ := h
  exact ⟨⟨p.1, low, hl.1, by omega, by omega, rfl⟩, ⟨p.2, high, hh.1, by omega, by omega, rfl⟩⟩
theorem J6_of {low high : Int} (hl : 0 < low ∧ low ≤ 12) (hh : 0 < high ∧ high ≤ 12) {s : Rat} (hs : SF6 s) (p : Pt) (l : List Pt) (p0 : p.1 = 0) (hc : J6Ch p l) (sz : ∀ x ∈ p :: l, J6Sz x) {N : Nat} (hN : l.length ≤ N) : J6 (cn low high p) (l.map (cn low high)) s N := by
  obtain ⟨i1, i2, i3⟩ := j6_cv hl hh hs p l hc sz
  refine ⟨?_, i1, i2, ?_, hs.nn, hs, i3, fun x hx => ?_, by rw [List.length_map]; exact hN⟩
  · show Rat.divInt p.1 low = 0
    rw [p0, Rat.zero_divInt]
  · exact nn_div (sz p List.mem_cons_self).2.2.1 hh.1
  · rw [← List.map_cons (f := cn low high)] at hx
    obtain ⟨y, hy, rfl⟩ := List.mem_map.mp hx
    exact cn_rn hl hh (sz y hy)
theorem dR_int (x : Int) : dR (Rat.divInt x 1) = .tup [.int x, .int 1] := by
  have e : Rat.divInt x 1 = (x : Rat) := by rw [Rat.divInt_eq_div]; show (x : Rat) / 1 = x; rw [Rat.div_def]; grind
  rw [e]
  rfl
theorem r_slope_by (n : Nat) (x low : Int) (hl : 0 < low ∧ low ≤ 12) : ∃ s, runTP T (n + 2) "_law_slope_by" [.int x, .int low] = .ok (dR s) ∧ SF6 s := by
  rw [runTP_succ T__law_slope_by]
  unfold F__law_slope_by
  have x4 := divOk4 x
  have lo := fun t (h : 0 ≤ t ∧ t < 10 ^ 6) => r_lowest n t low hl.1 (up_lt (k := 64) (by omega) (le_big (by decide))) (up_lt (k := 64) (by omega) (le_big (by decide)))
  have q1 : 0 ≤ x / 4 % 20 ∧ x / 4 % 20 < 10 ^ 6 := by omega
  have q2 : 0 ≤ x / 4 % 1000000 ∧ x / 4 % 1000000 < 10 ^ 6 := by omega
  by_cases h0 : x % 4 = 0
  · exact ⟨0, by simp only [MC_, h0], 0, 1, by decide, by decide, by rw [Rat.zero_divInt]⟩
  · by_cases h1 : x % 4 = 1
    · refine ⟨Rat.divInt (x / 4 % 3) 1, ?_, x / 4 % 3, 1, by omega, by decide, rfl⟩
      rw [dR_int]
      simp only [MC_, h1, x4, fdiv4]
    · by_cases h2 : x % 4 = 2
      · exact ⟨Rat.divInt (x / 4 % 20) low, by simp only [MC_, h2, x4, fdiv4, lo _ q1], x / 4 % 20, low, by omega, hl, rfl⟩
      · have h3 : x % 4 = 3 := by omega
        exact ⟨Rat.divInt (x / 4 % 1000000) low, by simp only [MC_, h3, x4, fdiv4, lo _ q2], x / 4 % 1000000, low, by omega, hl, rfl⟩
theorem cby_loop (n : Nat) (xs : List Int) (low high : Int) (hl : 0 < low ∧ low ≤ 12) (hh : 0 < high ∧ high ≤ 12) (e1 : Option Dv) : ∀ (m : Nat) (k : Nat) (p : Pt) (acc : List Cn) (r7 r8 r9 r10 r11 : Option Dv), 4 + 2 * (k + m) ≤ xs.length + 1 → acc.length + m ≤ 1000 → 0 ≤ p.1 → p.1 ≤ k * 1000000 → 0 ≤ p.2 → p.2 ≤ 1000000 + k * 2000000 → k + m ≤ 3 → ∃ (l : List Pt) (r7' r8' r9' r10' r11' a4 a5 : Option Dv), foP (runTP T (n + 1)) 7 B__law_curve_by_1 (stepsP (k : Int) 1 m) [some (.lst (xs.map Dv.int)), e1, some (.int low), some (.int high), some (.int p.1), some (.int p.2), some (.own (acc.map dC)), r7, r8, r9, r10, r11] = .nx [some (.lst (xs.map Dv.int)), e1, some (.int low), some (.int high), a4, a5, some (.own ((acc ++ l.map (cn low high)).map dC)), r7', r8', r9', r10', r11'] ∧ l.length = m ∧ J6Ch p l ∧ ∀ x ∈ l, J6Sz x := by
  intro m
  induction m with
  | zero =>
    intro k p acc r7 r8 r9 r10 r11 _ _ _ _ _ _ _
    refine ⟨[], r7, r8, r9, r10, r11, some (.int p.1), some (.int p.2), ?_, rfl, trivial, fun x hx => absurd hx List.not_mem_nil⟩
    simp only [stepsP, FP.fo_nil, List.map_nil, List.append_nil]
  | succ m ih =>
    intro k p acc r7 r8 r9 r10 r11 hx ha p1 p2 p3 p4 hkm
    obtain ⟨x, hx1⟩ : ∃ x, xs[3 + 2 * k]? = some x := ⟨_, List.getElem?_eq_getElem (by omega)⟩
    obtain ⟨y, hy1⟩ : ∃ y, xs[4 + 2 * k]? = some y := ⟨_, List.getElem?_eq_getElem (by omega)⟩
    have i1 : L2.atI (xs.map Dv.int) (3 + 2 * (k : Int)) = some (.int x) := by
      have := at_map (f := Dv.int) hx1
      rw [show ((3 + 2 * k : Nat) : Int) = 3 + 2 * (k : Int) by omega] at this
      exact this
    have i2 : L2.atI (xs.map Dv.int) (4 + 2 * (k : Int)) = some (.int y) := by
      have := at_map (f := Dv.int) hy1
      rw [show ((4 + 2 * k : Nat) : Int) = 4 + 2 * (k : Int) by omega] at this
      exact this
    have mk : mulOk 2 (k : Int) := mulOk_small' (by decide)
    have x2 := divOk2 x
    have y4 := divOk4 y
    have hal : acc.length < LIM := by unfold LIM; omega
    have step : ∀ gap rise : Int, 1 ≤ gap ∧ gap ≤ 10 ^ 6 → 0 ≤ rise ∧ rise ≤ 2 * 10 ^ 6 → ∀ r8 r9 r10 r11 : Option Dv, runTP T (n + 1) "_law_lowest" [.int (p.1 + gap), .int low] = .ok (dR (cn low high (p.1 + gap, p.2 + rise)).1) ∧ runTP T (n + 1) "_law_lowest" [.int (p.2 + rise), .int high] = .ok (dR (cn low high (p.1 + gap, p.2 + rise)).2) ∧ ∃ (l : List Pt) (r7' r8' r9' r10' r11' a4 a5 : Option Dv), foP (runTP T (n + 1)) 7 B__law_curve_by_1 (stepsP ((k : Int) + 1) 1 m) [some (.lst (xs.map Dv.int)), e1, some (.int low), some (.int high), some (.int (p.1 + gap)), some (.int (p.2 + rise)), some (.own (acc.map dC ++ [dC (cn low high (p.1 + gap, p.2 + rise))])), some (.int (k : Int)), r8, r9, r10, r11] = .nx [some (.lst (xs.map Dv.int)), e1, some (.int low), some (.int high), a4, a5, some (.own ((acc ++ l.map (cn low high)).map dC)), r7', r8', r9', r10', r11'] ∧ l.length = m + 1 ∧ J6Ch p l ∧ ∀ x ∈ l, J6Sz x := fun gap rise hg hr r8 r9 r10 r11 => by
      obtain ⟨l, r7', r8', r9', r10', r11', a4, a5, h1, h2, h3, h4⟩ := ih (k + 1) (p.1 + gap, p.2 + rise) (acc ++ [cn low high (p.1 + gap, p.2 + rise)]) (some (.int (k : Int))) r8 r9 r10 r11 (by omega) (by simp; omega) (by show 0 ≤ p.1 + gap; omega) (by show p.1 + gap ≤ _; omega) (by show 0 ≤ p.2 + rise; omega) (by show p.2 + rise ≤ _; omega) (by omega)
      refine ⟨r_lowest n _ _ hl.1 (up_lt (k := 70) (by omega) (le_big (by decide))) (up_lt (k := 70) (by omega) (le_big (by decide))), r_lowest n _ _ hh.1 (up_lt (k := 70) (by omega) (le_big (by decide))) (up_lt (k := 70) (by omega) (le_big (by decide))), (p.1 + gap, p.2 + rise) :: l, r7', r8', r9', r10', r11', a4, a5, ?_, by simp [h2], ⟨by show p.1 < p.1 + gap; omega, by show p.1 + gap - p.1 ≤ _; omega, by show p.2 ≤ p.2 + rise; omega, by show p.2 + rise - p.2 ≤ _; omega, h3⟩, fun z hz => ?_⟩
      · rw [List.append_assoc, List.map_append] at h1
        rw [List.map_append] at h1
        rw [show ((k : Int) + 1) = ((k + 1 : Nat) : Int) by omega]
        rw [List.map_append]
        exact h1
      · rcases List.mem_cons.mp hz with e | hz
        · rw [e]
          exact ⟨by show 0 ≤ p.1 + gap; omega, by show p.1 + gap < _; omega, by show 0 ≤ p.2 + rise; omega, by show p.2 + rise < _; omega⟩
        · exact h4 z hz
    obtain ⟨gap, hgap⟩ : ∃ gap, gap = if x % 2 = 1 then 1 + x / 2 % 1000000 else 1 + x / 2 % 5 := ⟨_, rfl⟩
    have hg : 1 ≤ gap ∧ gap ≤ 10 ^ 6 := by rw [hgap]; split <;> omega
    have hm : mulOk gap (y / 4 % 3) := mulOk_small (by omega)
    have hg3 : 0 ≤ gap * (y / 4 % 3) ∧ gap * (y / 4 % 3) ≤ 2 * 10 ^ 6 := by
      rcases (show y / 4 % 3 = 0 ∨ y / 4 % 3 = 1 ∨ y / 4 % 3 = 2 by omega) with e | e | e <;> rw [e] <;> omega
    have fin : ∀ rise, 0 ≤ rise ∧ rise ≤ 2 * 10 ^ 6 → (∀ r8 r9 r10 r11 : Option Dv, runP (runTP T (n + 1)) B__law_curve_by_1 [some (.lst (xs.map Dv.int)), e1, some (.int low), some (.int high), some (.int p.1), some (.int p.2), some (.own (acc.map dC)), some (.int (k : Int)), r8, r9, r10, r11] = .nx [some (.lst (xs.map Dv.int)), e1, some (.int low), some (.int high), some (.int (p.1 + gap)), some (.int (p.2 + rise)), some (.own (acc.map dC ++ [dC (cn low high (p.1 + gap, p.2 + rise))])), some (.int (k : Int)), some (.int x), some (.int y), some (.int gap), some (.int rise)]) → ∃ (l : List Pt) (r7' r8' r9' r10' r11' a4 a5 : Option Dv), foP (runTP T (n + 1)) 7 B__law_curve_by_1 (stepsP (k : Int) 1 (m + 1)) [some (.lst (xs.map Dv.int)), e1, some (.int low), some (.int high), some (.int p.1), some (.int p.2), some (.own (acc.map dC)), r7, r8, r9, r10, r11] = .nx [some (.lst (xs.map Dv.int)), e1, some (.int low), some (.int high), a4, a5, some (.own ((acc ++ l.map (cn low high)).map dC)), r7', r8', r9', r10', r11'] ∧ l.length = m + 1 ∧ J6Ch p l ∧ ∀ x ∈ l, J6Sz x := fun rise hr hb => by
      obtain ⟨_, _, l, r7', r8', r9', r10', r11', a4, a5, h⟩ := step gap rise hg hr (some (.int x)) (some (.int y)) (some (.int gap)) (some (.int rise))
      refine ⟨l, r7', r8', r9', r10', r11', a4, a5, ?_, h.2⟩
      rw [stepsP, fo_cons]
      show (runP (runTP T (n + 1)) B__law_curve_by_1 [some (.lst (xs.map Dv.int)), e1, some (.int low), some (.int high), some (.int p.1), some (.int p.2), some (.own (acc.map dC)), some (.int (k : Int)), r8, r9, r10, r11]).turn _ = _
      rw [hb, ← h.1]
      rfl
    have low1 := fun rise (hr : 0 ≤ rise ∧ rise ≤ 2 * 10 ^ 6) => (step gap rise hg hr none none none none).1
    have low2 := fun rise (hr : 0 ≤ rise ∧ rise ≤ 2 * 10 ^ 6) => (step gap rise hg hr none none none none).2.1
    have c0 : 0 ≤ y / 4 % 10 ∧ y / 4 % 10 ≤ 2 * 10 ^ 6 := by omega
    have c1 : 0 ≤ y / 4 % 1000000 ∧ y / 4 % 1000000 ≤ 2 * 10 ^ 6 := by omega
    have c2 : (0 : Int) ≤ 0 ∧ (0 : Int) ≤ 2 * 10 ^ 6 := by omega
    by_cases hx2 : x % 2 = 1
    · rw [if_pos hx2] at hgap
      by_cases h0 : y % 4 = 0
      · exact fin 0 c2 (fun r8 r9 r10 r11 => by simp only [MC_, VB__law_curve_by_1, i1, i2, mk, x2, y4, fdiv2, fdiv4, hx2, h0, hm, ← hgap, low1 0 c2, low2 0 c2, hal, List.length_map])
      · by_cases h2 : y % 4 = 2
        · exact fin _ c0 (fun r8 r9 r10 r11 => by simp only [MC_, VB__law_curve_by_1, i1, i2, mk, x2, y4, fdiv2, fdiv4, hx2, h2, hm, ← hgap, low1 _ c0, low2 _ c0, hal, List.length_map])
        · by_cases h3 : y % 4 = 3
          · exact fin _ c1 (fun r8 r9 r10 r11 => by simp only [MC_, VB__law_curve_by_1, i1, i2, mk, x2, y4, fdiv2, fdiv4, hx2, h3, hm, ← hgap, low1 _ c1, low2 _ c1, hal, List.length_map])
          · exact fin _ hg3 (fun r8 r9 r10 r11 => by simp only [MC_, VB__law_curve_by_1, i1, i2, mk, x2, y4, fdiv2, fdiv4, hx2, h0, h2, h3, hm, ← hgap, low1 _ hg3, low2 _ hg3, hal, List.length_map])
    · rw [if_neg hx2] at hgap
      by_cases h0 : y % 4 = 0
      · exact fin 0 c2 (fun r8 r9 r10 r11 => by simp only [MC_, VB__law_curve_by_1, i1, i2, mk, x2, y4, fdiv2, fdiv4, hx2, h0, hm, ← hgap, low1 0 c2, low2 0 c2, hal, List.length_map])
      · by_cases h2 : y % 4 = 2
        · exact fin _ c0 (fun r8 r9 r10 r11 => by simp only [MC_, VB__law_curve_by_1, i1, i2, mk, x2, y4, fdiv2, fdiv4, hx2, h2, hm, ← hgap, low1 _ c0, low2 _ c0, hal, List.length_map])
        · by_cases h3 : y % 4 = 3
          · exact fin _ c1 (fun r8 r9 r10 r11 => by simp only [MC_, VB__law_curve_by_1, i1, i2, mk, x2, y4, fdiv2, fdiv4, hx2, h3, hm, ← hgap, low1 _ c1, low2 _ c1, hal, List.length_map])
          · exact fin _ hg3 (fun r8 r9 r10 r11 => by simp only [MC_, VB__law_curve_by_1, i1, i2, mk, x2, y4, fdiv2, fdiv4, hx2, h0, h2, h3, hm, ← hgap, low1 _ hg3, low2 _ hg3, hal, List.length_map])

end Q
namespace Q
open PySem MP FP
theorem r_curve_by (n many : Nat) (xs : List Int) (h : 3 + 2 * many ≤ xs.length) (hm : many ≤ 3) : ∃ c r s, runTP T (n + 3) "_law_curve_by" [.lst (xs.map Dv.int), .int (many : Int)] = .ok (dG (c :: r) s) ∧ J6 c r s many := by
  rw [runTP_succ T__law_curve_by]
  obtain ⟨x0, h0⟩ : ∃ x, xs[0]? = some x := ⟨_, List.getElem?_eq_getElem (by omega)⟩
  obtain ⟨x1, h1⟩ : ∃ x, xs[1]? = some x := ⟨_, List.getElem?_eq_getElem (by omega)⟩
  obtain ⟨x2, h2⟩ : ∃ x, xs[2]? = some x := ⟨_, List.getElem?_eq_getElem (by omega)⟩
  have i0 : L2.atI (xs.map Dv.int) 0 = some (.int x0) := at_map (f := Dv.int) h0
  have i1 : L2.atI (xs.map Dv.int) 1 = some (.int x1) := at_map (f := Dv.int) h1
  have i2 : L2.atI (xs.map Dv.int) 2 = some (.int x2) := at_map (f := Dv.int) h2
  obtain ⟨low, hlow⟩ : ∃ low, low = 1 + x0 % 12 := ⟨_, rfl⟩
  obtain ⟨high, hhigh⟩ : ∃ high, high = 1 + x0 / 12 % 12 := ⟨_, rfl⟩
  have hl : 0 < low ∧ low ≤ 12 := by omega
  have hh : 0 < high ∧ high ≤ 12 := by omega
  have d12 : divOk x0 12 := divOk_s _ _ ⟨by decide, by decide⟩
  have f12 := fdp x0 (k := 12) (by omega)
  have d3 := divOk3 x1
  obtain ⟨s, q1, q2⟩ := r_slope_by n x2 low hl
  have key : ∀ v : Int, 0 ≤ v ∧ v < 10 ^ 6 → ∃ (l : List Pt) (r7 r8 r9 r10 r11 a4 a5 : Option Dv), runTP T (n + 2) "_law_lowest" [.int v, .int high] = .ok (dR (Rat.divInt v high)) ∧ foP (runTP T (n + 2)) 7 B__law_curve_by_1 (stepsP 0 1 many) [some (.lst (xs.map Dv.int)), some (.int (many : Int)), some (.int low), some (.int high), some (.int 0), some (.int v), some (.own [dC (0, Rat.divInt v high)]), none, none, none, none, none] = .nx [some (.lst (xs.map Dv.int)), some (.int (many : Int)), some (.int low), some (.int high), a4, a5, some (.own (((0, Rat.divInt v high) :: l.map (cn low high)).map dC)), r7, r8, r9, r10, r11] ∧ J6 (0, Rat.divInt v high) (l.map (cn low high)) s many := fun v hv => by
    obtain ⟨l, r7, r8, r9, r10, r11, a4, a5, k1, k2, k3, k4⟩ := cby_loop (n + 1) xs low high hl hh (some (.int (many : Int))) many 0 (0, v) [(0, Rat.divInt v high)] none none none none none (by omega) (by simp; omega) (by show (0 : Int) ≤ 0; omega) (by show (0 : Int) ≤ _; omega) hv.1 (by show v ≤ _; omega) (by omega)
    have e : cn low high (0, v) = (0, Rat.divInt v high) := by
      show (Rat.divInt 0 low, Rat.divInt v high) = _
      rw [Rat.zero_divInt]
    have j := J6_of hl hh q2 (0, v) l rfl k3 (fun x hx => by
      rcases List.mem_cons.mp hx with e | hx
      · rw [e]
        exact ⟨by show (0 : Int) ≤ 0; omega, by show (0 : Int) < _; omega, hv.1, by show v < _; omega⟩
      · exact k4 x hx) (N := many) (by omega)
    rw [e] at j
    exact ⟨l, r7, r8, r9, r10, r11, a4, a5, r_lowest (n + 1) v high hh.1 (up_lt (k := 64) (by omega) (le_big (by decide))) (up_lt (k := 64) (by omega) (le_big (by decide))), k1, j⟩
  have hr := rng0 many (by omega)
  unfold F__law_curve_by
  by_cases h3 : x1 % 3 = 0
  · obtain ⟨l, r7, r8, r9, r10, r11, a4, a5, k0, k1, j⟩ := key 0 (by omega)
    refine ⟨_, _, s, ?_, j⟩
    generalize (0, Rat.divInt 0 high) :: l.map (cn low high) = cs at *
    simp only [MC_, i0, i1, i2, d12, f12, ← hlow, ← hhigh, h3, k0, hr, any_steps, k1, q1]
    rfl
  · obtain ⟨l, r7, r8, r9, r10, r11, a4, a5, k0, k1, j⟩ := key (x1 / 3 % 1000000) (by omega)
    refine ⟨_, _, s, ?_, j⟩
    generalize (0, Rat.divInt (x1 / 3 % 1000000) high) :: l.map (cn low high) = cs at *
    simp only [MC_, i0, i1, i2, d12, f12, ← hlow, ← hhigh, d3, fdiv3, h3, k0, hr, any_steps, k1, q1]
    rfl
theorem r_cells (n many : Nat) (ns : List Int) (b : Int) (hb : 0 ≤ b) (hm : many ≤ 12) : ∃ xs : List Int, runTP T (n + 2) "_law_cells" [.scr (ns.map Dv.int), .int b, .int (many : Int)] = .ok (.own (xs.map Dv.int)) ∧ xs.length = 3 + 2 * many := by
  rw [runTP_succ T__law_cells]
  have hr := rng0' (3 + 2 * many) (by omega) (3 + 2 * (many : Int)) (by omega)
  have hmu : mulOk 2 (many : Int) := mulOk_small' (by decide)
  obtain ⟨ms, l1, _, l2⟩ := lc_ints (Φ := runTP T (n + 1)) (σ := [some (.scr (ns.map Dv.int)), some (.int b), some (.int (many : Int)), none]) (fun _ => True) 3 C__law_cells_1 E__law_cells_1 (3 + 2 * many) 0 1 (fun j hj => by simp only [MC_, VC__law_cells_1]) (fun j hj => by
    have := r_cell_at n ns (b + (0 + 1 * (j : Int))) (by omega)
    exact ⟨cell ns (b + (0 + 1 * (j : Int))), by simp only [MC_, VE__law_cells_1, this], trivial⟩)
  refine ⟨ms, ?_, l1⟩
  have hll : ms.length ≤ LIM := by unfold LIM; omega
  unfold F__law_cells
  simp only [MC_, hmu, hr, l2, List.length_map, hll]
theorem dg_loop (n : Nat) (low high : Int) (hl : 0 < low ∧ low ≤ 12) (hh : 0 < high ∧ high ≤ 12) (e1 e5 : Option Dv) : ∀ (m : Nat) (k : Nat) (x : Int) (p : Pt) (acc : List Cn) (r8 : Option Dv), acc.length + m ≤ 1000 → k + m ≤ 3 → 0 ≤ p.1 → p.1 ≤ k * 100 → 0 ≤ p.2 → p.2 ≤ 1000 + k * 100 → ∃ (l : List Pt) (y : Int) (r8' a4 a6 : Option Dv), foP (runTP T (n + 1)) 8 B__law_digits_curve_1 (stepsP (k : Int) 1 m) [some (.int x), e1, some (.int low), some (.int high), some (.int p.2), e5, some (.int p.1), some (.own (acc.map dC)), r8] = .nx [some (.int y), e1, some (.int low), some (.int high), a4, e5, a6, some (.own ((acc ++ l.map (cn low high)).map dC)), r8'] ∧ l.length = m ∧ J6Ch p l ∧ ∀ x ∈ l, J6Sz x := by
  intro m
  induction m with
  | zero =>
    intro k x p acc r8 _ _ _ _ _ _
    refine ⟨[], x, r8, some (.int p.2), some (.int p.1), ?_, rfl, trivial, fun x hx => absurd hx List.not_mem_nil⟩
    simp only [stepsP, FP.fo_nil, List.map_nil, List.append_nil]
  | succ m ih =>
    intro k x p acc r8 ha hkm p1 p2 p3 p4
    obtain ⟨q, hq⟩ : ∃ q : Pt, q = (p.1 + 1 + x % 100, p.2 + x / 100 % 100) := ⟨_, rfl⟩
    have q1 : q.1 = p.1 + 1 + x % 100 := by rw [hq]
    have q2 : q.2 = p.2 + x / 100 % 100 := by rw [hq]
    obtain ⟨l, y, r8', a4, a6, h1, h2, h3, h4⟩ := ih (k + 1) (x / 10000) q (acc ++ [cn low high q]) (some (.int (k : Int))) (by simp; omega) (by omega) (by omega) (by omega) (by omega) (by omega)
    have lo1 : runTP T (n + 1) "_law_lowest" [.int q.1, .int low] = .ok (dR (cn low high q).1) := r_lowest n _ _ hl.1 (up_lt (k := 70) (by omega) (le_big (by decide))) (up_lt (k := 70) (by omega) (le_big (by decide)))
    have lo2 : runTP T (n + 1) "_law_lowest" [.int q.2, .int high] = .ok (dR (cn low high q).2) := r_lowest n _ _ hh.1 (up_lt (k := 70) (by omega) (le_big (by decide))) (up_lt (k := 70) (by omega) (le_big (by decide)))
    refine ⟨q :: l, y, r8', a4, a6, ?_, by simp [h2], ⟨by omega, by omega, by omega, by omega, h3⟩, fun z hz => ?_⟩
    · have d1 : divOk x 100 := divOk_s _ _ ⟨by decide, by decide⟩
      have d2 : divOk x 10000 := divOk_s _ _ ⟨by decide, by decide⟩
      have f1 := fdp x (k := 100) (by omega)
      have f2 := fdp x (k := 10000) (by omega)
      have hal : acc.length < LIM := by unfold LIM; omega
      rw [show (((k + 1 : Nat)) : Int) = (k : Int) + 1 by omega] at h1
      rw [List.append_assoc, List.map_append] at h1
      rw [show acc ++ (q :: l).map (cn low high) = acc ++ ([cn low high q] ++ l.map (cn low high)) from rfl, ← h1]
      simp only [MC_, stepsP, fo_cons, VB__law_digits_curve_1, d1, d2, f1, f2, ← q1, ← q2, lo1, lo2, List.length_map, hal, List.map_append, List.map_cons, List.map_nil]
    · rcases List.mem_cons.mp hz with e | hz
      · rw [e]
        exact ⟨by omega, by omega, by omega, by omega⟩
      · exact h4 z hz
theorem r_digits (n R : Nat) (hR : 1 ≤ R ∧ R ≤ 4) (x : Int) : ∃ c r s, runTP T (n + 2) "_law_digits_curve" [.int x, .int (R : Int)] = .ok (dG (c :: r) s) ∧ J6 c r s (R - 1) := by
  rw [runTP_succ T__law_digits_curve]
  obtain ⟨low, hlow⟩ : ∃ low, low = 1 + x % 12 := ⟨_, rfl⟩
  obtain ⟨high, hhigh⟩ : ∃ high, high = 1 + x / 12 % 12 := ⟨_, rfl⟩
  have hl : 0 < low ∧ low ≤ 12 := by omega
  have hh : 0 < high ∧ high ≤ 12 := by omega
  have d12 : divOk x 12 := divOk_s _ _ ⟨by decide, by decide⟩
  have f12 := fdp x (k := 12) (by omega)
  have d144 : divOk x 144 := divOk_s _ _ ⟨by decide, by decide⟩
  have f144 := fdp x (k := 144) (by omega)
  have dk : divOk x 144000 := divOk_s _ _ ⟨by decide, by decide⟩
  have fk := fdp x (k := 144000) (by omega)
  obtain ⟨X, hX⟩ : ∃ X, X = x / 144000 := ⟨_, rfl⟩
  have d7 : divOk X (R : Int) := divOk_s _ _ ⟨by omega, by omega⟩
  have R0 : ¬ (R : Int) = 0 := by omega
  have hmod0 := Int.emod_nonneg X (b := (R : Int)) (by omega)
  have hmod1 := Int.emod_lt_of_pos X (b := (R : Int)) (by omega)
  have fR := fmp X (show (0 : Int) < (R : Int) by omega)
  have f7 := fdp X (k := (R : Int)) (by omega)
  obtain ⟨v, hv⟩ : ∃ v, v = x / 144 % 1000 := ⟨_, rfl⟩
  obtain ⟨m, hm⟩ : ∃ m : Nat, X % (R : Int) = (m : Int) := ⟨(X % (R : Int)).toNat, by omega⟩
  have e : cn low high (0, v) = (0, Rat.divInt v high) := by
    show (Rat.divInt 0 low, Rat.divInt v high) = _
    rw [Rat.zero_divInt]
  obtain ⟨l, y, r8, a4, a6, k1, k2, k3, k4⟩ := dg_loop n low high hl hh (some (.int (R : Int))) (some (.int (m : Int))) m 0 (X / (R : Int)) (0, v) [(0, Rat.divInt v high)] none (by simp; omega) (by omega) (by show (0 : Int) ≤ 0; omega) (by show (0 : Int) ≤ _; omega) (by show 0 ≤ v; omega) (by show v ≤ _; omega)
  have dy : divOk y 100 := divOk_s _ _ ⟨by decide, by decide⟩
  have fy := fdp y (k := 100) (by omega)
  have ql := r_lowest n (y % 100) (1 + y / 100 % 12) (by omega) (up_lt (k := 64) (by omega) (le_big (by decide))) (up_lt (k := 64) (by omega) (le_big (by decide)))
  have qs : SF6 (Rat.divInt (y % 100) (1 + y / 100 % 12)) := ⟨_, _, by omega, by omega, rfl⟩
  have j := J6_of hl hh qs (0, v) l rfl k3 (fun z hz => by
    rcases List.mem_cons.mp hz with e | hz
    · rw [e]
      exact ⟨by show (0 : Int) ≤ 0; omega, by show (0 : Int) < _; omega, by show 0 ≤ v; omega, by show v < _; omega⟩
    · exact k4 z hz) (N := R - 1) (by omega)
  rw [e] at j
  have lo := r_lowest n v high hh.1 (up_lt (k := 64) (by omega) (le_big (by decide))) (up_lt (k := 64) (by omega) (le_big (by decide)))
  have hr := rng0 m (by omega)
  refine ⟨_, _, _, ?_, j⟩
  have k1' : foP (runTP T (n + 1)) 8 B__law_digits_curve_1 (stepsP 0 1 m) [some (.int (X / (R : Int))), some (.int (R : Int)), some (.int low), some (.int high), some (.int v), some (.int (m : Int)), some (.int 0), some (.own [dC (0, Rat.divInt v high)]), none] = .nx [some (.int y), some (.int (R : Int)), some (.int low), some (.int high), a4, some (.int (m : Int)), a6, some (.own (((0, Rat.divInt v high) :: l.map (cn low high)).map dC)), r8] := k1
  generalize (0, Rat.divInt v high) :: l.map (cn low high) = cs at *
  unfold F__law_digits_curve
  simp only [MC_, d12, f12, d144, f144, dk, fk, ← hlow, ← hhigh, ← hv, ← hX, d7, f7, fR, R0, hm, lo, hr, any_steps, k1', dy, fy, ql]
  rfl
theorem ls_G {n : Nat} {cs : List Cn} {s : Rat} : lsF (n + 2) (dG cs s) = true := rfl

end Q
namespace Q
open PySem MP FP
/-- joined, by values -/
structure Cj (f g F : Rat → Rat) : Prop where
  l1 : ∀ t, 0 ≤ t → F t ≤ f t
  l2 : ∀ t, 0 ≤ t → F t ≤ g t
  l3 : ∀ t w, 0 ≤ w → w ≤ t → F t ≤ f w + g (t - w)
  ex : ∀ t, 0 ≤ t → F t = f t ∨ F t = g t ∨ ∃ w, 0 ≤ w ∧ w ≤ t ∧ F t = f w + g (t - w)
theorem Jd.cj {c c' : Cn} {r r' : List Cn} {s s' : Rat} (u : Ups c r) (u' : Ups c' r') (c0 : c.1 = 0) (c0' : c'.1 = 0) {F : Rat → Rat} (h : Jd (fun t => val s t c r) (fun t => val s' t c' r') (c :: r) (c' :: r') F) : Cj (fun t => val s t c r) (fun t => val s' t c' r') F := by
  have x0 : ∀ x ∈ c :: r, 0 ≤ x.1 := fun x hx => by have := ups_ge u hx; rw [c0] at this; grind
  have y0 : ∀ y ∈ c' :: r', 0 ≤ y.1 := fun y hy => by have := ups_ge u' hy; rw [c0'] at this; grind
  refine ⟨h.l1, h.l2, fun t w w0 wt => ?_, fun t t0 => ?_⟩
  · refine part_least u u' c0 c0' (fun x hx hxt => ?_) (fun y hy hyt => ?_) w0 wt
    · have e := h.l3 t (by have := x0 x hx; grind) x hx
      unfold rowJ at e
      by_cases z : x.1 < t
      · rw [if_pos z] at e; exact e
      · rw [if_neg z] at e
        have z : x.1 = t := by grind
        rw [z, show t - t = (0 : Rat) by grind]
        exact e
    · have e := h.l4 t (by have := y0 y hy; grind) y hy
      unfold rowJ at e
      by_cases z : y.1 < t
      · rw [if_pos z] at e
        have e : F t ≤ val s' y.1 c' r' + val s (t - y.1) c r := e
        grind
      · rw [if_neg z] at e
        have z : y.1 = t := by grind
        have e : F t ≤ val s' t c' r' + val s 0 c r := e
        rw [z, show t - t = (0 : Rat) by grind]
        grind
  · rcases h.ex t t0 with e | e | ⟨x, hx, e⟩ | ⟨y, hy, e⟩
    · exact .inl e
    · exact .inr (.inl e)
    · refine .inr (.inr ?_)
      unfold rowJ at e
      by_cases z : x.1 < t
      · rw [if_pos z] at e
        exact ⟨x.1, x0 x hx, by grind, e⟩
      · rw [if_neg z] at e
        exact ⟨t, t0, Rat.le_refl, by rw [show t - t = (0 : Rat) by grind]; exact e⟩
    · refine .inr (.inr ?_)
      have yy := y0 y hy
      unfold rowJ at e
      by_cases z : y.1 < t
      · rw [if_pos z] at e
        have e : F t = val s' y.1 c' r' + val s (t - y.1) c r := e
        exact ⟨t - y.1, by grind, by grind, by rw [show t - (t - y.1) = y.1 by grind]; grind⟩
      · rw [if_neg z] at e
        have e : F t = val s' t c' r' + val s 0 c r := e
        exact ⟨0, Rat.le_refl, t0, by rw [show t - 0 = t by grind]; grind⟩
theorem Cj.cg {f f' g g' F F' : Rat → Rat} (h : Cj f g F) (e1 : ∀ t, 0 ≤ t → f t = f' t) (e2 : ∀ t, 0 ≤ t → g t = g' t) (e3 : ∀ t, 0 ≤ t → F t = F' t) : Cj f' g' F' := by
  refine ⟨fun t t0 => by rw [← e1 t t0, ← e3 t t0]; exact h.l1 t t0, fun t t0 => by rw [← e2 t t0, ← e3 t t0]; exact h.l2 t t0, fun t w w0 wt => by rw [← e1 w w0, ← e2 (t - w) (by grind), ← e3 t (by grind)]; exact h.l3 t w w0 wt, fun t t0 => ?_⟩
  rw [← e1 t t0, ← e2 t t0, ← e3 t t0]
  rcases h.ex t t0 with e | e | ⟨w, w0, wt, e⟩
  · exact .inl e
  · exact .inr (.inl e)
  · exact .inr (.inr ⟨w, w0, wt, by rw [← e1 w w0, ← e2 (t - w) (by grind)]; exact e⟩)
theorem Cj.comm {f g F : Rat → Rat} (h : Cj f g F) : Cj g f F := ⟨h.l2, h.l1, fun t w w0 wt => by
  have := h.l3 t (t - w) (by grind) (by grind)
  rw [show t - (t - w) = w by grind] at this
  grind, fun t t0 => by
  rcases h.ex t t0 with e | e | ⟨w, w0, wt, e⟩
  · exact .inr (.inl e)
  · exact .inl e
  · exact .inr (.inr ⟨t - w, by grind, by grind, by rw [show t - (t - w) = w by grind]; grind⟩)⟩
theorem Cj.mono {f g f' g' F F' : Rat → Rat} (h : Cj f g F) (k : Cj f' g' F') (hf : ∀ t, 0 ≤ t → f t ≤ f' t) (hg : ∀ t, 0 ≤ t → g t ≤ g' t) {t : Rat} (t0 : 0 ≤ t) : F t ≤ F' t := by
  rcases k.ex t t0 with e | e | ⟨w, w0, wt, e⟩
  · have := h.l1 t t0
    have := hf t t0
    grind
  · have := h.l2 t t0
    have := hg t t0
    grind
  · have := h.l3 t w w0 wt
    have := hf w w0
    have := hg (t - w) (by grind)
    grind
theorem Cj.same {f g F F' : Rat → Rat} (h : Cj f g F) (k : Cj f g F') {t : Rat} (t0 : 0 ≤ t) : F t = F' t := by
  have := h.mono k (fun _ _ => Rat.le_refl) (fun _ _ => Rat.le_refl) t0
  have := k.mono h (fun _ _ => Rat.le_refl) (fun _ _ => Rat.le_refl) t0
  grind
theorem ch_f (p q : Rat) : (ch false p q = p ∨ ch false p q = q) ∧ ch false p q ≤ p ∧ ch false p q ≤ q := by
  unfold ch
  by_cases h : q < p <;> simp [h] <;> grind
theorem ch_t (p q : Rat) : (ch true p q = p ∨ ch true p q = q) ∧ p ≤ ch true p q ∧ q ≤ ch true p q := by
  unfold ch
  by_cases h : p < q <;> simp [h] <;> grind
/-- joined with the least of two -/
theorem Cj.least {f g h X A B : Rat → Rat} (x : Cj f (fun t => ch false (g t) (h t)) X) (a : Cj f g A) (b : Cj f h B) {t : Rat} (t0 : 0 ≤ t) : X t = ch false (A t) (B t) := by
  have xa := x.mono a (fun _ _ => Rat.le_refl) (fun t _ => (ch_f (g t) (h t)).2.1) t0
  have xb := x.mono b (fun _ _ => Rat.le_refl) (fun t _ => (ch_f (g t) (h t)).2.2) t0
  have le : A t ≤ X t ∨ B t ≤ X t := by
    rcases x.ex t t0 with e | e | ⟨w, w0, wt, e⟩
    · exact .inl (by rw [e]; exact a.l1 t t0)
    · have e : X t = ch false (g t) (h t) := e
      rcases (ch_f (g t) (h t)).1 with z | z
      · exact .inl (by rw [e, z]; exact a.l2 t t0)
      · exact .inr (by rw [e, z]; exact b.l2 t t0)
    · have e : X t = f w + ch false (g (t - w)) (h (t - w)) := e
      rcases (ch_f (g (t - w)) (h (t - w))).1 with z | z
      · exact .inl (by rw [e, z]; exact a.l3 t w w0 wt)
      · exact .inr (by rw [e, z]; exact b.l3 t w w0 wt)
  have c := ch_f (A t) (B t)
  rcases c.1 with z | z <;> rcases le with y | y <;> grind
theorem Cj.assoc_le {f g h A X B Y : Rat → Rat} (a : Cj f g A) (x : Cj A h X) (b : Cj g h B) (y : Cj f B Y) {t : Rat} (t0 : 0 ≤ t) : X t ≤ Y t := by
  rcases y.ex t t0 with e | e | ⟨w, w0, wt, e⟩
  · have := x.l1 t t0
    have := a.l1 t t0
    grind
  · rcases b.ex t t0 with z | z | ⟨v, v0, vt, z⟩
    · have := x.l1 t t0
      have := a.l2 t t0
      grind
    · have := x.l2 t t0
      grind
    · have := x.l3 t v v0 vt
      have := a.l2 v v0
      grind
  · rcases b.ex (t - w) (by grind) with z | z | ⟨v, v0, vt, z⟩
    · have := x.l1 t t0
      have := a.l3 t w w0 wt
      grind
    · have := x.l3 t w w0 wt
      have := a.l1 w w0
      grind
    · have e1 := x.l3 t (w + v) (by grind) (by grind)
      have e2 := a.l3 (w + v) w w0 (by grind)
      rw [show w + v - w = v by grind] at e2
      rw [show t - (w + v) = t - w - v by grind] at e1
      grind
theorem Cj.assoc {f g h A X B Y : Rat → Rat} (a : Cj f g A) (x : Cj A h X) (b : Cj g h B) (y : Cj f B Y) {t : Rat} (t0 : 0 ≤ t) : X t = Y t := by
  have := Cj.assoc_le a x b y t0
  have := Cj.assoc_le b.comm y.comm a.comm x.comm t0
  grind

end Q
namespace Q
open PySem MP FP
theorem lns_sl6 {P : Rat → Rat → Prop} {b : Nat} (hP : ∀ m q, P m q → Rb m b) {s : Rat} : ∀ {c : Cn} {r : List Cn}, Lns P s c r → ∀ m ∈ gaps c r ++ [s], Rb m b
  | c, [], h, m, hm => by
    rw [List.mem_singleton.mp hm]
    exact hP _ _ h
  | c, d :: r, h, m, hm => by
    rcases List.mem_cons.mp hm with e | hm
    · rw [e]
      exact hP _ _ h.1
    · exact lns_sl6 hP h.2 m hm
/-- a drawn curve, kept -/
theorem J6.t {c : Cn} {r : List Cn} {s : Rat} {N : Nat} (h : J6 c r s N) : CrvT JQ (Rn 22 4) N (fun t => val s t c r) s (dF (c :: kl s c r) s) := by
  obtain ⟨cv, cval⟩ := Cv.of_fold (B := 400) h.up h.nd h.c0 h.v0 h.s0 (h.ln.mono (fun m q z => z.lb (by decide) (by decide) (by decide)))
  have kn := kl_len s r c
  have hl := h.len
  refine ⟨c, kl s c r, rfl, cv, kl_lns JQ s _ _ c h.up (.inl rfl) h.ln, by omega, fun t _ => cval t, fun x hx => (h.sz x ?_).1⟩
  rcases List.mem_cons.mp hx with e | hx
  · rw [e]; exact List.mem_cons_self
  · exact List.mem_cons_of_mem _ (kl_mem s r c x hx)
theorem J6.run {c : Cn} {r : List Cn} {s : Rat} {N : Nat} (h : J6 c r s N) (n : Nat) (hN : N ≤ 1000) : runTP T (n + 8) "curve" [.lst ((c :: r).map dC), dR s] = .ok (dF (c :: kl s c r) s) := by
  have hl := h.len
  exact r_curve n (.lst ((c :: r).map dC)) c r s Sq.lst (fun x hx => ⟨(h.sz x hx).1.rb (by decide) (by decide), (h.sz x hx).2.rb (by decide) (by decide)⟩) (by omega) h.up h.nd h.c0 h.v0 (h.ss.rb.sz (by decide)) h.s0
theorem CrvT.mono {P : Rat → Rat → Prop} {K K' : Rat → Prop} (hK : ∀ t, K t → K' t) {N : Nat} {F : Rat → Rat} {s : Rat} {X : Dv} (h : CrvT P K N F s X) : CrvT P K' N F s X := by
  obtain ⟨c, r, h1, h2, h3, h4, h5, h6⟩ := h
  exact ⟨c, r, h1, h2, h3, h4, h5, fun x hx => hK _ (h6 x hx)⟩
/-- to be joined: its lines Q, its times Rn j k -/
theorem CrvT.jn {ka kd kb j k x y bt bv bm bq : Nat} (hx : ka + j + 1 ≤ x ∧ kb + k + 1 ≤ x) (hy : kd + k ≤ y) (h1 : j ≤ bt ∧ k ≤ bt) (h2 : x ≤ bv ∧ y ≤ bv) (h3 : ka ≤ bm ∧ kd ≤ bm) (h4 : kb ≤ bq ∧ kd ≤ bq) {N : Nat} {F : Rat → Rat} {s : Rat} {X : Dv} (h : CrvT (LQ ka kd kb) (Rn j k) N F s X) : ∃ c r, X = dF (c :: r) s ∧ Jn (fun m q => Rb m bm ∧ Rb q bq) bt bv bm c r s ∧ r.length ≤ N ∧ ∀ t, 0 ≤ t → val s t c r = F t := by
  obtain ⟨c, r, e, cv, ln, hl, vl, tm⟩ := h
  have lb : ∀ m q, LQ ka kd kb m q → Rb m bm ∧ Rb q bq := fun m q ⟨a, b, D, h0, hD, ha, hb, e1, e2⟩ => by
    rw [e1, e2]
    exact ⟨Rb.div (up_lt ha (by omega)) (up_lt hD (by omega)) (by omega), Rb.div (up_lt hb (by omega)) (up_lt hD (by omega)) (by omega)⟩
  refine ⟨c, r, e, ⟨cv.c0, cv.up, cv.nd, cv.v0, cv.s0, cv.nf, ln.mono lb, fun d hd => (tm d hd).rb h1.1 h1.2, fun d hd => ?_, lns_sl6 (fun m q z => (lb m q z).1) ln⟩, hl, vl⟩
  obtain ⟨m, hm⟩ := line_at s d.1 ln
  have := (hm.at hx hy (tm d hd)).rb h2.1 h2.2
  rw [show m * d.1 + (val s d.1 c r - m * d.1) = val s d.1 c r by grind, val_at s c r d cv.up hd] at this
  exact this

end Q
namespace Q
open PySem MP FP
theorem J6.mono {c : Cn} {r : List Cn} {s : Rat} {N M : Nat} (h : J6 c r s N) (hN : N ≤ M) : J6 c r s M := ⟨h.c0, h.up, h.nd, h.v0, h.s0, h.ss, h.ln, h.sz, Nat.le_trans h.len hN⟩
theorem rng2' (b : Int) (m : Nat) (hb : -1000 ≤ b ∧ b ≤ 1000) (hm : m ≤ 1000) : rngP [.int b, .int (b + m)] = .ok (.tup (stepsP b 1 m)) := by
  have h : small b ∧ small (b + m) := by unfold small; omega
  rw [rp_2, if_pos h]
  rw [show (b + (m : Int) - b).toNat = m by omega]
theorem r_three (n : Nat) (ns : List Int) : ∃ c1 r1 s1 c2 r2 s2 c3 r3 s3, runTP T (n + 4) "_law_three" [.scr (ns.map Dv.int)] = .ok (.own [dG (c1 :: r1) s1, dG (c2 :: r2) s2, dG (c3 :: r3) s3]) ∧ J6 c1 r1 s1 2 ∧ J6 c2 r2 s2 2 ∧ J6 c3 r3 s3 2 := by
  rw [runTP_succ T__law_three]
  have hc := fun k h0 => r_cell_at (n + 2) ns k h0
  have d2 : divOk (cell ns 0) 2 := divOk2 _
  by_cases h1 : cell ns 0 % 2 = 1
  · obtain ⟨c1, r1, s1, q1, j1⟩ := r_digits (n + 1) 3 (by decide) (cell ns 2)
    obtain ⟨c2, r2, s2, q2, j2⟩ := r_digits (n + 1) 3 (by decide) (cell ns 3)
    obtain ⟨c3, r3, s3, q3, j3⟩ := r_digits (n + 1) 3 (by decide) (cell ns 4)
    refine ⟨c1, r1, s1, c2, r2, s2, c3, r3, s3, ?_, j1, j2, j3⟩
    have q1 : runTP T (n + 3) "_law_digits_curve" [.int (cell ns 2), .int 3] = _ := q1
    have q2 : runTP T (n + 3) "_law_digits_curve" [.int (cell ns 3), .int 3] = _ := q2
    have q3 : runTP T (n + 3) "_law_digits_curve" [.int (cell ns 4), .int 3] = _ := q3
    have k2 := hc 2 (by decide)
    have k3 := hc 3 (by decide)
    have k4 := hc 4 (by decide)
    have hr : rngP [.int 2, .int 5] = .ok (.tup (stepsP 2 1 3)) := rng2' 2 3 (by decide) (by decide)
    have hlc : lcQ (runTP T (n + 3)) 1 C__law_three_1 E__law_three_1 [some (.scr (ns.map Dv.int)), none, none, none] (stepsP 2 1 3) = .ok [dG (c1 :: r1) s1, dG (c2 :: r2) s2, dG (c3 :: r3) s3] := by
      show lcQ (runTP T (n + 3)) 1 C__law_three_1 E__law_three_1 [some (.scr (ns.map Dv.int)), none, none, none] [.int 2, .int 3, .int 4] = _
      refine FP.lc_cons (y := dG (c1 :: r1) s1) ?_ ?_ (FP.lc_cons (y := dG (c2 :: r2) s2) ?_ ?_ (FP.lc_cons (y := dG (c3 :: r3) s3) ?_ ?_ FP.lc_nil))
      · simp only [MC_, VC__law_three_1]
      · simp only [MC_, VE__law_three_1, k2, q1]
      · simp only [MC_, VC__law_three_1]
      · simp only [MC_, VE__law_three_1, k3, q2]
      · simp only [MC_, VC__law_three_1]
      · simp only [MC_, VE__law_three_1, k4, q3]
    generalize c1 :: r1 = A1 at *
    generalize c2 :: r2 = A2 at *
    generalize c3 :: r3 = A3 at *
    unfold F__law_three
    simp only [MC_, getP_G, frz_G, inL_G, isL_G, hc, h1, hr, hlc]
  · obtain ⟨S, hS⟩ : ∃ S, S = cell ns 0 / 2 := ⟨_, rfl⟩
    have d3 : divOk S 3 := divOk3 _
    have d9 : divOk S 9 := divOk_s _ _ ⟨by decide, by decide⟩
    have f9 := fdp S (k := 9) (by omega)
    have d33 : divOk (S / 3) 3 := divOk3 _
    have d93 : divOk (S / 9) 3 := divOk3 _
    obtain ⟨m1, hm1⟩ : ∃ m : Nat, S % 3 = (m : Int) := ⟨(S % 3).toNat, by omega⟩
    obtain ⟨m2, hm2⟩ : ∃ m : Nat, S / 3 % 3 = (m : Int) := ⟨(S / 3 % 3).toNat, by omega⟩
    obtain ⟨m3, hm3⟩ : ∃ m : Nat, S / 9 % 3 = (m : Int) := ⟨(S / 9 % 3).toNat, by omega⟩
    obtain ⟨xs, x1, x2⟩ := r_cells (n + 1) m1 ns 2 (by decide) (by omega)
    obtain ⟨ys, y1, y2⟩ := r_cells (n + 1) m2 ns 9 (by decide) (by omega)
    obtain ⟨zs, z1, z2⟩ := r_cells (n + 1) m3 ns 16 (by decide) (by omega)
    obtain ⟨c1, r1, s1, q1, j1⟩ := r_curve_by n m1 xs (by omega) (by omega)
    obtain ⟨c2, r2, s2, q2, j2⟩ := r_curve_by n m2 ys (by omega) (by omega)
    obtain ⟨c3, r3, s3, q3, j3⟩ := r_curve_by n m3 zs (by omega) (by omega)
    refine ⟨c1, r1, s1, c2, r2, s2, c3, r3, s3, ?_, j1.mono (by omega), j2.mono (by omega), j3.mono (by omega)⟩
    generalize c1 :: r1 = A1 at *
    generalize c2 :: r2 = A2 at *
    generalize c3 :: r3 = A3 at *
    unfold F__law_three
    simp only [MC_, getP_G, frz_G, inL_G, isL_G, ls_G, hc, d2, fdiv2, h1, ← hS, d3, fdiv3, d9, f9, d33, d93, hm1, hm2, hm3, x1, y1, z1, q1, q2, q3, any_int]

end Q
namespace Q
open PySem MP FP
/-- off the places of a row it bends one way only (sg 1: down, as a least; -1: up, as a most) -/
def Bd (sg : Rat) (Θ : List Rat) (F : Rat → Rat) : Prop := ∀ t, 0 < t → t ∉ Θ → ∃ e, 0 < e ∧ ∀ x, 0 < x → x ≤ e → x ≤ t → sg * (F (t - x) + F (t + x) - 2 * F t) ≤ 0
theorem Bd.mono {sg : Rat} {Θ Θ' : List Rat} {F : Rat → Rat} (h : Bd sg Θ F) (hs : ∀ t ∈ Θ, t ∈ Θ') : Bd sg Θ' F := fun t t0 ht => h t t0 (fun z => ht (hs t z))
theorem Bd.cg {sg : Rat} {Θ : List Rat} {F G : Rat → Rat} (h : Bd sg Θ F) (e : ∀ t, 0 ≤ t → F t = G t) : Bd sg Θ G := fun t t0 ht => by
  obtain ⟨d, d0, hd⟩ := h t t0 ht
  refine ⟨d, d0, fun x x0 xd xt => ?_⟩
  rw [← e (t - x) (by grind), ← e (t + x) (by grind), ← e t (by grind)]
  exact hd x x0 xd xt
theorem Bd.lo {Θ : List Rat} {F G : Rat → Rat} (h : Bd 1 Θ F) (k : Bd 1 Θ G) : Bd 1 Θ (fun t => ch false (F t) (G t)) := fun t t0 ht => by
  have lo : ∀ p q : Rat, (ch false p q = p ∨ ch false p q = q) ∧ ch false p q ≤ p ∧ ch false p q ≤ q := fun p q => by
    unfold ch
    by_cases h : q < p <;> simp [h] <;> grind
  rcases (lo (F t) (G t)).1 with z | z
  · obtain ⟨d, d0, hd⟩ := h t t0 ht
    refine ⟨d, d0, fun x x0 xd xt => ?_⟩
    have := hd x x0 xd xt
    have a := (lo (F (t - x)) (G (t - x))).2.1
    have b := (lo (F (t + x)) (G (t + x))).2.1
    show 1 * (ch false (F (t - x)) (G (t - x)) + ch false (F (t + x)) (G (t + x)) - 2 * ch false (F t) (G t)) ≤ 0
    rw [z]
    grind
  · obtain ⟨d, d0, hd⟩ := k t t0 ht
    refine ⟨d, d0, fun x x0 xd xt => ?_⟩
    have := hd x x0 xd xt
    have a := (lo (F (t - x)) (G (t - x))).2.2
    have b := (lo (F (t + x)) (G (t + x))).2.2
    show 1 * (ch false (F (t - x)) (G (t - x)) + ch false (F (t + x)) (G (t + x)) - 2 * ch false (F t) (G t)) ≤ 0
    rw [z]
    grind
theorem Bd.hi {Θ : List Rat} {F G : Rat → Rat} (h : Bd (-1) Θ F) (k : Bd (-1) Θ G) : Bd (-1) Θ (fun t => ch true (F t) (G t)) := fun t t0 ht => by
  have hi : ∀ p q : Rat, (ch true p q = p ∨ ch true p q = q) ∧ p ≤ ch true p q ∧ q ≤ ch true p q := fun p q => by
    unfold ch
    by_cases h : p < q <;> simp [h] <;> grind
  rcases (hi (F t) (G t)).1 with z | z
  · obtain ⟨d, d0, hd⟩ := h t t0 ht
    refine ⟨d, d0, fun x x0 xd xt => ?_⟩
    have := hd x x0 xd xt
    have a := (hi (F (t - x)) (G (t - x))).2.1
    have b := (hi (F (t + x)) (G (t + x))).2.1
    show -1 * (ch true (F (t - x)) (G (t - x)) + ch true (F (t + x)) (G (t + x)) - 2 * ch true (F t) (G t)) ≤ 0
    rw [z]
    grind
  · obtain ⟨d, d0, hd⟩ := k t t0 ht
    refine ⟨d, d0, fun x x0 xd xt => ?_⟩
    have := hd x x0 xd xt
    have a := (hi (F (t - x)) (G (t - x))).2.2
    have b := (hi (F (t + x)) (G (t + x))).2.2
    show -1 * (ch true (F (t - x)) (G (t - x)) + ch true (F (t + x)) (G (t + x)) - 2 * ch true (F t) (G t)) ≤ 0
    rw [z]
    grind
theorem min3 {a b c : Rat} (ha : 0 < a) (hb : 0 < b) (hc : 0 < c) : ∃ x, 0 < x ∧ x < a ∧ x < b ∧ x < c := by
  obtain ⟨m, m0, h1, h2, h3⟩ : ∃ m, 0 < m ∧ m ≤ a ∧ m ≤ b ∧ m ≤ c := by
    by_cases h : a ≤ b
    · by_cases k : a ≤ c
      · exact ⟨a, ha, Rat.le_refl, h, k⟩
      · exact ⟨c, hc, by grind, by grind, Rat.le_refl⟩
    · by_cases k : b ≤ c
      · exact ⟨b, hb, by grind, Rat.le_refl, k⟩
      · exact ⟨c, hc, by grind, by grind, Rat.le_refl⟩
  exact ⟨m / 2, by grind, by grind, by grind, by grind⟩
theorem filt_lt {α : Type} {p q : α → Bool} (h : ∀ x, p x = true → q x = true) : ∀ (S : List α) (a : α), a ∈ S → q a = true → p a = false → (S.filter p).length + 1 ≤ (S.filter q).length
  | [], a, ha, _, _ => absurd ha List.not_mem_nil
  | b :: S, a, ha, hq, hp => by
    have le : ∀ S : List α, (S.filter p).length ≤ (S.filter q).length := fun S => by
      induction S with
      | nil => exact Nat.le_refl _
      | cons b S ih =>
        rw [List.filter_cons, List.filter_cons]
        by_cases z : p b = true
        · rw [if_pos z, if_pos (h b z)]; simp; omega
        · rw [if_neg z]
          split
          · rw [List.length_cons]; omega
          · exact ih
    rw [List.filter_cons, List.filter_cons]
    rcases List.mem_cons.mp ha with e | ha
    · subst e
      rw [if_neg (by rw [hp]; decide), if_pos hq]
      have := le S
      simp
      omega
    · have := filt_lt h S a ha hq hp
      by_cases z : p b = true
      · rw [if_pos z, if_pos (h b z)]; simp; omega
      · rw [if_neg z]
        split
        · rw [List.length_cons]; omega
        · exact this
/-- how many slopes are still to come -/
def rk (sg : Rat) (S : List Rat) (m : Rat) : Nat := (S.filter (fun k => decide (sg * k < sg * m))).length
theorem rk_le {sg : Rat} {S : List Rat} {m : Rat} : rk sg S m ≤ S.length := List.length_filter_le _ _
theorem rk_lt {sg : Rat} {S : List Rat} {m b : Rat} (hb : b ∈ S) (h : sg * b < sg * m) : rk sg S b + 1 ≤ rk sg S m := filt_lt (fun x hx => by
  have hx : decide (sg * x < sg * b) = true := hx
  have := of_decide_eq_true hx
  exact decide_eq_true (by grind)) S b hb (decide_eq_true h) (decide_eq_false (by grind))
theorem nodup_len : ∀ (l Θ : List Rat), l.Nodup → (∀ x ∈ l, x ∈ Θ) → l.length ≤ Θ.length
  | [], Θ, _, _ => Nat.zero_le _
  | a :: l, Θ, nd, h => by
    have ha := h a List.mem_cons_self
    have nd' := List.nodup_cons.mp nd
    have := nodup_len l (Θ.erase a) nd'.2 (fun x hx => by
      refine (List.mem_erase_of_ne (fun z => nd'.1 (by rw [← z]; exact hx))).mpr (h x (List.mem_cons_of_mem _ hx)))
    rw [List.length_erase_of_mem ha] at this
    have : 0 < Θ.length := List.length_pos_of_mem ha
    simp
    omega
theorem ups_nodup : ∀ (c : Cn) (r : List Cn), Ups c r → (r.map (·.1)).Nodup ∧ ∀ d ∈ r, c.1 < d.1
  | c, [], _ => ⟨List.nodup_nil, fun d hd => absurd hd List.not_mem_nil⟩
  | c, d :: r, u => by
    obtain ⟨h1, h2⟩ := ups_nodup d r u.2
    refine ⟨List.nodup_cons.mpr ⟨fun z => ?_, h1⟩, fun x hx => ?_⟩
    · obtain ⟨y, hy, e⟩ := List.mem_map.mp z
      have := h2 y hy
      grind
    · rcases List.mem_cons.mp hx with e | hx
      · rw [e]; exact u.1
      · have := h2 x hx
        have := u.1
        grind
/-- so it has few corners -/
theorem cnt_loop {sg : Rat} (hsg : sg = 1 ∨ sg = -1) {Θ S : List Rat} {F : Rat → Rat} (bd : Bd sg Θ F) {s : Rat} : ∀ (r : List Cn) (p : Cn), Ups p r → NF s p r → 0 ≤ p.1 → (∀ t, p.1 ≤ t → F t = val s t p r) → (∀ m ∈ gaps p r ++ [s], m ∈ S) → r.length ≤ (r.filter (fun d => decide (d.1 ∈ Θ))).length * (S.length + 1) + rk sg S (behind p r s)
  | [], p, _, _, _, _, _ => Nat.zero_le _
  | d :: r, p, u, nf, p0, hF, hS => by
    have hd1 := u.1
    have hS' : ∀ m ∈ gaps d r ++ [s], m ∈ S := fun m hm => hS m (by
      show m ∈ (slope p d :: gaps d r) ++ [s]
      exact List.mem_cons_of_mem _ hm)
    have ih := cnt_loop hsg bd r d u.2 nf.2 (by grind) (fun t ht => by
      rw [hF t (by grind)]
      show (if t < d.1 then _ else val s t d r) = _
      rw [if_neg (by grind)]) hS'
    have hb : behind p (d :: r) s = slope p d := rfl
    rw [hb, List.filter_cons, List.length_cons]
    by_cases ht : d.1 ∈ Θ
    · rw [if_pos (by simp [ht]), List.length_cons, Nat.succ_mul]
      have := rk_le (sg := sg) (S := S) (m := behind d r s)
      omega
    · rw [if_neg (by simp [ht])]
      have hbS : behind d r s ∈ S := hS' _ (by
        obtain ⟨S', e, _⟩ := gaps_hd d r s
        rw [e]
        exact List.mem_cons_self)
      obtain ⟨e, e0, he⟩ := bd d.1 (by grind) ht
      obtain ⟨g, g0, hg⟩ : ∃ g, 0 < g ∧ ∀ x, 0 ≤ x → x < g → val s (d.1 + x) d r = d.2 + behind d r s * x := by
        cases r with
        | nil => exact ⟨1, by decide, fun x _ _ => by show d.2 + s * (d.1 + x - d.1) = d.2 + s * x; grind⟩
        | cons f r =>
          refine ⟨f.1 - d.1, by have := u.2.1; grind, fun x x0 hx => ?_⟩
          show (if d.1 + x < f.1 then d.2 + slope d f * (d.1 + x - d.1) else _) = d.2 + slope d f * x
          rw [if_pos (by grind)]
          grind
      obtain ⟨x, x0, h1, h2, h3⟩ := min3 e0 g0 (show 0 < d.1 - p.1 by grind)
      have hh := he x x0 (by grind) (by grind)
      have v1 : F (d.1 - x) = d.2 - slope p d * x := by
        rw [hF _ (by grind)]
        show (if d.1 - x < d.1 then p.2 + slope p d * (d.1 - x - p.1) else _) = _
        rw [if_pos (by grind)]
        have := slope_mul u.1
        grind
      have v2 : F (d.1 + x) = d.2 + behind d r s * x := by
        rw [hF _ (by grind)]
        show (if d.1 + x < d.1 then _ else val s (d.1 + x) d r) = _
        rw [if_neg (by grind)]
        exact hg x (by grind) h2
      have v3 : F d.1 = d.2 := by
        rw [hF _ (by grind)]
        show (if d.1 < d.1 then _ else val s d.1 d r) = _
        rw [if_neg (by grind), val_start s d r u.2]
      rw [v1, v2, v3] at hh
      have hne : slope p d ≠ behind d r s := nf.1
      have lt : sg * behind d r s < sg * slope p d := by
        have hx : sg * (behind d r s - slope p d) * x ≤ 0 := by grind
        by_cases z : 0 < sg * (behind d r s - slope p d)
        · have := Rat.mul_pos z x0
          grind
        · rcases hsg with e | e <;> rw [e] at z ⊢ <;> grind
      have := rk_lt hbS lt
      omega
theorem cnt_of {sg : Rat} (hsg : sg = 1 ∨ sg = -1) {Θ S : List Rat} {P : Rat → Rat → Prop} (hS : ∀ m q, P m q → m ∈ S) {N : Nat} {F : Rat → Rat} {s : Rat} {X : Dv} (h : CrvP P N F s X) (bd : Bd sg Θ F) : CrvP P (Θ.length * (S.length + 1) + S.length) F s X := by
  obtain ⟨c, r, e, cv, ln, hl, vl⟩ := h
  have hm : ∀ {c : Cn} {r : List Cn}, Lns P s c r → ∀ m ∈ gaps c r ++ [s], m ∈ S := fun {c r} => by
    induction r generalizing c with
    | nil =>
      intro h m hm
      rw [List.mem_singleton.mp hm]
      exact hS _ _ h
    | cons d r ih =>
      intro h m hm
      rcases List.mem_cons.mp hm with e | hm
      · rw [e]; exact hS _ _ h.1
      · exact ih h.2 m hm
  have k := cnt_loop hsg bd r c cv.up cv.nf (by rw [cv.c0]; exact Rat.le_refl) (fun t ht => (vl t (by rw [cv.c0] at ht; exact ht)).symm) (hm ln)
  have nd := nodup_len ((r.filter (fun d => decide (d.1 ∈ Θ))).map (·.1)) Θ ((ups_nodup c r cv.up).1.sublist ((List.filter_sublist).map _)) (fun x hx => by
    obtain ⟨y, hy, rfl⟩ := List.mem_map.mp hx
    simpa using (List.mem_filter.mp hy).2)
  rw [List.length_map] at nd
  have rl := rk_le (sg := sg) (S := S) (m := behind c r s)
  have := Nat.mul_le_mul_right (S.length + 1) nd
  exact ⟨c, r, e, cv, ln, by omega, vl⟩
/-- a curve is straight off its corners -/
theorem straight {c : Cn} {r : List Cn} {s : Rat} (u : Ups c r) (c0 : c.1 = 0) {t : Rat} (t0 : 0 < t) (h : ∀ x ∈ c :: r, x.1 ≠ t) : ∃ e, 0 < e ∧ ∀ x, 0 < x → x ≤ e → x ≤ t → val s (t - x) c r + val s (t + x) c r - 2 * val s t c r = 0 := by
  obtain ⟨p, hp, m, pt, k⟩ := piece_of s t c r u (by grind)
  have pl : p.1 < t := by have := h p hp; grind
  rcases k with ⟨d, hd, td, k⟩ | k
  · obtain ⟨x, x0, h1, h2, _⟩ := min3 (show 0 < t - p.1 by grind) (show 0 < d.1 - t by grind) (show (0 : Rat) < 1 by decide)
    refine ⟨x, x0, fun y y0 yx _ => ?_⟩
    have a := k (t - y) (by grind) (by grind)
    have b := k (t + y) (by grind) (by grind)
    grind
  · refine ⟨t - p.1, by grind, fun y y0 yx _ => ?_⟩
    have a := k (t - y) (by grind)
    have b := k (t + y) (by grind)
    grind
/-- the places of joined curves -/
def sums (c : Cn) (r : List Cn) (c' : Cn) (r' : List Cn) : List Rat := (c :: r).flatMap fun x => (c' :: r').map fun y => x.1 + y.1
theorem sums_len (c : Cn) (r : List Cn) (c' : Cn) (r' : List Cn) : (sums c r c' r').length = (r.length + 1) * (r'.length + 1) := by
  unfold sums
  rw [List.length_flatMap]
  have : ∀ l : List Cn, (l.map fun x => ((c' :: r').map fun y => x.1 + y.1).length).sum = l.length * (r'.length + 1) := fun l => by
    induction l with
    | nil => simp
    | cons x l ih =>
      rw [List.map_cons, List.sum_cons, ih, List.length_map, List.length_cons, List.length_cons, Nat.add_mul, Nat.one_mul]
      omega
  exact this (c :: r)
theorem sums_mem {c : Cn} {r : List Cn} {c' : Cn} {r' : List Cn} {x y : Cn} (hx : x ∈ c :: r) (hy : y ∈ c' :: r') : x.1 + y.1 ∈ sums c r c' r' := List.mem_flatMap.mpr ⟨x, hx, List.mem_map.mpr ⟨y, hy, rfl⟩⟩
theorem sums_l {c : Cn} {r : List Cn} {c' : Cn} {r' : List Cn} (c0' : c'.1 = 0) {x : Cn} (hx : x ∈ c :: r) : x.1 ∈ sums c r c' r' := by
  have := sums_mem (c' := c') (r' := r') hx (y := c') List.mem_cons_self
  rw [c0', show x.1 + 0 = x.1 by grind] at this
  exact this
theorem sums_r {c : Cn} {r : List Cn} {c' : Cn} {r' : List Cn} (c0 : c.1 = 0) {y : Cn} (hy : y ∈ c' :: r') : y.1 ∈ sums c r c' r' := by
  have := sums_mem (c := c) (r := r) (x := c) List.mem_cons_self hy
  rw [c0, show 0 + y.1 = y.1 by grind] at this
  exact this
theorem bd_own {sg : Rat} {c : Cn} {r : List Cn} {s : Rat} (u : Ups c r) (c0 : c.1 = 0) {Θ : List Rat} (h : ∀ x ∈ c :: r, x.1 ∈ Θ) : Bd sg Θ (fun t => val s t c r) := fun t t0 ht => by
  obtain ⟨e, e0, k⟩ := straight u c0 t0 (s := s) (fun x hx z => ht (by rw [← z]; exact h x hx))
  refine ⟨e, e0, fun x x0 xe xt => ?_⟩
  have := k x x0 xe xt
  show sg * (val s (t - x) c r + val s (t + x) c r - 2 * val s t c r) ≤ 0
  rw [this]
  grind
theorem bd_row {sg : Rat} {c : Cn} {r : List Cn} {s : Rat} {c' : Cn} {r' : List Cn} {s' : Rat} (u : Ups c r) (c0 : c.1 = 0) (u' : Ups c' r') (c0' : c'.1 = 0) {x : Cn} (hx : x ∈ c :: r) {Θ : List Rat} (h1 : ∀ x ∈ c :: r, x.1 ∈ Θ) (h2 : ∀ y ∈ c' :: r', x.1 + y.1 ∈ Θ) : Bd sg Θ (rowJ (fun t => val s t c r) (fun t => val s' t c' r') x.1) := fun t t0 ht => by
  have hne : x.1 ≠ t := fun z => ht (by rw [← z]; exact h1 x hx)
  by_cases z : t < x.1
  · obtain ⟨e, e0, k⟩ := straight u c0 t0 (s := s) (fun y hy z => ht (by rw [← z]; exact h1 y hy))
    obtain ⟨d, d0, q1, q2, _⟩ := min3 e0 (show 0 < x.1 - t by grind) (show (0 : Rat) < 1 by decide)
    refine ⟨d, d0, fun y y0 yd yt => ?_⟩
    have := k y y0 (by grind) yt
    unfold rowJ
    rw [if_neg (by grind), if_neg (by grind), if_neg (by grind)]
    show sg * (val s (t - y) c r + val s' 0 c' r' + (val s (t + y) c r + val s' 0 c' r') - 2 * (val s t c r + val s' 0 c' r')) ≤ 0
    rw [show val s (t - y) c r + val s' 0 c' r' + (val s (t + y) c r + val s' 0 c' r') - 2 * (val s t c r + val s' 0 c' r') = 0 by grind]
    grind
  · have z : x.1 < t := by grind
    obtain ⟨e, e0, k⟩ := straight u' c0' (t := t - x.1) (by grind) (s := s') (fun y hy z => ht (by rw [show t = x.1 + y.1 by grind]; exact h2 y hy))
    obtain ⟨d, d0, q1, q2, _⟩ := min3 e0 (show 0 < t - x.1 by grind) (show (0 : Rat) < 1 by decide)
    refine ⟨d, d0, fun y y0 yd yt => ?_⟩
    have := k y y0 (by grind) (by grind)
    rw [show t - x.1 - y = t - y - x.1 by grind, show t - x.1 + y = t + y - x.1 by grind] at this
    unfold rowJ
    rw [if_pos (by grind), if_pos (by grind), if_pos (by grind)]
    show sg * (val s x.1 c r + val s' (t - y - x.1) c' r' + (val s x.1 c r + val s' (t + y - x.1) c' r') - 2 * (val s x.1 c r + val s' (t - x.1) c' r')) ≤ 0
    rw [show val s x.1 c r + val s' (t - y - x.1) c' r' + (val s x.1 c r + val s' (t + y - x.1) c' r') - 2 * (val s x.1 c r + val s' (t - x.1) c' r') = 0 by grind]
    grind

end Q
namespace Q
open PySem MP FP
/-- a row of curves taken two by two, whatever is chosen: what holds of all of them stays -/
structure GRel (RR : List Itm → List Itm → Prop) : Prop where
  rfl' : ∀ xs, RR xs xs
  trans : ∀ xs ys zs, RR xs ys → RR ys zs → RR xs zs
  app : ∀ xs ys xs' ys', RR xs ys → RR xs' ys' → RR (xs ++ xs') (ys ++ ys')
theorem gg_loop (n : Nat) (nm : Str) {RR : List Itm → List Itm → Prop} (rr : GRel RR) (Good : Itm → Prop) (st : ∀ x y, Good x → Good y → ∃ z : Itm, runTP T (n + 10) nm [dJ x, dJ y] = .ok (dJ z) ∧ Good z ∧ RR [x, y] [z]) (items : List Itm) : ∀ (m : Nat) (rest pre acc : List Itm) (r3 : Option Dv), rest.length / 2 = m → items = pre ++ rest → acc.length + rest.length ≤ 900000 → (∀ x ∈ rest, Good x) → ∃ ys r3', foP (runTP T (n + 10)) 3 B_gathered_1 (stepsP ((pre.length : Nat) : Int) 2 m) [some (.lst (items.map dJ)), some (.fn nm), some (.own (acc.map dJ)), r3] = .nx [some (.lst (items.map dJ)), some (.fn nm), some (.own ((acc ++ ys).map dJ)), r3'] ∧ (∀ y ∈ ys, Good y) ∧ ys.length = m ∧ RR (rest.take (2 * m)) ys
  | 0, rest, pre, acc, r3, hm, hi, hl, hok => ⟨[], r3, by rw [List.append_nil]; rfl, fun y hy => absurd hy List.not_mem_nil, rfl, by rw [Nat.mul_zero, List.take_zero]; exact rr.rfl' []⟩
  | m + 1, [], pre, acc, r3, hm, hi, hl, hok => by simp at hm
  | m + 1, [x], pre, acc, r3, hm, hi, hl, hok => by simp at hm
  | m + 1, x :: y :: rest, pre, acc, r3, hm, hi, hl, hok => by
    obtain ⟨z, z1, z2, z3⟩ := st x y (hok x List.mem_cons_self) (hok y (List.mem_cons_of_mem _ List.mem_cons_self))
    obtain ⟨ys, r3', h1, h2, h3, h4⟩ := gg_loop n nm rr Good st items m rest (pre ++ [x, y]) (acc ++ [z]) (some (.int ((pre.length : Nat) : Int))) (by simp at hm; omega) (by rw [hi]; simp) (by simp at hl ⊢; omega) (fun w hw => hok w (List.mem_cons_of_mem _ (List.mem_cons_of_mem _ hw)))
    refine ⟨z :: ys, r3', ?_, fun w hw => ?_, by rw [List.length_cons, h3], ?_⟩
    · have i1 : L2.atI (items.map dJ) ((pre.length : Nat) : Int) = some (dJ x) := by
        rw [hi, List.map_append, List.map_cons]
        exact FP.at_app (by simp)
      have i2 : L2.atI (items.map dJ) (((pre.length : Nat) : Int) + 1) = some (dJ y) := by
        rw [hi, show pre ++ x :: y :: rest = (pre ++ [x]) ++ y :: rest by simp, List.map_append, List.map_cons]
        exact FP.at_app (by simp)
      have hal : acc.length < LIM := by unfold LIM; simp at hl; omega
      have ep : (((pre ++ [x, y]).length : Nat) : Int) = ((pre.length : Nat) : Int) + 2 := by simp
      rw [ep, List.append_assoc] at h1
      rw [show acc ++ z :: ys = acc ++ ([z] ++ ys) from rfl, ← h1, List.map_append]
      rw [dJ_F, dJ_F, dJ_F] at z1
      rw [dJ_F] at i1 i2
      simp only [MC_, stepsP, fo_cons, VB_gathered_1, i1, i2, z1, List.length_map, hal, List.map_cons, List.map_nil, dJ_F]
    · rcases List.mem_cons.mp hw with e | hw
      · rw [e]; exact z2
      · exact h2 w hw
    · have := rr.app _ _ _ _ z3 h4
      rw [show 2 * (m + 1) = 2 * m + 1 + 1 by omega, List.take_succ_cons, List.take_succ_cons]
      exact this
theorem gh_loop (n : Nat) (nm : Str) {RR : List Itm → List Itm → Prop} (rr : GRel RR) (Good : Itm → Prop) (st : ∀ x y, Good x → Good y → ∃ z : Itm, runTP T (n + 10) nm [dJ x, dJ y] = .ok (dJ z) ∧ Good z ∧ RR [x, y] [z]) : ∀ (j : Nat) (items : List Itm) (e2 e3 : Option Dv), items ≠ [] → items.length ≤ 2 ^ j → items.length ≤ 90000 → (∀ x ∈ items, Good x) → ∃ z e2' e3', whP (runTP T (n + 10)) C_gathered_2 B_gathered_2 [some (.lst (items.map dJ)), some (.fn nm), e2, e3] = .nx [some (.lst [dJ z]), some (.fn nm), e2', e3'] ∧ Good z ∧ RR items [z]
  | j, [], e2, e3, hne, h1, hL, hok => absurd rfl hne
  | j, [z], e2, e3, hne, h1, hL, hok => by
    have hz1 : ¬ (([z] : List Itm).length : Int) > 1 := by simp
    have hw : ∀ zs : List Itm, ¬ (zs.length : Int) > 1 → whP (runTP T (n + 10)) C_gathered_2 B_gathered_2 [some (.lst (zs.map dJ)), some (.fn nm), e2, e3] = .nx [some (.lst (zs.map dJ)), some (.fn nm), e2, e3] := fun zs hzs => wh_end (by simp only [MC_, VC_gathered_2, List.length_map, hzs])
    exact ⟨z, e2, e3, hw [z] hz1, hok z List.mem_cons_self, rr.rfl' _⟩
  | 0, x :: y :: rest, e2, e3, hne, h1, hL, hok => by simp at h1
  | j + 1, x :: y :: rest, e2, e3, hne, h1, hL, hok => by
    obtain ⟨items, hi⟩ : ∃ items, items = x :: y :: rest := ⟨_, rfl⟩
    have hl2 : 2 ≤ items.length := by rw [hi]; simp
    rw [← hi] at h1 hok hL ⊢
    obtain ⟨ys, r3, k1, k2, k3, k4⟩ := gg_loop n nm rr Good st items (items.length / 2) items [] [] e3 rfl rfl (by simp; omega) hok
    have hr := rngE items.length (by omega)
    have hgt : (items.length : Int) > 1 := by omega
    have hpow : 2 ^ (j + 1) = 2 * 2 ^ j := by rw [Nat.pow_succ]; omega
    have key : ∀ ws : List Itm, ws.length = (items.length + 1) / 2 → (∀ w ∈ ws, Good w) → RR items ws → ∀ r3', runP (runTP T (n + 10)) B_gathered_2 [some (.lst (items.map dJ)), some (.fn nm), e2, e3] = .nx [some (.lst (ws.map dJ)), some (.fn nm), some (.lst (ws.map dJ)), r3'] → ∃ z e2' e3', whP (runTP T (n + 10)) C_gathered_2 B_gathered_2 [some (.lst (items.map dJ)), some (.fn nm), e2, e3] = .nx [some (.lst [dJ z]), some (.fn nm), e2', e3'] ∧ Good z ∧ RR items [z] := fun ws w1 w2 w3 r3' hb => by
      obtain ⟨z, e2', e3', i1, i2, i3⟩ := gh_loop n nm rr Good st j ws (some (.lst (ws.map dJ))) r3' (fun h => by rw [h] at w1; simp at w1; omega) (by omega) (by omega) w2
      refine ⟨z, e2', e3', ?_, i2, rr.trans _ _ _ w3 i3⟩
      exact wh_go (by simp only [MC_, VC_gathered_2, List.length_map, hgt]) hb i1 (fun z => by cases z)
    rw [List.map_nil, List.nil_append] at k1
    have k1' : foP (runTP T (n + 10)) 3 B_gathered_1 (stepsP 0 2 (items.length / 2)) _ = _ := k1
    have hyl : ys.length < LIM := by unfold LIM; omega
    by_cases odd : items.length % 2 = 1
    · obtain ⟨pre, l, hpl⟩ : ∃ pre l, items = pre ++ [l] := ⟨items.dropLast, items.getLast (by rw [hi]; simp), (List.dropLast_concat_getLast _).symm⟩
      have il : L2.atI (items.map dJ) (-1) = some (dJ l) := by
        rw [hpl, List.map_append]
        exact at_m1
      have odd' : (items.length : Int) % 2 = 1 := by omega
      refine key (ys ++ [l]) (by simp; omega) (fun w hw => ?_) ?_ r3 ?_
      · rcases List.mem_append.mp hw with hw | hw
        · exact k2 w hw
        · rw [List.mem_singleton.mp hw]
          exact hok l (by rw [hpl]; simp)
      · have e : items.take (2 * (items.length / 2)) = pre := by
          have : 2 * (items.length / 2) = pre.length := by
            have := congrArg List.length hpl
            simp at this
            omega
          rw [this, hpl, List.take_left']
          rfl
        rw [e] at k4
        have := rr.app _ _ _ _ k4 (rr.rfl' [l])
        rw [← hpl] at this
        exact this
      · rw [dJ_F] at il
        simp only [MC_, VB_gathered_2, List.length_map, hr, any_steps, k1', any_J, odd', il, hyl, List.map_append, List.map_cons, List.map_nil, dJ_F]
    · have odd' : ¬ (items.length : Int) % 2 = 1 := by omega
      refine key ys (by omega) k2 ?_ r3 ?_
      · rw [List.take_of_length_le (by omega)] at k4
        exact k4
      · simp only [MC_, VB_gathered_2, List.length_map, hr, any_steps, k1', any_J, odd']
theorem r_gatherg (n : Nat) (nm : Str) {RR : List Itm → List Itm → Prop} (rr : GRel RR) (Good : Itm → Prop) (st : ∀ x y, Good x → Good y → ∃ z : Itm, runTP T (n + 10) nm [dJ x, dJ y] = .ok (dJ z) ∧ Good z ∧ RR [x, y] [z]) (items : List Itm) (hne : items ≠ []) (hL : items.length ≤ 90000) (hok : ∀ x ∈ items, Good x) : ∃ z : Itm, runTP T (n + 11) "gathered" [.lst (items.map dJ), .fn nm] = .ok (dJ z) ∧ Good z ∧ RR items [z] := by
  rw [runTP_succ T_gathered]
  have lt : ∀ m : Nat, m ≤ 2 ^ m := fun m => Nat.le_of_lt Nat.lt_two_pow_self
  obtain ⟨z, e2, e3, h, hz, hr⟩ := gh_loop n nm rr Good st items.length items none none hne (lt _) hL hok
  refine ⟨z, ?_, hz, hr⟩
  unfold F_gathered
  rw [dJ_F] at h ⊢
  simp only [MC_, h]

end Q
namespace Q
open PySem MP FP
def Itm.okP (R : Rat → Rat → Prop) (N : Nat) (i : Itm) : Prop := CrvP R N i.f i.s (dJ i)
/-- lines that may be joined, by the corners -/
structure JPx (P R : Rat → Rat → Prop) (bt bv bm : Nat) (C : Cn → Prop) : Prop where
  p0 : ∀ m q, P m q → R m q
  p2 : ∀ x, C x → ∀ m q, P m q → R m (x.2 + q - m * x.1)
  r0 : ∀ m q, R m q → LB 400 m q
  n1 : bt + bt + 1 ≤ 3300
  n2 : bv + 2 * bv + 2 ≤ 3300
  n3 : bt + bt + 1 + bm ≤ 6700
theorem r_rowx (n : Nat) {P R : Rat → Rat → Prop} {bt bv bm : Nat} {C : Cn → Prop} (hP : JPx P R bt bv bm C) {c : Cn} {r : List Cn} {s : Rat} {c' : Cn} {r' : List Cn} {s' : Rat} (h : Jn P bt bv bm c r s) (k : Jn P bt bv bm c' r' s') (hC : ∀ x ∈ c :: r, C x) (hC' : ∀ x ∈ c' :: r', C x) (hl : r.length + r'.length ≤ 30000) (x : Cn) (hx : x ∈ c :: r) : ∃ (A : Dv) (i : Itm), runTP T (n + 8) "spliced" [dF (c :: r) s, dR x.1, dF (c' :: r') s'] = .ok A ∧ getP (some (some A)) = .ok A ∧ frz A = A ∧ runTP T (n + 8) "raised" [A, dR c'.2] = .ok (dJ i) ∧ i.okP R (r.length + r'.length + 1) ∧ i.s = s' ∧ i.f = rowJ (fun t => val s t c r) (fun t => val s' t c' r') x.1 := by
  have bx := h.fz.t x hx
  have vx := val_at s c r x h.up hx
  have bv' := h.fz.v x hx
  have x0 := ups_ge h.up hx
  rw [h.c0] at x0
  have hz' : ∀ y ∈ c' :: r', Rb y.1 bt ∧ Rb y.2 bv := fun y hy => ⟨k.fz.t y hy, k.fz.v y hy⟩
  obtain ⟨hd, tl, e1, e2, e3, e4, e5, e6⟩ := spl_ex (s' := s') h.c0 x0 h.up h.nd h.v0 h.s0 k.c0 k.up k.nd
  have hs := r_splicedG n bt bv bm bt bv c c' r r' s s' x.1 hd tl h.fz hz' bx (by rw [vx]; exact bv') hP.n1 hP.n2 hP.n3 x0 h.c0 h.up (by omega) e1 e2
  have hR := spl_RbG (s := s) (fun y hy => ⟨h.fz.t y hy, h.fz.v y hy⟩) hz' bx (show Rb (val s x.1 c r) bv by rw [vx]; exact bv')
  have hln := spl_len (s := s) (a := x.1) (c := c) (r := r) (c' := c') (r' := r')
  rw [e1] at hR hln
  have bc := (hz' c' List.mem_cons_self).2
  have ln : Lns (fun m q => R m (c'.2 + q)) s' hd tl := spl_lns (R := fun m q => R m (c'.2 + q)) h.up h.ln k.ln k.c0 (fun m q z => by
    have := hP.p2 c' (hC' c' List.mem_cons_self) m q z
    rw [k.c0, show c'.2 + q - m * 0 = c'.2 + q by grind] at this
    exact this) (fun m q z => by
    have := hP.p2 x (hC x hx) m q z
    show R m (c'.2 + (val s x.1 c r - c'.2 + q - m * x.1))
    rw [show c'.2 + (val s x.1 c r - c'.2 + q - m * x.1) = val s x.1 c r + q - m * x.1 by grind, vx]
    exact this) e1
  obtain ⟨cv, cval⟩ := Cv.raised (B := 400) e4 e2 e3 e5 k.v0 k.s0 ln (fun m q z => hP.r0 _ _ z)
  have lr : Lns R s' (0 + hd.1, c'.2 + hd.2) (sh 0 c'.2 (kl s' hd tl)) := sh_lns (P := fun m q => R m (c'.2 + q)) (fun m q z => by rw [show c'.2 + q - m * 0 = c'.2 + q by grind]; exact z) _ _ (kl_lns _ s' _ _ hd e2 (.inl rfl) ln)
  have hll := kl_len s' tl hd
  have n2 := hP.n2
  have hra := r_raised (n + 4) (hd :: kl s' hd tl) s' c'.2 (fun y hy => by
    have := (hR y (by
      rcases List.mem_cons.mp hy with e | hy
      · rw [e]; exact List.mem_cons_self
      · exact List.mem_cons_of_mem _ (kl_mem s' tl hd y hy))).2
    exact this.sz (by omega)) (bc.sz (by omega)) (by simp at hln ⊢; omega)
  refine ⟨_, ⟨(0 + hd.1, c'.2 + hd.2) :: sh 0 c'.2 (kl s' hd tl), s', rowJ (fun t => val s t c r) (fun t => val s' t c' r') x.1⟩, hs, rfl, rfl, hra, ⟨_, _, rfl, cv, lr, ?_, fun t t0 => ?_⟩, rfl, rfl⟩
  · unfold sh
    rw [List.length_map]
    simp at hln
    omega
  · rw [cval, e6 t (by grind)]
    have e0 := val_start s' c' r' k.up
    rw [k.c0] at e0
    unfold rowJ
    show _ = if x.1 < t then val s x.1 c r + val s' (t - x.1) c' r' else val s t c r + val s' 0 c' r'
    by_cases z : x.1 < t
    · rw [if_pos z, if_pos z]
      grind
    · rw [if_neg z, if_neg z, e0]
      grind
theorem otx_loop (n : Nat) {P R : Rat → Rat → Prop} {bt bv bm : Nat} {C : Cn → Prop} (hP : JPx P R bt bv bm C) {c : Cn} {r : List Cn} {s : Rat} {c' : Cn} {r' : List Cn} {s' : Rat} (h : Jn P bt bv bm c r s) (k : Jn P bt bv bm c' r' s') (hC : ∀ x ∈ c :: r, C x) (hC' : ∀ x ∈ c' :: r', C x) (hl : r.length + r'.length ≤ 30000) : ∀ (rest : List Cn) (acc : List Itm) (r3 : Option Dv), (∀ x ∈ rest, x ∈ c :: r) → acc.length + rest.length ≤ 900000 → ∃ ys r3', foP (runTP T (n + 8)) 3 B_one_then_other_1 (rest.map dC) [some (dF (c :: r) s), some (dF (c' :: r') s'), some (.own (acc.map dJ)), r3] = .nx [some (dF (c :: r) s), some (dF (c' :: r') s'), some (.own ((acc ++ ys).map dJ)), r3'] ∧ ys.length = rest.length ∧ (∀ y ∈ ys, y.okP R (r.length + r'.length + 1) ∧ y.s = s' ∧ ∃ x ∈ rest, y.f = rowJ (fun t => val s t c r) (fun t => val s' t c' r') x.1) ∧ ∀ x ∈ rest, ∃ y ∈ ys, y.f = rowJ (fun t => val s t c r) (fun t => val s' t c' r') x.1
  | [], acc, r3, _, _ => ⟨[], r3, by rw [List.append_nil]; rfl, rfl, fun y hy => absurd hy List.not_mem_nil, fun x hx => absurd hx List.not_mem_nil⟩
  | x :: rest, acc, r3, hm, ha => by
    obtain ⟨A, i, a1, a2, a3, a4, a5, a6, a7⟩ := r_rowx n hP h k hC hC' hl x (hm x List.mem_cons_self)
    obtain ⟨ys, r3', h1, h2, h3, h4⟩ := otx_loop n hP h k hC hC' hl rest (acc ++ [i]) (some (dC x)) (fun y hy => hm y (List.mem_cons_of_mem _ hy)) (by simp at ha ⊢; omega)
    refine ⟨i :: ys, r3', ?_, by simp [h2], fun y hy => ?_, fun y hy => ?_⟩
    · have i0 : L2.atI ((c' :: r').map dC) 0 = some (dC c') := i_at (pre := []) rfl rfl
      have hal : acc.length < LIM := by unfold LIM; simp at ha; omega
      rw [List.append_assoc] at h1
      rw [show acc ++ i :: ys = acc ++ ([i] ++ ys) from rfl, ← h1, List.map_append]
      rw [dJ_F] at a4
      generalize c :: r = cs at *
      generalize c' :: r' = cs' at *
      simp only [MC_, List.map_cons, List.map_nil, fo_cons, VB_one_then_other_1, a1, a2, a3, a4, i0, List.length_map, hal, dJ_F]
    · rcases List.mem_cons.mp hy with e | hy
      · rw [e]
        exact ⟨a5, a6, x, List.mem_cons_self, a7⟩
      · obtain ⟨b1, b2, z, hz, b3⟩ := h3 y hy
        exact ⟨b1, b2, z, List.mem_cons_of_mem _ hz, b3⟩
    · rcases List.mem_cons.mp hy with e | hy
      · rw [e]
        exact ⟨i, List.mem_cons_self, a7⟩
      · obtain ⟨z, hz, b⟩ := h4 y hy
        exact ⟨z, List.mem_cons_of_mem _ hz, b⟩
theorem r_one_then_otherx (n : Nat) {P R : Rat → Rat → Prop} {bt bv bm : Nat} {C : Cn → Prop} (hP : JPx P R bt bv bm C) {c : Cn} {r : List Cn} {s : Rat} {c' : Cn} {r' : List Cn} {s' : Rat} (h : Jn P bt bv bm c r s) (k : Jn P bt bv bm c' r' s') (hC : ∀ x ∈ c :: r, C x) (hC' : ∀ x ∈ c' :: r', C x) (hl : r.length + r'.length ≤ 30000) : ∃ ys : List Itm, runTP T (n + 9) "one_then_other" [dF (c :: r) s, dF (c' :: r') s'] = .ok (.own (ys.map dJ)) ∧ ys.length = r.length + 1 ∧ (∀ y ∈ ys, y.okP R (r.length + r'.length + 1) ∧ y.s = s' ∧ ∃ x ∈ c :: r, y.f = rowJ (fun t => val s t c r) (fun t => val s' t c' r') x.1) ∧ ∀ x ∈ c :: r, ∃ y ∈ ys, y.f = rowJ (fun t => val s t c r) (fun t => val s' t c' r') x.1 := by
  obtain ⟨ys, r3, h1, h2, h3, h4⟩ := otx_loop n hP h k hC hC' hl (c :: r) [] none (fun _ hx => hx) (by simp; omega)
  refine ⟨ys, ?_, by rw [h2, List.length_cons], h3, h4⟩
  rw [runTP_succ T_one_then_other]
  rw [List.map_nil, List.nil_append] at h1
  generalize c :: r = cs at *
  unfold F_one_then_other
  simp only [MC_, h1]
theorem Jn.itmx {P R : Rat → Rat → Prop} {bt bv bm : Nat} {C : Cn → Prop} (hP : JPx P R bt bv bm C) {c : Cn} {r : List Cn} {s : Rat} (h : Jn P bt bv bm c r s) {N : Nat} (hN : r.length ≤ N) : CrvP R N (fun t => val s t c r) s (dJ (Itm.mk (c :: r) s (fun t => val s t c r))) := ⟨c, r, rfl, ⟨h.c0, h.up, h.nd, h.v0, h.s0, h.nf, h.ln.mono (fun m q z => hP.r0 _ _ (hP.p0 _ _ z))⟩, h.ln.mono hP.p0, hN, fun t _ => rfl⟩
theorem r_joinedx (n : Nat) {P R : Rat → Rat → Prop} {bt bv bm : Nat} {C : Cn → Prop} (hP : JPx P R bt bv bm C) {S : List Rat} (hS : ∀ m q, R m q → m ∈ S) {c : Cn} {r : List Cn} {s : Rat} {c' : Cn} {r' : List Cn} {s' : Rat} (h : Jn P bt bv bm c r s) (k : Jn P bt bv bm c' r' s') (hC : ∀ x ∈ c :: r, C x) (hC' : ∀ x ∈ c' :: r', C x) (hl : r.length + r'.length ≤ 30000) {N : Nat} (hN : ((r.length + 1) * (r'.length + 1)) * (S.length + 1) + S.length ≤ N) (hN2 : N ≤ 20000) : ∃ z : Itm, runTP T (n + 12) "joined" [dF (c :: r) s, dF (c' :: r') s'] = .ok (dJ z) ∧ CrvP R N z.f z.s (dJ z) ∧ z.s = ch false s s' ∧ Jd (fun t => val s t c r) (fun t => val s' t c' r') (c :: r) (c' :: r') z.f := by
  obtain ⟨A, a1, a2, a3, a4⟩ := r_one_then_otherx (n + 2) hP h k hC hC' hl
  obtain ⟨B, b1, b2, b3, b4⟩ := r_one_then_otherx (n + 2) hP k h hC' hC (by omega)
  obtain ⟨I, hI⟩ : ∃ I : Itm, I = ⟨c :: r, s, fun t => val s t c r⟩ := ⟨_, rfl⟩
  obtain ⟨J, hJ⟩ : ∃ J : Itm, J = ⟨c' :: r', s', fun t => val s' t c' r'⟩ := ⟨_, rfl⟩
  have mem : ∀ {y : Cn}, y ∈ c' :: r' → ∀ x ∈ c :: r, y.1 + x.1 ∈ sums c r c' r' := fun hy x hx => by
    rw [show ∀ a b : Rat, a + b = b + a from fun a b => by grind]
    exact sums_mem hx hy
  have l1 := fun x (hx : x ∈ c :: r) => sums_l (r := r) (r' := r') k.c0 hx
  have l2 := fun y (hy : y ∈ c' :: r') => sums_r (r := r) (r' := r') h.c0 hy
  have slen := sums_len c r c' r'
  have toN : ∀ {M : Nat} {F : Rat → Rat} {u : Rat} {X : Dv}, CrvP R M F u X → Bd 1 (sums c r c' r') F → CrvP R N F u X := fun hx bd => (cnt_of (.inl rfl) hS hx bd).mono (fun m q z => z) (by rw [slen]; exact hN)
  obtain ⟨z, z1, ⟨z2, _⟩, z3⟩ := r_gatherg n "least" (RR := Rel) ⟨Rel.rfl', fun _ _ _ a b => a.trans b, fun _ _ _ _ a b => a.app b⟩ (fun i => CrvP R N i.f i.s (dJ i) ∧ Bd 1 (sums c r c' r') i.f) (fun x y hx hy => by
    obtain ⟨w, w1, w2, w3⟩ := r_least_itm n N x y hx.1.crv hy.1.crv (by omega)
    have bd := Bd.lo hx.2 hy.2
    have we : ∀ t, 0 ≤ t → w.f t = ch false (x.f t) (y.f t) := fun t t0 => by
      obtain ⟨a, ha, e⟩ := w3.v1 t t0 w List.mem_cons_self
      have le1 : w.f t ≤ x.f t := by
        obtain ⟨b, hb, e⟩ := w3.v2 t t0 x List.mem_cons_self
        rw [List.mem_singleton.mp hb] at e
        exact e
      have le2 : w.f t ≤ y.f t := by
        obtain ⟨b, hb, e⟩ := w3.v2 t t0 y (by simp)
        rw [List.mem_singleton.mp hb] at e
        exact e
      simp only [List.mem_cons, List.not_mem_nil, or_false] at ha
      unfold ch
      simp only [Bool.false_eq_true, if_false]
      rcases ha with ha | ha <;> rw [ha] at e <;> split <;> grind
    have bd' := bd.cg (fun t t0 => (we t t0).symm)
    have wp := Crv.chP hP.r0 hx.1 hy.1 (w2.p (by decide) |>.congr we).crv
    exact ⟨w, w1, ⟨toN (wp.congr (fun t t0 => (we t t0).symm)) bd', bd'⟩, w3⟩) ([I, J] ++ A ++ B) (by simp) (by simp; omega) (fun x hx => by
    simp only [List.mem_append, List.mem_cons, List.not_mem_nil, or_false] at hx
    rcases hx with ((e | e) | hx) | hx
    · have bd : Bd 1 (sums c r c' r') (fun t => val s t c r) := bd_own h.up h.c0 l1
      rw [e, hI]
      exact ⟨toN (h.itmx hP (Nat.le_refl _)) bd, bd⟩
    · have bd : Bd 1 (sums c r c' r') (fun t => val s' t c' r') := bd_own k.up k.c0 l2
      rw [e, hJ]
      exact ⟨toN (k.itmx hP (Nat.le_refl _)) bd, bd⟩
    · obtain ⟨q1, q2, y, hy, q3⟩ := a3 x hx
      have bd : Bd 1 (sums c r c' r') x.f := by rw [q3]; exact bd_row h.up h.c0 k.up k.c0 hy l1 (fun z hz => sums_mem hy hz)
      exact ⟨toN q1 bd, bd⟩
    · obtain ⟨q1, q2, y, hy, q3⟩ := b3 x hx
      have bd : Bd 1 (sums c r c' r') x.f := by rw [q3]; exact bd_row k.up k.c0 h.up h.c0 hy l2 (fun z hz => mem hy z hz)
      exact ⟨toN q1 bd, bd⟩)
  have mI : I ∈ [I, J] ++ A ++ B := by simp
  have mJ : J ∈ [I, J] ++ A ++ B := by simp
  have mA : ∀ x ∈ A, x ∈ [I, J] ++ A ++ B := fun x hx => by simp [hx]
  have mB : ∀ x ∈ B, x ∈ [I, J] ++ A ++ B := fun x hx => by simp [hx]
  have le : ∀ t, 0 ≤ t → ∀ x ∈ [I, J] ++ A ++ B, z.f t ≤ x.f t := fun t t0 x hx => by
    obtain ⟨y, hy, e⟩ := z3.v2 t t0 x hx
    rw [List.mem_singleton.mp hy] at e
    exact e
  have les : ∀ x ∈ [I, J] ++ A ++ B, z.s ≤ x.s := fun x hx => by
    obtain ⟨y, hy, e⟩ := z3.s2 x hx
    rw [List.mem_singleton.mp hy] at e
    exact e
  refine ⟨z, ?_, z2, ?_, ⟨fun t t0 => ?_, fun t t0 => ?_, fun t t0 x hx => ?_, fun t t0 x hx => ?_, fun t t0 => ?_⟩⟩
  · rw [runTP_succ T_joined]
    have la : 2 + A.length ≤ LIM := by unfold LIM; omega
    have lb : A.length + 1 + 1 + B.length ≤ LIM := by unfold LIM; omega
    have lc : A.length + 1 + 1 ≤ LIM := by unfold LIM; omega
    have e : ([I, J] ++ A ++ B).map dJ = dF (c :: r) s :: dF (c' :: r') s' :: (A.map dJ ++ B.map dJ) := by
      rw [List.map_append, List.map_append, hI, hJ]
      rfl
    rw [e] at z1
    rw [dJ_F] at z1 ⊢
    generalize c :: r = cs at *
    generalize c' :: r' = cs' at *
    unfold F_joined
    simp only [MC_, a1, b1, List.length_map, List.length_append, List.length_cons, List.length_nil, la, lb, lc, z1]
  · have s1 := les I mI
    have s2 := les J mJ
    rw [hI] at s1
    rw [hJ] at s2
    have e1 : z.s = s ∨ z.s = s' := by
      obtain ⟨x, hx, e⟩ := z3.s1 z (List.mem_singleton.mpr rfl)
      simp only [List.mem_append, List.mem_cons, List.not_mem_nil, or_false] at hx
      rcases hx with ((e2 | e2) | hx) | hx
      · rw [e, e2, hI]; exact .inl rfl
      · rw [e, e2, hJ]; exact .inr rfl
      · rw [e, (a3 x hx).2.1]; exact .inr rfl
      · rw [e, (b3 x hx).2.1]; exact .inl rfl
    have s1' : z.s ≤ s := s1
    have s2' : z.s ≤ s' := s2
    have := (ch_lo s s').1
    have := (ch_lo s s').2
    grind
  · have := le t t0 I mI
    rw [hI] at this
    exact this
  · have := le t t0 J mJ
    rw [hJ] at this
    exact this
  · obtain ⟨y, hy, e⟩ := a4 x hx
    have := le t t0 y (mA y hy)
    rw [e] at this
    exact this
  · obtain ⟨y, hy, e⟩ := b4 x hx
    have := le t t0 y (mB y hy)
    rw [e] at this
    exact this
  · obtain ⟨x, hx, e⟩ := z3.v1 t t0 z (List.mem_singleton.mpr rfl)
    simp only [List.mem_append, List.mem_cons, List.not_mem_nil, or_false] at hx
    rcases hx with ((e2 | e2) | hx) | hx
    · rw [e, e2, hI]; exact .inl rfl
    · rw [e, e2, hJ]; exact .inr (.inl rfl)
    · obtain ⟨_, _, y, hy, e3⟩ := a3 x hx
      rw [e, e3]
      exact .inr (.inr (.inl ⟨y, hy, rfl⟩))
    · obtain ⟨_, _, y, hy, e3⟩ := b3 x hx
      rw [e, e3]
      exact .inr (.inr (.inr ⟨y, hy, rfl⟩))

end Q
namespace Q
open PySem MP FP
theorem LQ.shift {ka kd kb j k j' k' x y z : Nat} (hx : ka + k + k' ≤ x) (hy : kd + k + k' ≤ y) (hz : j' + kd + k + 1 ≤ z ∧ ka + j + k' + 2 ≤ z ∧ kb + k + k' + 2 ≤ z) {m q a v : Rat} (h : LQ ka kd kb m q) (ha : Rn j k a) (hv : Rn j' k' v) : LQ x y z m (v + q - m * a) := by
  obtain ⟨A, B, D, h0, hD, hA, hB, e1, e2⟩ := h
  obtain ⟨n, d, d0, hd, hn, e3⟩ := ha
  obtain ⟨n', d', d0', hd', hn', e4⟩ := hv
  have p1 := Int.mul_pos h0 d0
  refine ⟨A * d * d', n' * (D * d) + (B * d - A * n) * d', D * d * d', Int.mul_pos p1 d0', up_lt (mul_lt (mul_lt hD hd) hd') hy, up_lt (mul_lt (mul_lt hA hd) hd') hx, ?_, ?_, ?_⟩
  · have b1 := mul_lt hn' (mul_lt hD hd)
    have b2 := up_lt (mul_lt hB hd) (show kb + k ≤ max (kb + k) (ka + j) by omega)
    have b3 := up_lt (mul_lt hA hn) (show ka + j ≤ max (kb + k) (ka + j) by omega)
    have b4 := mul_lt (sub_lt b2 b3) hd'
    exact up_lt (add_lt (k := z - 1) (up_lt b1 (by omega)) (up_lt b4 (by omega))) (by omega)
  · rw [e1, divInt_ext h0 (Int.mul_pos d0 d0'), Int.mul_assoc A, Int.mul_assoc D]
  · have q1 : q - m * a = Rat.divInt (B * d - A * n) (D * d) := by
      rw [e1, e2, e3, Rat.divInt_mul_divInt, divInt_ext h0 d0 (a := B), dvs']
    rw [show v + q - m * a = v + (q - m * a) by grind, q1, e4, dvp d0' p1]
    congr 1
    exact Int.mul_comm _ _
theorem lns_mem {P : Rat → Rat → Prop} {s : Rat} {S : List Rat} : ∀ {c : Cn} {r : List Cn}, Lns P s c r → (∀ m ∈ gaps c r ++ [s], m ∈ S) → Lns (fun m q => P m q ∧ m ∈ S) s c r
  | c, [], h, k => ⟨h, k s (by simp)⟩
  | c, d :: r, h, k => ⟨⟨h.1, k _ (by show slope c d ∈ slope c d :: (gaps d r ++ [s]); exact List.mem_cons_self)⟩, lns_mem h.2 (fun m hm => k m (by show m ∈ slope c d :: (gaps d r ++ [s]); exact List.mem_cons_of_mem _ hm))⟩
/-- with its slopes -/
def QS (ka kd kb : Nat) (S : List Rat) (m q : Rat) : Prop := LQ ka kd kb m q ∧ m ∈ S
theorem CrvT.own {ka kd kb N : Nat} {K : Rat → Prop} {F : Rat → Rat} {s : Rat} {X : Dv} (h : CrvT (LQ ka kd kb) K N F s X) : ∃ S : List Rat, S.length ≤ N + 1 ∧ CrvT (QS ka kd kb S) K N F s X := by
  obtain ⟨c, r, h1, h2, h3, h4, h5, h6⟩ := h
  exact ⟨gaps c r ++ [s], by rw [List.length_append, gaps_len]; simp; omega, c, r, h1, h2, lns_mem h3 (fun _ h => h), h4, h5, h6⟩
theorem CrvT.up {ka kd kb ka' kd' kb' j k j' k' N N' : Nat} {S S' : List Rat} (h1 : ka ≤ ka' ∧ kd ≤ kd' ∧ kb ≤ kb' ∧ j ≤ j' ∧ k ≤ k' ∧ N ≤ N') (hS : ∀ m ∈ S, m ∈ S') {F : Rat → Rat} {s : Rat} {X : Dv} (h : CrvT (QS ka kd kb S) (Rn j k) N F s X) : CrvT (QS ka' kd' kb' S') (Rn j' k') N' F s X := by
  obtain ⟨c, r, g1, g2, g3, g4, g5, g6⟩ := h
  exact ⟨c, r, g1, g2, g3.mono (fun m q z => ⟨z.1.mono' h1.1 h1.2.1 h1.2.2.1, hS m z.2⟩), by omega, g5, fun x hx => (g6 x hx).mono h1.2.2.2.1 h1.2.2.2.2.1⟩
theorem CrvP.tS {ka kd kb x y : Nat} {S : List Rat} (hx : kb + kd + 1 ≤ x) (hy : ka + kd + 1 ≤ y) {N : Nat} {F : Rat → Rat} {s : Rat} {X : Dv} (h : CrvP (QS ka kd kb S) N F s X) : CrvT (QS ka kd kb S) (Rn x y) N F s X := by
  obtain ⟨c, r, h1, h2, h3, h4, h5⟩ := h
  refine ⟨c, r, h1, h2, h3, h4, h5, fun d hd => ?_⟩
  rcases List.mem_cons.mp hd with e | hd
  · rw [e, h2.c0]; exact .zero (by omega) (by omega)
  · exact nf_meet (P := QS ka kd kb S) (fun m q m' q' t a b hm ht => LQ.meet hx hy a.1 b.1 hm ht) h3 h2.up h2.nf d hd
/-- to be joined, with its slopes and corners -/
theorem CrvT.jnS {ka kd kb j k x y bt bv bm : Nat} {S S' : List Rat} (hx : ka + j + 1 ≤ x ∧ kb + k + 1 ≤ x) (hy : kd + k ≤ y) (h1 : j ≤ bt ∧ k ≤ bt) (h2 : x ≤ bv ∧ y ≤ bv) (h3 : ka ≤ bm ∧ kd ≤ bm) (hS : ∀ m ∈ S, m ∈ S') {N : Nat} {F : Rat → Rat} {s : Rat} {X : Dv} (h : CrvT (QS ka kd kb S) (Rn j k) N F s X) : ∃ c r, X = dF (c :: r) s ∧ Jn (QS ka kd kb S') bt bv bm c r s ∧ r.length ≤ N ∧ (∀ t, 0 ≤ t → val s t c r = F t) ∧ ∀ d ∈ c :: r, Rn j k d.1 ∧ Rn x y d.2 := by
  obtain ⟨c, r, e, cv, ln, hl, vl, tm⟩ := h
  have vm : ∀ d ∈ c :: r, Rn x y d.2 := fun d hd => by
    obtain ⟨m, hm⟩ := line_at s d.1 ln
    have := hm.1.at hx hy (tm d hd)
    rw [show m * d.1 + (val s d.1 c r - m * d.1) = val s d.1 c r by grind, val_at s c r d cv.up hd] at this
    exact this
  refine ⟨c, r, e, ⟨cv.c0, cv.up, cv.nd, cv.v0, cv.s0, cv.nf, ln.mono (fun m q z => ⟨z.1, hS m z.2⟩), fun d hd => (tm d hd).rb h1.1 h1.2, fun d hd => (vm d hd).rb h2.1 h2.2, lns_sl6 (fun m q z => ?_) ln⟩, hl, vl, fun d hd => ⟨tm d hd, vm d hd⟩⟩
  obtain ⟨⟨a, b, D, h0, hD, ha, hb, e1, e2⟩, _⟩ := z
  rw [e1]
  exact Rb.div (up_lt ha h3.1) (up_lt hD h3.2) (by omega)

end Q
namespace Q
open PySem MP FP
/-- two drawn curves joined -/
theorem r_pair (n : Nat) {S1 S2 : List Rat} (h1 : S1.length ≤ 3) (h2 : S2.length ≤ 3) {F G : Rat → Rat} {s s' : Rat} {X Y : Dv} (hX : CrvT (QS 28 24 47 S1) (Rn 22 4) 2 F s X) (hY : CrvT (QS 28 24 47 S2) (Rn 22 4) 2 G s' Y) (v1 : ∃ c r, X = dF (c :: r) s ∧ ∀ x ∈ c :: r, Rn 23 4 x.2) (v2 : ∃ c r, Y = dF (c :: r) s' ∧ ∀ x ∈ c :: r, Rn 23 4 x.2) : ∃ Z u H, runTP T (n + 12) "joined" [X, Y] = .ok Z ∧ CrvT (QS 36 32 57 (S1 ++ S2)) (Rn 90 69) 69 H u Z ∧ Cj F G H := by
  obtain ⟨c, r, rfl, j, hl, hv, tv⟩ := hX.jnS (S' := S1 ++ S2) (bt := 72) (bv := 101) (bm := 28) (x := 101) (y := 77) (by decide) (by decide) (by decide) (by decide) (by decide) (fun m hm => List.mem_append_left _ hm)
  obtain ⟨c', r', rfl, j', hl', hv', tv'⟩ := hY.jnS (S' := S1 ++ S2) (bt := 72) (bv := 101) (bm := 28) (x := 101) (y := 77) (by decide) (by decide) (by decide) (by decide) (by decide) (fun m hm => List.mem_append_right _ hm)
  obtain ⟨a, b, e, v1⟩ := v1
  obtain ⟨a', b', e', v2⟩ := v2
  have e := dF_inj e
  have e' := dF_inj e'
  rw [← e] at v1
  rw [← e'] at v2
  have hP : JPx (QS 28 24 47 (S1 ++ S2)) (QS 36 32 57 (S1 ++ S2)) 72 101 28 (fun x => Rn 22 4 x.1 ∧ Rn 23 4 x.2) := ⟨fun m q z => ⟨z.1.mono' (by decide) (by decide) (by decide), z.2⟩, fun x hx m q z => ⟨z.1.shift (by decide) (by decide) (by decide) hx.1 hx.2, z.2⟩, fun m q z => z.1.lb (by decide) (by decide) (by decide), by decide, by decide, by decide⟩
  have hN : ((r.length + 1) * (r'.length + 1)) * ((S1 ++ S2).length + 1) + (S1 ++ S2).length ≤ 69 := by
    have a := Nat.mul_le_mul (show r.length + 1 ≤ 3 by omega) (show r'.length + 1 ≤ 3 by omega)
    have sl : (S1 ++ S2).length ≤ 6 := by rw [List.length_append]; omega
    have b := Nat.mul_le_mul a (show (S1 ++ S2).length + 1 ≤ 7 by omega)
    omega
  obtain ⟨z, z1, z2, z3, z4⟩ := r_joinedx n hP (S := S1 ++ S2) (fun m q z => z.2) j j' (fun x hx => ⟨(tv x hx).1, v1 x hx⟩) (fun x hx => ⟨(tv' x hx).1, v2 x hx⟩) (by omega) hN (by decide)
  exact ⟨_, _, z.f, z1, CrvP.tS (by decide) (by decide) z2, (Jd.cj j.up j'.up j.c0 j'.c0 z4).cg hv hv' (fun _ _ => rfl)⟩
/-- a joined one and a drawn one -/
theorem r_outer (n : Nat) {S1 S2 : List Rat} (hS : S1.length + S2.length ≤ 9) {N M : Nat} (hNM : (N + 1) * (M + 1) ≤ 210) {F G : Rat → Rat} {s s' : Rat} {X Y : Dv} (hX : CrvT (QS 36 32 57 S1) (Rn 90 69) N F s X) (hY : CrvT (QS 36 32 57 S2) (Rn 90 69) M G s' Y) : ∃ Z u H, runTP T (n + 12) "joined" [X, Y] = .ok Z ∧ CrvP (LB 400) 2109 H u Z ∧ Cj F G H := by
  obtain ⟨c, r, rfl, j, hl, hv, tv⟩ := hX.jnS (S' := S1 ++ S2) (bt := 90) (bv := 127) (bm := 36) (x := 127) (y := 101) (by decide) (by decide) (by decide) (by decide) (by decide) (fun m hm => List.mem_append_left _ hm)
  obtain ⟨c', r', rfl, j', hl', hv', tv'⟩ := hY.jnS (S' := S1 ++ S2) (bt := 90) (bv := 127) (bm := 36) (x := 127) (y := 101) (by decide) (by decide) (by decide) (by decide) (by decide) (fun m hm => List.mem_append_right _ hm)
  have lb : ∀ m q, LQ 36 32 57 m q → Rb m 36 ∧ Rb q 57 := fun m q z => by
    obtain ⟨a, b, D, h0, hD, ha, hb, e1, e2⟩ := z
    rw [e1, e2]
    exact ⟨Rb.div ha (up_lt hD (by decide)) (by omega), Rb.div hb (up_lt hD (by decide)) (by omega)⟩
  have hP : JPx (QS 36 32 57 (S1 ++ S2)) (fun m q => LB 400 m q ∧ m ∈ S1 ++ S2) 90 127 36 (fun x => Rb x.1 90 ∧ Rb x.2 127) := ⟨fun m q z => ⟨z.1.lb (by decide) (by decide) (by decide), z.2⟩, fun x hx m q z => by
    obtain ⟨m1, q1⟩ := lb m q z.1
    exact ⟨⟨m1.mono (by decide), ((hx.2.add q1).sub (m1.mul hx.1)).mono (by decide)⟩, z.2⟩, fun m q z => z.1, by decide, by decide, by decide⟩
  have hN : ((r.length + 1) * (r'.length + 1)) * ((S1 ++ S2).length + 1) + (S1 ++ S2).length ≤ 2109 := by
    have a := Nat.mul_le_mul (show r.length + 1 ≤ N + 1 by omega) (show r'.length + 1 ≤ M + 1 by omega)
    have sl : (S1 ++ S2).length ≤ 9 := by rw [List.length_append]; omega
    have b := Nat.mul_le_mul (Nat.le_trans a hNM) (show (S1 ++ S2).length + 1 ≤ 10 by omega)
    omega
  have len : r.length + r'.length ≤ 30000 := by
    have : (r.length + 1) * 1 ≤ (N + 1) * (M + 1) := Nat.mul_le_mul (by omega) (by omega)
    have : 1 * (r'.length + 1) ≤ (N + 1) * (M + 1) := Nat.mul_le_mul (by omega) (by omega)
    omega
  obtain ⟨z, z1, z2, z3, z4⟩ := r_joinedx n hP (S := S1 ++ S2) (fun m q z => z.2) j j' (fun x hx => ⟨j.fz.t x hx, j.fz.v x hx⟩) (fun x hx => ⟨j'.fz.t x hx, j'.fz.v x hx⟩) len hN (by decide)
  exact ⟨_, _, z.f, z1, z2.mono (fun m q z => z.1) (Nat.le_refl _), (Jd.cj j.up j'.up j.c0 j'.c0 z4).cg hv hv' (fun _ _ => rfl)⟩
/-- a drawn curve: its slopes too -/
theorem J6.own {c : Cn} {r : List Cn} {s : Rat} (h : J6 c r s 2) : ∃ S : List Rat, S.length ≤ 3 ∧ CrvT (QS 28 24 47 S) (Rn 22 4) 2 (fun t => val s t c r) s (dF (c :: kl s c r) s) ∧ ∃ a b, dF (c :: kl s c r) s = dF (a :: b) s ∧ ∀ x ∈ a :: b, Rn 23 4 x.2 := by
  obtain ⟨S, h1, h2⟩ := h.t.own
  refine ⟨S, h1, h2, _, _, rfl, fun x hx => (h.sz x ?_).2⟩
  rcases List.mem_cons.mp hx with e | hx
  · rw [e]; exact List.mem_cons_self
  · exact List.mem_cons_of_mem _ (kl_mem s r c x hx)

end Q
namespace Q
open PySem MP FP
theorem CrvP.formS {P : Rat → Rat → Prop} {N : Nat} {F : Rat → Rat} {s : Rat} {X : Dv} (h : CrvP P N F s X) : ∃ C u, X = dF C u := by
  obtain ⟨c, r, e, _⟩ := h
  exact ⟨c :: r, s, e⟩
/-- what this law asks of three curves -/
theorem k19_runs {c1 c2 c3 : Cn} {r1 r2 r3 : List Cn} {s1 s2 s3 : Rat} (j1 : J6 c1 r1 s1 2) (j2 : J6 c2 r2 s2 2) (j3 : J6 c3 r3 s3 2) : ∃ P FO GH : List Cn × Rat, runTP T 20 "joined" [dF (c1 :: kl s1 c1 r1) s1, dF (c2 :: kl s2 c2 r2) s2] = .ok (dF P.1 P.2) ∧ runTP T 20 "joined" [dF (c2 :: kl s2 c2 r2) s2, dF (c1 :: kl s1 c1 r1) s1] = .ok (dF P.1 P.2) ∧ runTP T 20 "joined" [dF P.1 P.2, dF (c3 :: kl s3 c3 r3) s3] = .ok (dF FO.1 FO.2) ∧ runTP T 20 "joined" [dF (c2 :: kl s2 c2 r2) s2, dF (c3 :: kl s3 c3 r3) s3] = .ok (dF GH.1 GH.2) ∧ runTP T 20 "joined" [dF (c1 :: kl s1 c1 r1) s1, dF GH.1 GH.2] = .ok (dF FO.1 FO.2) ∧ runTP T 20 "joined" [dF (c3 :: kl s3 c3 r3) s3, dF P.1 P.2] = .ok (dF FO.1 FO.2) ∧ runTP T 20 "_law_is_curve" [dF P.1 P.2] = .ok (.bl true) ∧ runTP T 20 "_law_is_curve" [dF FO.1 FO.2] = .ok (.bl true) := by
  obtain ⟨S1, l1, f, f'⟩ := j1.own
  obtain ⟨S2, l2, g, g'⟩ := j2.own
  obtain ⟨S3, l3, h, h'⟩ := j3.own
  have isC : ∀ {N : Nat} {F : Rat → Rat} {s : Rat} {X : Dv} {P : Rat → Rat → Prop}, CrvP P N F s X → N ≤ 3000 → runTP T 20 "_law_is_curve" [X] = .ok (.bl true) := fun {N F s X P} hx hN => by
    obtain ⟨c, r, rfl, cv, _, hl, _⟩ := hx
    exact r_is_curve0 16 2403 (by decide) c r s (fun x hx => ⟨(cv.sz x hx).1.mono (by decide), (cv.sz x hx).2⟩) ((cv.ln.gaps s (by simp)).mono (by decide)) cv.up cv.nd cv.nf cv.c0 cv.v0 cv.s0 (by omega)
  obtain ⟨P, pu, A, p1, p2, p3⟩ := r_pair 8 l1 l2 f g f' g'
  obtain ⟨P', pu', A', q1, q2, q3⟩ := r_pair 8 l2 l1 g f g' f'
  obtain ⟨Q, qu, B, o1, o2, o3⟩ := r_pair 8 l2 l3 g h g' h'
  have e1 : P' = P := (q2.p.eq (p2.p.congr (fun t t0 => p3.comm.same q3 t0))).1
  subst e1
  have len2 : ∀ {a b : List Rat}, a.length ≤ 3 → b.length ≤ 3 → (a ++ b).length ≤ 6 := fun ha hb => by rw [List.length_append]; omega
  have fu := f.up (ka' := 36) (kd' := 32) (kb' := 57) (j' := 90) (k' := 69) (N' := 2) (S' := S1) (by decide) (fun _ h => h)
  have hu := h.up (ka' := 36) (kd' := 32) (kb' := 57) (j' := 90) (k' := 69) (N' := 2) (S' := S3) (by decide) (fun _ h => h)
  obtain ⟨X, xu, XF, x1, x2, x3⟩ := r_outer 8 (by have := len2 l1 l2; omega) (by decide) p2 hu
  obtain ⟨Y, yu, YF, y1, y2, y3⟩ := r_outer 8 (by have := len2 l2 l3; omega) (by decide) fu o2
  obtain ⟨Z, zu, ZF, z1, z2, z3⟩ := r_outer 8 (by have := len2 l1 l2; omega) (by decide) hu p2
  have e2 : Y = X := (y2.eq (x2.congr (fun t t0 => Cj.assoc p3 x3 o3 y3 t0))).1
  have e3 : Z = X := (z2.eq (x2.congr (fun t t0 => x3.comm.same z3 t0))).1
  subst e2 e3
  have i1 := isC p2.p (by decide)
  have i2 := isC x2 (by decide)
  obtain ⟨a1, b1, rfl⟩ := p2.p.formS
  obtain ⟨a2, b2, rfl⟩ := x2.formS
  obtain ⟨a3, b3, rfl⟩ := o2.p.formS
  exact ⟨(a1, b1), (a2, b2), (a3, b3), p1, q1, x1, o1, y1, z1, i1, i2⟩
theorem main (ns : List Int) (h : ns.length ≤ 63) : runTP T (20 + 1) "law" [.scr (ns.map Dv.int)] = .ok (.bl true) := by
  rw [runTP_succ T_law]
  obtain ⟨c1, r1, s1, c2, r2, s2, c3, r3, s3, t1, j1, j2, j3⟩ := r_three 16 ns
  have hc := r_cell_at 19 ns 1 (by decide)
  have d3 : divOk (cell ns 1) 3 := divOk3 _
  have last : ∀ {c1 c2 c3 : Cn} {r1 r2 r3 : List Cn} {s1 s2 s3 : Rat}, J6 c1 r1 s1 2 → J6 c2 r2 s2 2 → J6 c3 r3 s3 2 → runP (runTP T 20) (dropS 2 F_law.body) [some (.scr (ns.map Dv.int)), some (.own [dG (c1 :: r1) s1, dG (c2 :: r2) s2, dG (c3 :: r3) s3]), none, none, none, none] = .rt (.bl true) := fun {c1 c2 c3 r1 r2 r3 s1 s2 s3} j1 j2 j3 => by
    have k1 := j1.run 12 (by decide)
    have k2 := j2.run 12 (by decide)
    have k3 := j3.run 12 (by decide)
    have lm : ∀ {c : Cn} {r : List Cn} {N : Nat} {s : Rat}, J6 c r s N → N ≤ 2 → (c :: r).length ≤ LIM := fun j hN => by have := j.len; unfold LIM; simp; omega
    have m1 := lm j1 (by decide)
    have m2 := lm j2 (by decide)
    have m3 := lm j3 (by decide)
    obtain ⟨P, FO, GH, q1, q2, q3, q4, q5, q6, q7, q8⟩ := k19_runs j1 j2 j3
    have np : eqP (dF P.1 P.2) (dF P.1 P.2) not = .ok (.bl false) := by rw [np_F, decide_eq_true rfl]; rfl
    have ep : eqP (dF FO.1 FO.2) (dF FO.1 FO.2) id = .ok (.bl true) := by rw [ep_F, decide_eq_true rfl]
    have hlc : lcQ (runTP T 20) 2 C_law_1 E_law_1 [some (.scr (ns.map Dv.int)), some (.own [dG (c1 :: r1) s1, dG (c2 :: r2) s2, dG (c3 :: r3) s3]), none, none, none, none] [dG (c1 :: r1) s1, dG (c2 :: r2) s2, dG (c3 :: r3) s3] = .ok [dF (c1 :: kl s1 c1 r1) s1, dF (c2 :: kl s2 c2 r2) s2, dF (c3 :: kl s3 c3 r3) s3] := by
      generalize c1 :: kl s1 c1 r1 = K1 at *
      generalize c2 :: kl s2 c2 r2 = K2 at *
      generalize c3 :: kl s3 c3 r3 = K3 at *
      generalize c1 :: r1 = A1 at *
      generalize c2 :: r2 = A2 at *
      generalize c3 :: r3 = A3 at *
      refine FP.lc_cons (y := dF K1 s1) ?_ ?_ (FP.lc_cons (y := dF K2 s2) ?_ ?_ (FP.lc_cons (y := dF K3 s3) ?_ ?_ FP.lc_nil))
      · simp only [MC_, VC_law_1]
      · simp only [MC_, VE_law_1, getP_G, frz_G, inL_G, isL_G, xp_G0, xp_G1, List.length_map, m1, any_C, k1]
      · simp only [MC_, VC_law_1]
      · simp only [MC_, VE_law_1, getP_G, frz_G, inL_G, isL_G, xp_G0, xp_G1, List.length_map, m2, any_C, k2]
      · simp only [MC_, VC_law_1]
      · simp only [MC_, VE_law_1, getP_G, frz_G, inL_G, isL_G, xp_G0, xp_G1, List.length_map, m3, any_C, k3]
    generalize c1 :: kl s1 c1 r1 = K1 at *
    generalize c2 :: kl s2 c2 r2 = K2 at *
    generalize c3 :: kl s3 c3 r3 = K3 at *
    generalize c1 :: r1 = A1 at *
    generalize c2 :: r2 = A2 at *
    generalize c3 :: r3 = A3 at *
    unfold F_law
    simp only [MC_, dropS_s, dropS, getP_G, frz_G, inL_G, isL_G, ls_G, hlc, q1, q2, q3, q4, q5, q6, q7, q8, np, ep]
  rw [runFP_cut 2 rfl]
  by_cases z : cell ns 1 % 3 = 2
  · have first : runP (runTP T 20) (takeS 2 F_law.body) [some (.scr (ns.map Dv.int)), none, none, none, none, none] = .nx [some (.scr (ns.map Dv.int)), some (.own [dG (c1 :: r1) s1, dG (c2 :: r2) s2, dG (c1 :: r1) s1]), none, none, none, none] := by
      generalize c1 :: r1 = A1 at *
      generalize c2 :: r2 = A2 at *
      generalize c3 :: r3 = A3 at *
      unfold F_law
      simp only [MC_, takeS_s, takeS, getP_G, frz_G, inL_G, isL_G, ls_G, t1, hc, d3, z]
      try rfl
    show ofP ((runP (runTP T 20) (takeS 2 F_law.body) [some (.scr (ns.map Dv.int)), none, none, none, none, none]).then _) = _
    rw [first, Op.then_nx, last j1 j2 j1]
    rfl
  · have first : runP (runTP T 20) (takeS 2 F_law.body) [some (.scr (ns.map Dv.int)), none, none, none, none, none] = .nx [some (.scr (ns.map Dv.int)), some (.own [dG (c1 :: r1) s1, dG (c2 :: r2) s2, dG (c3 :: r3) s3]), none, none, none, none] := by
      generalize c1 :: r1 = A1 at *
      generalize c2 :: r2 = A2 at *
      generalize c3 :: r3 = A3 at *
      unfold F_law
      simp only [MC_, takeS_s, takeS, getP_G, frz_G, inL_G, isL_G, ls_G, t1, hc, d3, z]
    show ofP ((runP (runTP T 20) (takeS 2 F_law.body) [some (.scr (ns.map Dv.int)), none, none, none, none, none]).then _) = _
    rw [first, Op.then_nx, last j1 j2 j3]
    rfl

end Q
namespace Q
open PySem PySem.Spec PyProof.Rows L2 MP
def topS (i : Nat) : Stmt := PySem.Challenge.pw_curvehouse_k19_order_of_joining.main.body.getD i (.Pass ⟨0, 0, 0, 0⟩)
def ct : CT := { fns := [("is_whole" : Str), ("divisor" : Str), ("ratio" : Str), ("plus" : Str), ("minus" : Str), ("times" : Str), ("over" : Str), ("under" : Str), ("lesser" : Str), ("slope_between" : Str), ("slopes_of" : Str), ("folded" : Str), ("made" : Str), ("curve" : Str), ("place_of" : Str), ("slope_behind" : Str), ("value_at" : Str), ("along" : Str), ("grid" : Str), ("gap_of" : Str), ("met_between" : Str), ("met_behind" : Str), ("stops" : Str), ("chosen" : Str), ("least" : Str), ("spliced" : Str), ("raised" : Str), ("one_then_other" : Str), ("gathered" : Str), ("joined" : Str), ("_law_cell_at" : Str), ("_law_lowest" : Str), ("_law_less" : Str), ("_law_minus" : Str), ("_law_slope_by" : Str), ("_law_curve_by" : Str), ("_law_cells" : Str), ("_law_is_ratio" : Str), ("_law_bends" : Str), ("_law_is_curve" : Str), ("_law_digits_curve" : Str), ("_law_three" : Str), ("law" : Str)], cst := [("NOUGHT", (.tup (.cons (.int 0) (.cons (.int 1) .nil))))], cls := [], bt := ["abs", "len", "int", "list", "tuple", "isinstance", "bool", "range"], rs := ["NoRatio", "NoCurve", "NoTime"] }
theorem sc_is_whole : FnScope ["thing"] ["thing"] (defScope (topS 6)) := ⟨rfl, rfl, rfl, by decide +kernel, rfl, by decide +kernel, by decide +kernel⟩
theorem bd_is_whole : F_is_whole.body = compB (compS ct ["thing"] false DEPTH (defScope (topS 6))) (defBody (topS 6)) := by decide +kernel
theorem sc_divisor : FnScope ["one", "other", "rest"] ["one", "other"] (defScope (topS 7)) := ⟨rfl, rfl, rfl, by decide +kernel, rfl, by decide +kernel, by decide +kernel⟩
theorem bd_divisor : F_divisor.body = compB (compS ct ["one", "other", "rest"] false DEPTH (defScope (topS 7))) (defBody (topS 7)) := by decide +kernel
theorem sc_ratio : FnScope ["top", "bottom", "many"] ["top", "bottom"] (defScope (topS 10)) := ⟨rfl, rfl, rfl, by decide +kernel, rfl, by decide +kernel, by decide +kernel⟩
theorem bd_ratio : F_ratio.body = compB (compS ct ["top", "bottom", "many"] false DEPTH (defScope (topS 10))) (defBody (topS 10)) := by decide +kernel
theorem sc_plus : FnScope ["one", "other"] ["one", "other"] (defScope (topS 11)) := ⟨rfl, rfl, rfl, by decide +kernel, rfl, by decide +kernel, by decide +kernel⟩
theorem bd_plus : F_plus.body = compB (compS ct ["one", "other"] false DEPTH (defScope (topS 11))) (defBody (topS 11)) := by decide +kernel
theorem sc_minus : FnScope ["one", "other"] ["one", "other"] (defScope (topS 12)) := ⟨rfl, rfl, rfl, by decide +kernel, rfl, by decide +kernel, by decide +kernel⟩
theorem bd_minus : F_minus.body = compB (compS ct ["one", "other"] false DEPTH (defScope (topS 12))) (defBody (topS 12)) := by decide +kernel
theorem sc_times : FnScope ["one", "other"] ["one", "other"] (defScope (topS 13)) := ⟨rfl, rfl, rfl, by decide +kernel, rfl, by decide +kernel, by decide +kernel⟩
theorem bd_times : F_times.body = compB (compS ct ["one", "other"] false DEPTH (defScope (topS 13))) (defBody (topS 13)) := by decide +kernel
theorem sc_over : FnScope ["one", "other"] ["one", "other"] (defScope (topS 14)) := ⟨rfl, rfl, rfl, by decide +kernel, rfl, by decide +kernel, by decide +kernel⟩
theorem bd_over : F_over.body = compB (compS ct ["one", "other"] false DEPTH (defScope (topS 14))) (defBody (topS 14)) := by decide +kernel
theorem sc_under : FnScope ["one", "other"] ["one", "other"] (defScope (topS 15)) := ⟨rfl, rfl, rfl, by decide +kernel, rfl, by decide +kernel, by decide +kernel⟩
theorem bd_under : F_under.body = compB (compS ct ["one", "other"] false DEPTH (defScope (topS 15))) (defBody (topS 15)) := by decide +kernel
theorem sc_lesser : FnScope ["one", "other"] ["one", "other"] (defScope (topS 16)) := ⟨rfl, rfl, rfl, by decide +kernel, rfl, by decide +kernel, by decide +kernel⟩
theorem bd_lesser : F_lesser.body = compB (compS ct ["one", "other"] false DEPTH (defScope (topS 16))) (defBody (topS 16)) := by decide +kernel
theorem sc_slope_between : FnScope ["one", "other"] ["one", "other"] (defScope (topS 18)) := ⟨rfl, rfl, rfl, by decide +kernel, rfl, by decide +kernel, by decide +kernel⟩
theorem bd_slope_between : F_slope_between.body = compB (compS ct ["one", "other"] false DEPTH (defScope (topS 18))) (defBody (topS 18)) := by decide +kernel
theorem sc_slopes_of : FnScope ["corners", "last", "slopes", "k"] ["corners", "last"] (defScope (topS 19)) := ⟨rfl, rfl, rfl, by decide +kernel, rfl, by decide +kernel, by decide +kernel⟩
theorem bd_slopes_of : F_slopes_of.body = compB (compS ct ["corners", "last", "slopes", "k"] false DEPTH (defScope (topS 19))) (defBody (topS 19)) := by decide +kernel
theorem sc_folded : FnScope ["corners", "last", "slopes", "kept", "k"] ["corners", "last"] (defScope (topS 20)) := ⟨rfl, rfl, rfl, by decide +kernel, rfl, by decide +kernel, by decide +kernel⟩
theorem bd_folded : F_folded.body = compB (compS ct ["corners", "last", "slopes", "kept", "k"] false DEPTH (defScope (topS 20))) (defBody (topS 20)) := by decide +kernel
theorem sc_made : FnScope ["corners", "last"] ["corners", "last"] (defScope (topS 21)) := ⟨rfl, rfl, rfl, by decide +kernel, rfl, by decide +kernel, by decide +kernel⟩
theorem bd_made : F_made.body = compB (compS ct ["corners", "last"] false DEPTH (defScope (topS 21))) (defBody (topS 21)) := by decide +kernel
theorem sc_curve : FnScope ["corners", "last", "k"] ["corners", "last"] (defScope (topS 22)) := ⟨rfl, rfl, rfl, by decide +kernel, rfl, by decide +kernel, by decide +kernel⟩
theorem bd_curve : F_curve.body = compB (compS ct ["corners", "last", "k"] false DEPTH (defScope (topS 22))) (defBody (topS 22)) := by decide +kernel
theorem sc_place_of : FnScope ["f", "t", "corners", "place"] ["f", "t"] (defScope (topS 23)) := ⟨rfl, rfl, rfl, by decide +kernel, rfl, by decide +kernel, by decide +kernel⟩
theorem bd_place_of : F_place_of.body = compB (compS ct ["f", "t", "corners", "place"] false DEPTH (defScope (topS 23))) (defBody (topS 23)) := by decide +kernel
theorem sc_slope_behind : FnScope ["f", "place"] ["f", "place"] (defScope (topS 24)) := ⟨rfl, rfl, rfl, by decide +kernel, rfl, by decide +kernel, by decide +kernel⟩
theorem bd_slope_behind : F_slope_behind.body = compB (compS ct ["f", "place"] false DEPTH (defScope (topS 24))) (defBody (topS 24)) := by decide +kernel
theorem sc_value_at : FnScope ["f", "t", "place", "corner"] ["f", "t"] (defScope (topS 25)) := ⟨rfl, rfl, rfl, by decide +kernel, rfl, by decide +kernel, by decide +kernel⟩
theorem bd_value_at : F_value_at.body = compB (compS ct ["f", "t", "place", "corner"] false DEPTH (defScope (topS 25))) (defBody (topS 25)) := by decide +kernel
theorem sc_along : FnScope ["f", "place", "at", "corner"] ["f", "place", "at"] (defScope (topS 27)) := ⟨rfl, rfl, rfl, by decide +kernel, rfl, by decide +kernel, by decide +kernel⟩
theorem bd_along : F_along.body = compB (compS ct ["f", "place", "at", "corner"] false DEPTH (defScope (topS 27))) (defBody (topS 27)) := by decide +kernel
theorem sc_grid : FnScope ["f", "g", "rows", "i", "j", "corner"] ["f", "g"] (defScope (topS 28)) := ⟨rfl, rfl, rfl, by decide +kernel, rfl, by decide +kernel, by decide +kernel⟩
theorem bd_grid : F_grid.body = compB (compS ct ["f", "g", "rows", "i", "j", "corner"] false DEPTH (defScope (topS 28))) (defBody (topS 28)) := by decide +kernel
theorem sc_gap_of : FnScope ["row"] ["row"] (defScope (topS 29)) := ⟨rfl, rfl, rfl, by decide +kernel, rfl, by decide +kernel, by decide +kernel⟩
theorem bd_gap_of : F_gap_of.body = compB (compS ct ["row"] false DEPTH (defScope (topS 29))) (defBody (topS 29)) := by decide +kernel
theorem sc_met_between : FnScope ["row", "later", "gap", "other", "part", "both"] ["row", "later"] (defScope (topS 30)) := ⟨rfl, rfl, rfl, by decide +kernel, rfl, by decide +kernel, by decide +kernel⟩
theorem bd_met_between : F_met_between.body = compB (compS ct ["row", "later", "gap", "other", "part", "both"] false DEPTH (defScope (topS 30))) (defBody (topS 30)) := by decide +kernel
theorem sc_met_behind : FnScope ["row", "slope", "other", "gap", "loss", "span", "both"] ["row", "slope", "other"] (defScope (topS 31)) := ⟨rfl, rfl, rfl, by decide +kernel, rfl, by decide +kernel, by decide +kernel⟩
theorem bd_met_behind : F_met_behind.body = compB (compS ct ["row", "slope", "other", "gap", "loss", "span", "both"] false DEPTH (defScope (topS 31))) (defBody (topS 31)) := by decide +kernel
theorem sc_stops : FnScope ["f", "g", "rows", "found", "k", "met"] ["f", "g"] (defScope (topS 32)) := ⟨rfl, rfl, rfl, by decide +kernel, rfl, by decide +kernel, by decide +kernel⟩
theorem bd_stops : F_stops.body = compB (compS ct ["f", "g", "rows", "found", "k", "met"] false DEPTH (defScope (topS 32))) (defBody (topS 32)) := by decide +kernel
theorem sc_chosen : FnScope ["f", "g", "choose", "rows", "row", "corners", "end", "later"] ["f", "g", "choose"] (defScope (topS 33)) := ⟨rfl, rfl, rfl, by decide +kernel, rfl, by decide +kernel, by decide +kernel⟩
theorem bd_chosen : F_chosen.body = compB (compS ct ["f", "g", "choose", "rows", "row", "corners", "end", "later"] false DEPTH (defScope (topS 33))) (defBody (topS 33)) := by decide +kernel
theorem sc_least : FnScope ["f", "g"] ["f", "g"] (defScope (topS 34)) := ⟨rfl, rfl, rfl, by decide +kernel, rfl, by decide +kernel, by decide +kernel⟩
theorem bd_least : F_least.body = compB (compS ct ["f", "g"] false DEPTH (defScope (topS 34))) (defBody (topS 34)) := by decide +kernel
theorem sc_spliced : FnScope ["f", "a", "g", "high", "corner", "corners", "base"] ["f", "a", "g"] (defScope (topS 36)) := ⟨rfl, rfl, rfl, by decide +kernel, rfl, by decide +kernel, by decide +kernel⟩
theorem bd_spliced : F_spliced.body = compB (compS ct ["f", "a", "g", "high", "corner", "corners", "base"] false DEPTH (defScope (topS 36))) (defBody (topS 36)) := by decide +kernel
theorem sc_raised : FnScope ["f", "value", "corner"] ["f", "value"] (defScope (topS 37)) := ⟨rfl, rfl, rfl, by decide +kernel, rfl, by decide +kernel, by decide +kernel⟩
theorem bd_raised : F_raised.body = compB (compS ct ["f", "value", "corner"] false DEPTH (defScope (topS 37))) (defBody (topS 37)) := by decide +kernel
theorem sc_one_then_other : FnScope ["f", "g", "rows", "corner"] ["f", "g"] (defScope (topS 38)) := ⟨rfl, rfl, rfl, by decide +kernel, rfl, by decide +kernel, by decide +kernel⟩
theorem bd_one_then_other : F_one_then_other.body = compB (compS ct ["f", "g", "rows", "corner"] false DEPTH (defScope (topS 38))) (defBody (topS 38)) := by decide +kernel
theorem sc_gathered : FnScope ["rows", "lay", "halved", "k"] ["rows", "lay"] (defScope (topS 39)) := ⟨rfl, rfl, rfl, by decide +kernel, rfl, by decide +kernel, by decide +kernel⟩
theorem bd_gathered : F_gathered.body = compB (compS ct ["rows", "lay", "halved", "k"] false DEPTH (defScope (topS 39))) (defBody (topS 39)) := by decide +kernel
theorem sc_joined : FnScope ["f", "g"] ["f", "g"] (defScope (topS 40)) := ⟨rfl, rfl, rfl, by decide +kernel, rfl, by decide +kernel, by decide +kernel⟩
theorem bd_joined : F_joined.body = compB (compS ct ["f", "g"] false DEPTH (defScope (topS 40))) (defBody (topS 40)) := by decide +kernel
theorem sc__law_cell_at : FnScope ["_law_script", "_law_k"] ["_law_script", "_law_k"] (defScope (topS 42)) := ⟨rfl, rfl, rfl, by decide +kernel, rfl, by decide +kernel, by decide +kernel⟩
theorem bd__law_cell_at : F__law_cell_at.body = compB (compS ct ["_law_script", "_law_k"] false DEPTH (defScope (topS 42))) (defBody (topS 42)) := by decide +kernel
theorem sc__law_lowest : FnScope ["_law_top", "_law_bottom", "_law_one", "_law_other", "_law_rest"] ["_law_top", "_law_bottom"] (defScope (topS 43)) := ⟨rfl, rfl, rfl, by decide +kernel, rfl, by decide +kernel, by decide +kernel⟩
theorem bd__law_lowest : F__law_lowest.body = compB (compS ct ["_law_top", "_law_bottom", "_law_one", "_law_other", "_law_rest"] false DEPTH (defScope (topS 43))) (defBody (topS 43)) := by decide +kernel
theorem sc__law_less : FnScope ["_law_one", "_law_other"] ["_law_one", "_law_other"] (defScope (topS 44)) := ⟨rfl, rfl, rfl, by decide +kernel, rfl, by decide +kernel, by decide +kernel⟩
theorem bd__law_less : F__law_less.body = compB (compS ct ["_law_one", "_law_other"] false DEPTH (defScope (topS 44))) (defBody (topS 44)) := by decide +kernel
theorem sc__law_minus : FnScope ["_law_one", "_law_other"] ["_law_one", "_law_other"] (defScope (topS 45)) := ⟨rfl, rfl, rfl, by decide +kernel, rfl, by decide +kernel, by decide +kernel⟩
theorem bd__law_minus : F__law_minus.body = compB (compS ct ["_law_one", "_law_other"] false DEPTH (defScope (topS 45))) (defBody (topS 45)) := by decide +kernel
theorem sc__law_slope_by : FnScope ["_law_cell", "_law_low"] ["_law_cell", "_law_low"] (defScope (topS 47)) := ⟨rfl, rfl, rfl, by decide +kernel, rfl, by decide +kernel, by decide +kernel⟩
theorem bd__law_slope_by : F__law_slope_by.body = compB (compS ct ["_law_cell", "_law_low"] false DEPTH (defScope (topS 47))) (defBody (topS 47)) := by decide +kernel
theorem sc__law_curve_by : FnScope ["_law_cells_here", "_law_many", "_law_low", "_law_high", "_law_at", "_law_value", "_law_corners", "_law_k", "_law_cell", "_law_other", "_law_gap", "_law_rise"] ["_law_cells_here", "_law_many"] (defScope (topS 48)) := ⟨rfl, rfl, rfl, by decide +kernel, rfl, by decide +kernel, by decide +kernel⟩
theorem bd__law_curve_by : F__law_curve_by.body = compB (compS ct ["_law_cells_here", "_law_many", "_law_low", "_law_high", "_law_at", "_law_value", "_law_corners", "_law_k", "_law_cell", "_law_other", "_law_gap", "_law_rise"] false DEPTH (defScope (topS 48))) (defBody (topS 48)) := by decide +kernel
theorem sc__law_cells : FnScope ["_law_script", "_law_begin", "_law_many", "_law_k"] ["_law_script", "_law_begin", "_law_many"] (defScope (topS 49)) := ⟨rfl, rfl, rfl, by decide +kernel, rfl, by decide +kernel, by decide +kernel⟩
theorem bd__law_cells : F__law_cells.body = compB (compS ct ["_law_script", "_law_begin", "_law_many", "_law_k"] false DEPTH (defScope (topS 49))) (defBody (topS 49)) := by decide +kernel
theorem sc__law_is_ratio : FnScope ["_law_found", "_law_number"] ["_law_found"] (defScope (topS 51)) := ⟨rfl, rfl, rfl, by decide +kernel, rfl, by decide +kernel, by decide +kernel⟩
theorem bd__law_is_ratio : F__law_is_ratio.body = compB (compS ct ["_law_found", "_law_number"] false DEPTH (defScope (topS 51))) (defBody (topS 51)) := by decide +kernel
theorem sc__law_bends : FnScope ["_law_found", "_law_k", "_law_corners", "_law_rise", "_law_span", "_law_behind", "_law_wide", "_law_ahead"] ["_law_found", "_law_k"] (defScope (topS 52)) := ⟨rfl, rfl, rfl, by decide +kernel, rfl, by decide +kernel, by decide +kernel⟩
theorem bd__law_bends : F__law_bends.body = compB (compS ct ["_law_found", "_law_k", "_law_corners", "_law_rise", "_law_span", "_law_behind", "_law_wide", "_law_ahead"] false DEPTH (defScope (topS 52))) (defBody (topS 52)) := by decide +kernel
theorem sc__law_is_curve : FnScope ["_law_found", "_law_corner", "_law_k"] ["_law_found"] (defScope (topS 53)) := ⟨rfl, rfl, rfl, by decide +kernel, rfl, by decide +kernel, by decide +kernel⟩
theorem bd__law_is_curve : F__law_is_curve.body = compB (compS ct ["_law_found", "_law_corner", "_law_k"] false DEPTH (defScope (topS 53))) (defBody (topS 53)) := by decide +kernel
theorem sc__law_digits_curve : FnScope ["_law_cell", "_law_room", "_law_low", "_law_high", "_law_value", "_law_many", "_law_at", "_law_corners", "_law_k"] ["_law_cell", "_law_room"] (defScope (topS 54)) := ⟨rfl, rfl, rfl, by decide +kernel, rfl, by decide +kernel, by decide +kernel⟩
theorem bd__law_digits_curve : F__law_digits_curve.body = compB (compS ct ["_law_cell", "_law_room", "_law_low", "_law_high", "_law_value", "_law_many", "_law_at", "_law_corners", "_law_k"] false DEPTH (defScope (topS 54))) (defBody (topS 54)) := by decide +kernel
theorem sc__law_three : FnScope ["_law_script", "_law_k", "_law_some", "_law_rows"] ["_law_script"] (defScope (topS 55)) := ⟨rfl, rfl, rfl, by decide +kernel, rfl, by decide +kernel, by decide +kernel⟩
theorem bd__law_three : F__law_three.body = compB (compS ct ["_law_script", "_law_k", "_law_some", "_law_rows"] false DEPTH (defScope (topS 55))) (defBody (topS 55)) := by decide +kernel
theorem sc_law : FnScope ["_law_script", "_law_rows", "_law_row", "_law_told", "_law_pair", "_law_found"] ["_law_script"] (defScope (topS 56)) := ⟨rfl, rfl, rfl, by decide +kernel, rfl, by decide +kernel, by decide +kernel⟩
theorem bd_law : F_law.body = compB (compS ct ["_law_script", "_law_rows", "_law_row", "_law_told", "_law_pair", "_law_found"] false DEPTH (defScope (topS 56))) (defBody (topS 56)) := by decide +kernel
theorem prog {K : PySem.W.Frag}
    (d_is_whole : DefK ct K T "is_whole")
    (d_divisor : DefK ct K T "divisor")
    (d_ratio : DefK ct K T "ratio")
    (d_plus : DefK ct K T "plus")
    (d_minus : DefK ct K T "minus")
    (d_times : DefK ct K T "times")
    (d_over : DefK ct K T "over")
    (d_under : DefK ct K T "under")
    (d_lesser : DefK ct K T "lesser")
    (d_slope_between : DefK ct K T "slope_between")
    (d_slopes_of : DefK ct K T "slopes_of")
    (d_folded : DefK ct K T "folded")
    (d_made : DefK ct K T "made")
    (d_curve : DefK ct K T "curve")
    (d_place_of : DefK ct K T "place_of")
    (d_slope_behind : DefK ct K T "slope_behind")
    (d_value_at : DefK ct K T "value_at")
    (d_along : DefK ct K T "along")
    (d_grid : DefK ct K T "grid")
    (d_gap_of : DefK ct K T "gap_of")
    (d_met_between : DefK ct K T "met_between")
    (d_met_behind : DefK ct K T "met_behind")
    (d_stops : DefK ct K T "stops")
    (d_chosen : DefK ct K T "chosen")
    (d_least : DefK ct K T "least")
    (d_spliced : DefK ct K T "spliced")
    (d_raised : DefK ct K T "raised")
    (d_one_then_other : DefK ct K T "one_then_other")
    (d_gathered : DefK ct K T "gathered")
    (d_joined : DefK ct K T "joined")
    (d__law_cell_at : DefK ct K T "_law_cell_at")
    (d__law_lowest : DefK ct K T "_law_lowest")
    (d__law_less : DefK ct K T "_law_less")
    (d__law_minus : DefK ct K T "_law_minus")
    (d__law_slope_by : DefK ct K T "_law_slope_by")
    (d__law_curve_by : DefK ct K T "_law_curve_by")
    (d__law_cells : DefK ct K T "_law_cells")
    (d__law_is_ratio : DefK ct K T "_law_is_ratio")
    (d__law_bends : DefK ct K T "_law_bends")
    (d__law_is_curve : DefK ct K T "_law_is_curve")
    (d__law_digits_curve : DefK ct K T "_law_digits_curve")
    (d__law_three : DefK ct K T "_law_three")
    (d_law : DefK ct K T "law")
    (c_NOUGHT : CoK ct K (faOf ct K) "NOUGHT" (.tup (.cons (.int 0) (.cons (.int 1) .nil))))
    (b_abs : PySem.W.nsIn K mainGlobals "abs" = some none)
    (b_len : PySem.W.nsIn K mainGlobals "len" = some none)
    (b_int : PySem.W.nsIn K mainGlobals "int" = some none)
    (b_list : PySem.W.nsIn K mainGlobals "list" = some none)
    (b_tuple : PySem.W.nsIn K mainGlobals "tuple" = some none)
    (b_isinstance : PySem.W.nsIn K mainGlobals "isinstance" = some none)
    (b_bool : PySem.W.nsIn K mainGlobals "bool" = some none)
    (b_range : PySem.W.nsIn K mainGlobals "range" = some none)
    (r_NoRatio : ∃ C, RsK K "NoRatio" C)
    (r_NoCurve : ∃ C, RsK K "NoCurve" C)
    (r_NoTime : ∃ C, RsK K "NoTime" C)
    (k_NoRatio_ValueError : ∃ C u, PySem.W.nsIn K mainGlobals "NoRatio" = some (some (.ref C)) ∧ clsK K "ValueError" = some u ∧ PySem.W.kitOne K (.ref C) u = some (isSub "NoRatio" "ValueError") ∧ PySem.W.exmOne K (.ref C) u = some (isSub "NoRatio" "ValueError"))
    (k_NoCurve_ValueError : ∃ C u, PySem.W.nsIn K mainGlobals "NoCurve" = some (some (.ref C)) ∧ clsK K "ValueError" = some u ∧ PySem.W.kitOne K (.ref C) u = some (isSub "NoCurve" "ValueError") ∧ PySem.W.exmOne K (.ref C) u = some (isSub "NoCurve" "ValueError"))
    (k_NoTime_ValueError : ∃ C u, PySem.W.nsIn K mainGlobals "NoTime" = some (some (.ref C)) ∧ clsK K "ValueError" = some u ∧ PySem.W.kitOne K (.ref C) u = some (isSub "NoTime" "ValueError") ∧ PySem.W.exmOne K (.ref C) u = some (isSub "NoTime" "ValueError"))
    : ProgK ct K T := by
  refine ⟨?_, ?_, ?_, ?_, ?_, ?_⟩
  · exact (List.forall_mem_cons.mpr ⟨d_is_whole, (List.forall_mem_cons.mpr ⟨d_divisor, (List.forall_mem_cons.mpr ⟨d_ratio, (List.forall_mem_cons.mpr ⟨d_plus, (List.forall_mem_cons.mpr ⟨d_minus, (List.forall_mem_cons.mpr ⟨d_times, (List.forall_mem_cons.mpr ⟨d_over, (List.forall_mem_cons.mpr ⟨d_under, (List.forall_mem_cons.mpr ⟨d_lesser, (List.forall_mem_cons.mpr ⟨d_slope_between, (List.forall_mem_cons.mpr ⟨d_slopes_of, (List.forall_mem_cons.mpr ⟨d_folded, (List.forall_mem_cons.mpr ⟨d_made, (List.forall_mem_cons.mpr ⟨d_curve, (List.forall_mem_cons.mpr ⟨d_place_of, (List.forall_mem_cons.mpr ⟨d_slope_behind, (List.forall_mem_cons.mpr ⟨d_value_at, (List.forall_mem_cons.mpr ⟨d_along, (List.forall_mem_cons.mpr ⟨d_grid, (List.forall_mem_cons.mpr ⟨d_gap_of, (List.forall_mem_cons.mpr ⟨d_met_between, (List.forall_mem_cons.mpr ⟨d_met_behind, (List.forall_mem_cons.mpr ⟨d_stops, (List.forall_mem_cons.mpr ⟨d_chosen, (List.forall_mem_cons.mpr ⟨d_least, (List.forall_mem_cons.mpr ⟨d_spliced, (List.forall_mem_cons.mpr ⟨d_raised, (List.forall_mem_cons.mpr ⟨d_one_then_other, (List.forall_mem_cons.mpr ⟨d_gathered, (List.forall_mem_cons.mpr ⟨d_joined, (List.forall_mem_cons.mpr ⟨d__law_cell_at, (List.forall_mem_cons.mpr ⟨d__law_lowest, (List.forall_mem_cons.mpr ⟨d__law_less, (List.forall_mem_cons.mpr ⟨d__law_minus, (List.forall_mem_cons.mpr ⟨d__law_slope_by, (List.forall_mem_cons.mpr ⟨d__law_curve_by, (List.forall_mem_cons.mpr ⟨d__law_cells, (List.forall_mem_cons.mpr ⟨d__law_is_ratio, (List.forall_mem_cons.mpr ⟨d__law_bends, (List.forall_mem_cons.mpr ⟨d__law_is_curve, (List.forall_mem_cons.mpr ⟨d__law_digits_curve, (List.forall_mem_cons.mpr ⟨d__law_three, (List.forall_mem_cons.mpr ⟨d_law, (fun x hx => absurd hx List.not_mem_nil)⟩)⟩)⟩)⟩)⟩)⟩)⟩)⟩)⟩)⟩)⟩)⟩)⟩)⟩)⟩)⟩)⟩)⟩)⟩)⟩)⟩)⟩)⟩)⟩)⟩)⟩)⟩)⟩)⟩)⟩)⟩)⟩)⟩)⟩)⟩)⟩)⟩)⟩)⟩)⟩)⟩)⟩)⟩)
  · exact (List.forall_mem_cons.mpr ⟨c_NOUGHT, (fun x hx => absurd hx List.not_mem_nil)⟩)
  · exact (List.forall_mem_cons.mpr ⟨b_abs, (List.forall_mem_cons.mpr ⟨b_len, (List.forall_mem_cons.mpr ⟨b_int, (List.forall_mem_cons.mpr ⟨b_list, (List.forall_mem_cons.mpr ⟨b_tuple, (List.forall_mem_cons.mpr ⟨b_isinstance, (List.forall_mem_cons.mpr ⟨b_bool, (List.forall_mem_cons.mpr ⟨b_range, (fun x hx => absurd hx List.not_mem_nil)⟩)⟩)⟩)⟩)⟩)⟩)⟩)⟩)
  · exact fun x hx => absurd hx List.not_mem_nil
  · exact (List.forall_mem_cons.mpr ⟨r_NoRatio, (List.forall_mem_cons.mpr ⟨r_NoCurve, (List.forall_mem_cons.mpr ⟨r_NoTime, (fun x hx => absurd hx List.not_mem_nil)⟩)⟩)⟩)
  · exact (List.forall_mem_cons.mpr ⟨(fun c2 h2 => h2.elim ( (fun x hx => absurd hx List.not_mem_nil) c2) (fun e => e ▸ k_NoRatio_ValueError)), (List.forall_mem_cons.mpr ⟨(fun c2 h2 => h2.elim ( (fun x hx => absurd hx List.not_mem_nil) c2) (fun e => e ▸ k_NoCurve_ValueError)), (List.forall_mem_cons.mpr ⟨(fun c2 h2 => h2.elim ( (fun x hx => absurd hx List.not_mem_nil) c2) (fun e => e ▸ k_NoTime_ValueError)), (fun x hx => absurd hx List.not_mem_nil)⟩)⟩)⟩)
/-- what the law promises, by the written part -/
def spLaw (n : Nat) (K : PySem.W.Frag) : Sp := spF K (faOf ct K) (caOf ct K) 1 (runT T (n + 1) "law")
theorem fin {P : Program} {w : World} {K : PySem.W.Frag} {h : Heap} {mg : Str → Option Value} {fa ad : Addr} {oc : Value} {od an : Option Addr} {osl : Array (Option Value)} {kV doc pm cdv ct1 : Value} {n : Nat} (X : K.In h) (G : h.Ns mainGlobals mg) (hmg : mg "law" = some (.ref fa))
    (d_is_whole : DefK ct K T "is_whole")
    (d_divisor : DefK ct K T "divisor")
    (d_ratio : DefK ct K T "ratio")
    (d_plus : DefK ct K T "plus")
    (d_minus : DefK ct K T "minus")
    (d_times : DefK ct K T "times")
    (d_over : DefK ct K T "over")
    (d_under : DefK ct K T "under")
    (d_lesser : DefK ct K T "lesser")
    (d_slope_between : DefK ct K T "slope_between")
    (d_slopes_of : DefK ct K T "slopes_of")
    (d_folded : DefK ct K T "folded")
    (d_made : DefK ct K T "made")
    (d_curve : DefK ct K T "curve")
    (d_place_of : DefK ct K T "place_of")
    (d_slope_behind : DefK ct K T "slope_behind")
    (d_value_at : DefK ct K T "value_at")
    (d_along : DefK ct K T "along")
    (d_grid : DefK ct K T "grid")
    (d_gap_of : DefK ct K T "gap_of")
    (d_met_between : DefK ct K T "met_between")
    (d_met_behind : DefK ct K T "met_behind")
    (d_stops : DefK ct K T "stops")
    (d_chosen : DefK ct K T "chosen")
    (d_least : DefK ct K T "least")
    (d_spliced : DefK ct K T "spliced")
    (d_raised : DefK ct K T "raised")
    (d_one_then_other : DefK ct K T "one_then_other")
    (d_gathered : DefK ct K T "gathered")
    (d_joined : DefK ct K T "joined")
    (d__law_cell_at : DefK ct K T "_law_cell_at")
    (d__law_lowest : DefK ct K T "_law_lowest")
    (d__law_less : DefK ct K T "_law_less")
    (d__law_minus : DefK ct K T "_law_minus")
    (d__law_slope_by : DefK ct K T "_law_slope_by")
    (d__law_curve_by : DefK ct K T "_law_curve_by")
    (d__law_cells : DefK ct K T "_law_cells")
    (d__law_is_ratio : DefK ct K T "_law_is_ratio")
    (d__law_bends : DefK ct K T "_law_bends")
    (d__law_is_curve : DefK ct K T "_law_is_curve")
    (d__law_digits_curve : DefK ct K T "_law_digits_curve")
    (d__law_three : DefK ct K T "_law_three")
    (d_law : DefK ct K T "law")
    (c_NOUGHT : CoK ct K (faOf ct K) "NOUGHT" (.tup (.cons (.int 0) (.cons (.int 1) .nil))))
    (b_abs : PySem.W.nsIn K mainGlobals "abs" = some none)
    (b_len : PySem.W.nsIn K mainGlobals "len" = some none)
    (b_int : PySem.W.nsIn K mainGlobals "int" = some none)
    (b_list : PySem.W.nsIn K mainGlobals "list" = some none)
    (b_tuple : PySem.W.nsIn K mainGlobals "tuple" = some none)
    (b_isinstance : PySem.W.nsIn K mainGlobals "isinstance" = some none)
    (b_bool : PySem.W.nsIn K mainGlobals "bool" = some none)
    (b_range : PySem.W.nsIn K mainGlobals "range" = some none)
    (r_NoRatio : ∃ C, RsK K "NoRatio" C)
    (r_NoCurve : ∃ C, RsK K "NoCurve" C)
    (r_NoTime : ∃ C, RsK K "NoTime" C)
    (k_NoRatio_ValueError : ∃ C u, PySem.W.nsIn K mainGlobals "NoRatio" = some (some (.ref C)) ∧ clsK K "ValueError" = some u ∧ PySem.W.kitOne K (.ref C) u = some (isSub "NoRatio" "ValueError") ∧ PySem.W.exmOne K (.ref C) u = some (isSub "NoRatio" "ValueError"))
    (k_NoCurve_ValueError : ∃ C u, PySem.W.nsIn K mainGlobals "NoCurve" = some (some (.ref C)) ∧ clsK K "ValueError" = some u ∧ PySem.W.kitOne K (.ref C) u = some (isSub "NoCurve" "ValueError") ∧ PySem.W.exmOne K (.ref C) u = some (isSub "NoCurve" "ValueError"))
    (k_NoTime_ValueError : ∃ C u, PySem.W.nsIn K mainGlobals "NoTime" = some (some (.ref C)) ∧ clsK K "ValueError" = some u ∧ PySem.W.kitOne K (.ref C) u = some (isSub "NoTime" "ValueError") ∧ PySem.W.exmOne K (.ref C) u = some (isSub "NoTime" "ValueError"))
    (a : PySem.W.nsIn K mainGlobals "law" = some (some (.ref ad))) (l : K.lookup ad = some ⟨oc, od, .func (PySem.W.fnOf "law" "law" (defArgs (topS 56)) (defBody (topS 56)) (defScope (topS 56)) .none kV doc pm an cdv ct1), osl⟩) (c : PySem.W.codeIn K cdv "law" = true) (kp : PySem.W.keepIn K (.ref ad) = true) :
    ∃ fdt : FuncData, (∀ (s : Shared) (u : Value), BindsTo s fdt ⟨[u], []⟩ [("_law_script", u)]) ∧ ∀ base : Heap, K.In base → base.Ns mainGlobals mg → FnOk P w K mg base (L2.CX P w) (n + 1) fa fdt ["_law_script"] (spLaw n K) := by
  have PK := prog d_is_whole d_divisor d_ratio d_plus d_minus d_times d_over d_under d_lesser d_slope_between d_slopes_of d_folded d_made d_curve d_place_of d_slope_behind d_value_at d_along d_grid d_gap_of d_met_between d_met_behind d_stops d_chosen d_least d_spliced d_raised d_one_then_other d_gathered d_joined d__law_cell_at d__law_lowest d__law_less d__law_minus d__law_slope_by d__law_curve_by d__law_cells d__law_is_ratio d__law_bends d__law_is_curve d__law_digits_curve d__law_three d_law c_NOUGHT b_abs b_len b_int b_list b_tuple b_isinstance b_bool b_range r_NoRatio r_NoCurve r_NoTime k_NoRatio_ValueError k_NoCurve_ValueError k_NoTime_ValueError
  exact MP.law_F (n := n) (st := topS 56) PK X G hmg sc_law (by rfl) rfl rfl bd_law (fun _ _ _ _ _ _ s v => .of_eq rfl) a l c kp
end Q

namespace MP
open PySem PySem.Spec PyProof.Rows L2
theorem co_int {ct : CT} {K : PySem.W.Frag} {fa : Str → Option Addr} {x : Str} {i : Int} {t : Tok} (hn : PySem.W.nsIn K mainGlobals x = some (some (.int i t))) : CoK ct K fa x (.int i) := ⟨.int i, .int i t, .int i, rfl, hn, ⟨_, rfl⟩, fun H α => .int i⟩
theorem co_str {ct : CT} {K : PySem.W.Frag} {fa : Str → Option Addr} {x z : Str} {t : Tok} (hn : PySem.W.nsIn K mainGlobals x = some (some (.str z t))) : CoK ct K fa x (.str z) := ⟨.str z, .str z t, .str z, rfl, hn, ⟨_, rfl⟩, fun H α => .str z⟩
end MP
open PySem PySem.W PyProof.Rows
set_option maxHeartbeats 0 in
theorem PySem.Challenge.cw_curvehouse_k19_order_of_joining_holds : PySem.Challenge.rw_curvehouse_k19_order_of_joining.Holds := by
  w_on; o_law; k_head; (case hw => w_witness2)
  k_fill
  refine L2.walk_of (l := PySem.Challenge.rw_curvehouse_k19_order_of_joining) (n := 63) (k := 20 + 1) (x := "_law_script") (CX := fun w => L2.CX PySem.Challenge.rw_curvehouse_k19_order_of_joining.prog w) (sp := fun w => Q.spLaw 20 _) rfl (by decide) rfl ⟨rfl, by decide, by decide⟩ (fun w h Y => PySem.W.kIn_of Y) ?F (fun _ _ a ns hl hO hS => MP.law_sp hO hS (FP.law_of (Q.main ns hl))) (fun _ _ _ _ _ h => MP.law_noX h)
  case F =>
    intro w mg fa h KX G hmg
    refine' Q.fin (n := 20) KX G hmg ?d_is_whole ?d_divisor ?d_ratio ?d_plus ?d_minus ?d_times ?d_over ?d_under ?d_lesser ?d_slope_between ?d_slopes_of ?d_folded ?d_made ?d_curve ?d_place_of ?d_slope_behind ?d_value_at ?d_along ?d_grid ?d_gap_of ?d_met_between ?d_met_behind ?d_stops ?d_chosen ?d_least ?d_spliced ?d_raised ?d_one_then_other ?d_gathered ?d_joined ?d__law_cell_at ?d__law_lowest ?d__law_less ?d__law_minus ?d__law_slope_by ?d__law_curve_by ?d__law_cells ?d__law_is_ratio ?d__law_bends ?d__law_is_curve ?d__law_digits_curve ?d__law_three ?d_law ?c_NOUGHT ?b_abs ?b_len ?b_int ?b_list ?b_tuple ?b_isinstance ?b_bool ?b_range ?r_NoRatio ?r_NoCurve ?r_NoTime ?k_NoRatio_ValueError ?k_NoCurve_ValueError ?k_NoTime_ValueError ?lA ?lL ?lC ?lK
    case d_is_whole =>
      refine' MP.defK_mk (st := Q.topS 6) Q.sc_is_whole (by rfl) rfl rfl Q.bd_is_whole (fun _ _ _ _ _ _ us hl => match us, hl with | [_], _ => rfl) ?a ?l ?c ?k
      (case a => k_is); (case l => k_is); (case c => k_is); (case k => k_is)
    case d_divisor =>
      refine' MP.defK_mk (st := Q.topS 7) Q.sc_divisor (by rfl) rfl rfl Q.bd_divisor (fun _ _ _ _ _ _ us hl => match us, hl with | [_, _], _ => rfl) ?a ?l ?c ?k
      (case a => k_is); (case l => k_is); (case c => k_is); (case k => k_is)
    case d_ratio =>
      refine' MP.defK_mk (st := Q.topS 10) Q.sc_ratio (by rfl) rfl rfl Q.bd_ratio (fun _ _ _ _ _ _ us hl => match us, hl with | [_, _], _ => rfl) ?a ?l ?c ?k
      (case a => k_is); (case l => k_is); (case c => k_is); (case k => k_is)
    case d_plus =>
      refine' MP.defK_mk (st := Q.topS 11) Q.sc_plus (by rfl) rfl rfl Q.bd_plus (fun _ _ _ _ _ _ us hl => match us, hl with | [_, _], _ => rfl) ?a ?l ?c ?k
      (case a => k_is); (case l => k_is); (case c => k_is); (case k => k_is)
    case d_minus =>
      refine' MP.defK_mk (st := Q.topS 12) Q.sc_minus (by rfl) rfl rfl Q.bd_minus (fun _ _ _ _ _ _ us hl => match us, hl with | [_, _], _ => rfl) ?a ?l ?c ?k
      (case a => k_is); (case l => k_is); (case c => k_is); (case k => k_is)
    case d_times =>
      refine' MP.defK_mk (st := Q.topS 13) Q.sc_times (by rfl) rfl rfl Q.bd_times (fun _ _ _ _ _ _ us hl => match us, hl with | [_, _], _ => rfl) ?a ?l ?c ?k
      (case a => k_is); (case l => k_is); (case c => k_is); (case k => k_is)
    case d_over =>
      refine' MP.defK_mk (st := Q.topS 14) Q.sc_over (by rfl) rfl rfl Q.bd_over (fun _ _ _ _ _ _ us hl => match us, hl with | [_, _], _ => rfl) ?a ?l ?c ?k
      (case a => k_is); (case l => k_is); (case c => k_is); (case k => k_is)
    case d_under =>
      refine' MP.defK_mk (st := Q.topS 15) Q.sc_under (by rfl) rfl rfl Q.bd_under (fun _ _ _ _ _ _ us hl => match us, hl with | [_, _], _ => rfl) ?a ?l ?c ?k
      (case a => k_is); (case l => k_is); (case c => k_is); (case k => k_is)
    case d_lesser =>
      refine' MP.defK_mk (st := Q.topS 16) Q.sc_lesser (by rfl) rfl rfl Q.bd_lesser (fun _ _ _ _ _ _ us hl => match us, hl with | [_, _], _ => rfl) ?a ?l ?c ?k
      (case a => k_is); (case l => k_is); (case c => k_is); (case k => k_is)
    case d_slope_between =>
      refine' MP.defK_mk (st := Q.topS 18) Q.sc_slope_between (by rfl) rfl rfl Q.bd_slope_between (fun _ _ _ _ _ _ us hl => match us, hl with | [_, _], _ => rfl) ?a ?l ?c ?k
      (case a => k_is); (case l => k_is); (case c => k_is); (case k => k_is)
    case d_slopes_of =>
      refine' MP.defK_mk (st := Q.topS 19) Q.sc_slopes_of (by rfl) rfl rfl Q.bd_slopes_of (fun _ _ _ _ _ _ us hl => match us, hl with | [_, _], _ => rfl) ?a ?l ?c ?k
      (case a => k_is); (case l => k_is); (case c => k_is); (case k => k_is)
    case d_folded =>
      refine' MP.defK_mk (st := Q.topS 20) Q.sc_folded (by rfl) rfl rfl Q.bd_folded (fun _ _ _ _ _ _ us hl => match us, hl with | [_, _], _ => rfl) ?a ?l ?c ?k
      (case a => k_is); (case l => k_is); (case c => k_is); (case k => k_is)
    case d_made =>
      refine' MP.defK_mk (st := Q.topS 21) Q.sc_made (by rfl) rfl rfl Q.bd_made (fun _ _ _ _ _ _ us hl => match us, hl with | [_, _], _ => rfl) ?a ?l ?c ?k
      (case a => k_is); (case l => k_is); (case c => k_is); (case k => k_is)
    case d_curve =>
      refine' MP.defK_mk (st := Q.topS 22) Q.sc_curve (by rfl) rfl rfl Q.bd_curve (fun _ _ _ _ _ _ us hl => match us, hl with | [_, _], _ => rfl) ?a ?l ?c ?k
      (case a => k_is); (case l => k_is); (case c => k_is); (case k => k_is)
    case d_place_of =>
      refine' MP.defK_mk (st := Q.topS 23) Q.sc_place_of (by rfl) rfl rfl Q.bd_place_of (fun _ _ _ _ _ _ us hl => match us, hl with | [_, _], _ => rfl) ?a ?l ?c ?k
      (case a => k_is); (case l => k_is); (case c => k_is); (case k => k_is)
    case d_slope_behind =>
      refine' MP.defK_mk (st := Q.topS 24) Q.sc_slope_behind (by rfl) rfl rfl Q.bd_slope_behind (fun _ _ _ _ _ _ us hl => match us, hl with | [_, _], _ => rfl) ?a ?l ?c ?k
      (case a => k_is); (case l => k_is); (case c => k_is); (case k => k_is)
    case d_value_at =>
      refine' MP.defK_mk (st := Q.topS 25) Q.sc_value_at (by rfl) rfl rfl Q.bd_value_at (fun _ _ _ _ _ _ us hl => match us, hl with | [_, _], _ => rfl) ?a ?l ?c ?k
      (case a => k_is); (case l => k_is); (case c => k_is); (case k => k_is)
    case d_along =>
      refine' MP.defK_mk (st := Q.topS 27) Q.sc_along (by rfl) rfl rfl Q.bd_along (fun _ _ _ _ _ _ us hl => match us, hl with | [_, _, _], _ => rfl) ?a ?l ?c ?k
      (case a => k_is); (case l => k_is); (case c => k_is); (case k => k_is)
    case d_grid =>
      refine' MP.defK_mk (st := Q.topS 28) Q.sc_grid (by rfl) rfl rfl Q.bd_grid (fun _ _ _ _ _ _ us hl => match us, hl with | [_, _], _ => rfl) ?a ?l ?c ?k
      (case a => k_is); (case l => k_is); (case c => k_is); (case k => k_is)
    case d_gap_of =>
      refine' MP.defK_mk (st := Q.topS 29) Q.sc_gap_of (by rfl) rfl rfl Q.bd_gap_of (fun _ _ _ _ _ _ us hl => match us, hl with | [_], _ => rfl) ?a ?l ?c ?k
      (case a => k_is); (case l => k_is); (case c => k_is); (case k => k_is)
    case d_met_between =>
      refine' MP.defK_mk (st := Q.topS 30) Q.sc_met_between (by rfl) rfl rfl Q.bd_met_between (fun _ _ _ _ _ _ us hl => match us, hl with | [_, _], _ => rfl) ?a ?l ?c ?k
      (case a => k_is); (case l => k_is); (case c => k_is); (case k => k_is)
    case d_met_behind =>
      refine' MP.defK_mk (st := Q.topS 31) Q.sc_met_behind (by rfl) rfl rfl Q.bd_met_behind (fun _ _ _ _ _ _ us hl => match us, hl with | [_, _, _], _ => rfl) ?a ?l ?c ?k
      (case a => k_is); (case l => k_is); (case c => k_is); (case k => k_is)
    case d_stops =>
      refine' MP.defK_mk (st := Q.topS 32) Q.sc_stops (by rfl) rfl rfl Q.bd_stops (fun _ _ _ _ _ _ us hl => match us, hl with | [_, _], _ => rfl) ?a ?l ?c ?k
      (case a => k_is); (case l => k_is); (case c => k_is); (case k => k_is)
    case d_chosen =>
      refine' MP.defK_mk (st := Q.topS 33) Q.sc_chosen (by rfl) rfl rfl Q.bd_chosen (fun _ _ _ _ _ _ us hl => match us, hl with | [_, _, _], _ => rfl) ?a ?l ?c ?k
      (case a => k_is); (case l => k_is); (case c => k_is); (case k => k_is)
    case d_least =>
      refine' MP.defK_mk (st := Q.topS 34) Q.sc_least (by rfl) rfl rfl Q.bd_least (fun _ _ _ _ _ _ us hl => match us, hl with | [_, _], _ => rfl) ?a ?l ?c ?k
      (case a => k_is); (case l => k_is); (case c => k_is); (case k => k_is)
    case d_spliced =>
      refine' MP.defK_mk (st := Q.topS 36) Q.sc_spliced (by rfl) rfl rfl Q.bd_spliced (fun _ _ _ _ _ _ us hl => match us, hl with | [_, _, _], _ => rfl) ?a ?l ?c ?k
      (case a => k_is); (case l => k_is); (case c => k_is); (case k => k_is)
    case d_raised =>
      refine' MP.defK_mk (st := Q.topS 37) Q.sc_raised (by rfl) rfl rfl Q.bd_raised (fun _ _ _ _ _ _ us hl => match us, hl with | [_, _], _ => rfl) ?a ?l ?c ?k
      (case a => k_is); (case l => k_is); (case c => k_is); (case k => k_is)
    case d_one_then_other =>
      refine' MP.defK_mk (st := Q.topS 38) Q.sc_one_then_other (by rfl) rfl rfl Q.bd_one_then_other (fun _ _ _ _ _ _ us hl => match us, hl with | [_, _], _ => rfl) ?a ?l ?c ?k
      (case a => k_is); (case l => k_is); (case c => k_is); (case k => k_is)
    case d_gathered =>
      refine' MP.defK_mk (st := Q.topS 39) Q.sc_gathered (by rfl) rfl rfl Q.bd_gathered (fun _ _ _ _ _ _ us hl => match us, hl with | [_, _], _ => rfl) ?a ?l ?c ?k
      (case a => k_is); (case l => k_is); (case c => k_is); (case k => k_is)
    case d_joined =>
      refine' MP.defK_mk (st := Q.topS 40) Q.sc_joined (by rfl) rfl rfl Q.bd_joined (fun _ _ _ _ _ _ us hl => match us, hl with | [_, _], _ => rfl) ?a ?l ?c ?k
      (case a => k_is); (case l => k_is); (case c => k_is); (case k => k_is)
    case d__law_cell_at =>
      refine' MP.defK_mk (st := Q.topS 42) Q.sc__law_cell_at (by rfl) rfl rfl Q.bd__law_cell_at (fun _ _ _ _ _ _ us hl => match us, hl with | [_, _], _ => rfl) ?a ?l ?c ?k
      (case a => k_is); (case l => k_is); (case c => k_is); (case k => k_is)
    case d__law_lowest =>
      refine' MP.defK_mk (st := Q.topS 43) Q.sc__law_lowest (by rfl) rfl rfl Q.bd__law_lowest (fun _ _ _ _ _ _ us hl => match us, hl with | [_, _], _ => rfl) ?a ?l ?c ?k
      (case a => k_is); (case l => k_is); (case c => k_is); (case k => k_is)
    case d__law_less =>
      refine' MP.defK_mk (st := Q.topS 44) Q.sc__law_less (by rfl) rfl rfl Q.bd__law_less (fun _ _ _ _ _ _ us hl => match us, hl with | [_, _], _ => rfl) ?a ?l ?c ?k
      (case a => k_is); (case l => k_is); (case c => k_is); (case k => k_is)
    case d__law_minus =>
      refine' MP.defK_mk (st := Q.topS 45) Q.sc__law_minus (by rfl) rfl rfl Q.bd__law_minus (fun _ _ _ _ _ _ us hl => match us, hl with | [_, _], _ => rfl) ?a ?l ?c ?k
      (case a => k_is); (case l => k_is); (case c => k_is); (case k => k_is)
    case d__law_slope_by =>
      refine' MP.defK_mk (st := Q.topS 47) Q.sc__law_slope_by (by rfl) rfl rfl Q.bd__law_slope_by (fun _ _ _ _ _ _ us hl => match us, hl with | [_, _], _ => rfl) ?a ?l ?c ?k
      (case a => k_is); (case l => k_is); (case c => k_is); (case k => k_is)
    case d__law_curve_by =>
      refine' MP.defK_mk (st := Q.topS 48) Q.sc__law_curve_by (by rfl) rfl rfl Q.bd__law_curve_by (fun _ _ _ _ _ _ us hl => match us, hl with | [_, _], _ => rfl) ?a ?l ?c ?k
      (case a => k_is); (case l => k_is); (case c => k_is); (case k => k_is)
    case d__law_cells =>
      refine' MP.defK_mk (st := Q.topS 49) Q.sc__law_cells (by rfl) rfl rfl Q.bd__law_cells (fun _ _ _ _ _ _ us hl => match us, hl with | [_, _, _], _ => rfl) ?a ?l ?c ?k
      (case a => k_is); (case l => k_is); (case c => k_is); (case k => k_is)
    case d__law_is_ratio =>
      refine' MP.defK_mk (st := Q.topS 51) Q.sc__law_is_ratio (by rfl) rfl rfl Q.bd__law_is_ratio (fun _ _ _ _ _ _ us hl => match us, hl with | [_], _ => rfl) ?a ?l ?c ?k
      (case a => k_is); (case l => k_is); (case c => k_is); (case k => k_is)
    case d__law_bends =>
      refine' MP.defK_mk (st := Q.topS 52) Q.sc__law_bends (by rfl) rfl rfl Q.bd__law_bends (fun _ _ _ _ _ _ us hl => match us, hl with | [_, _], _ => rfl) ?a ?l ?c ?k
      (case a => k_is); (case l => k_is); (case c => k_is); (case k => k_is)
    case d__law_is_curve =>
      refine' MP.defK_mk (st := Q.topS 53) Q.sc__law_is_curve (by rfl) rfl rfl Q.bd__law_is_curve (fun _ _ _ _ _ _ us hl => match us, hl with | [_], _ => rfl) ?a ?l ?c ?k
      (case a => k_is); (case l => k_is); (case c => k_is); (case k => k_is)
    case d__law_digits_curve =>
      refine' MP.defK_mk (st := Q.topS 54) Q.sc__law_digits_curve (by rfl) rfl rfl Q.bd__law_digits_curve (fun _ _ _ _ _ _ us hl => match us, hl with | [_, _], _ => rfl) ?a ?l ?c ?k
      (case a => k_is); (case l => k_is); (case c => k_is); (case k => k_is)
    case d__law_three =>
      refine' MP.defK_mk (st := Q.topS 55) Q.sc__law_three (by rfl) rfl rfl Q.bd__law_three (fun _ _ _ _ _ _ us hl => match us, hl with | [_], _ => rfl) ?a ?l ?c ?k
      (case a => k_is); (case l => k_is); (case c => k_is); (case k => k_is)
    case d_law =>
      refine' MP.defK_mk (st := Q.topS 56) Q.sc_law (by rfl) rfl rfl Q.bd_law (fun _ _ _ _ _ _ us hl => match us, hl with | [_], _ => rfl) ?a ?l ?c ?k
      (case a => k_is); (case l => k_is); (case c => k_is); (case k => k_is)
    case c_NOUGHT =>
      refine' MP.co_pair ?a ?l
      (case a => k_is); (case l => k_is)
    case b_abs => k_is
    case b_len => k_is
    case b_int => k_is
    case b_list => k_is
    case b_tuple => k_is
    case b_isinstance => k_is
    case b_bool => k_is
    case b_range => k_is
    case r_NoRatio =>
      refine' ⟨_, ⟨?a, ?b, ?c, ?d, ?e, ⟨?f1, ?f2, ?f3, ?f4, ?f5, ?f6, ?f7, ?f8⟩⟩⟩
      (case a => k_is); (case b => k_exc); (case c => k_is); (case d => k_is); (case e => k_is); (case f1 => k_is); (case f2 => k_is); (case f3 => k_is); (case f4 => k_is); (case f5 => k_is); (case f6 => k_is); (case f7 => k_is); (case f8 => k_is)
    case r_NoCurve =>
      refine' ⟨_, ⟨?a, ?b, ?c, ?d, ?e, ⟨?f1, ?f2, ?f3, ?f4, ?f5, ?f6, ?f7, ?f8⟩⟩⟩
      (case a => k_is); (case b => k_exc); (case c => k_is); (case d => k_is); (case e => k_is); (case f1 => k_is); (case f2 => k_is); (case f3 => k_is); (case f4 => k_is); (case f5 => k_is); (case f6 => k_is); (case f7 => k_is); (case f8 => k_is)
    case r_NoTime =>
      refine' ⟨_, ⟨?a, ?b, ?c, ?d, ?e, ⟨?f1, ?f2, ?f3, ?f4, ?f5, ?f6, ?f7, ?f8⟩⟩⟩
      (case a => k_is); (case b => k_exc); (case c => k_is); (case d => k_is); (case e => k_is); (case f1 => k_is); (case f2 => k_is); (case f3 => k_is); (case f4 => k_is); (case f5 => k_is); (case f6 => k_is); (case f7 => k_is); (case f8 => k_is)
    case k_NoRatio_ValueError =>
      refine' MP.kit_val (b := true) ?a (by decide) (by decide +kernel) ?k ?e
      (case a => k_is); (case k => k_is); (case e => k_is)
    case k_NoCurve_ValueError =>
      refine' MP.kit_val (b := true) ?a (by decide) (by decide +kernel) ?k ?e
      (case a => k_is); (case k => k_is); (case e => k_is)
    case k_NoTime_ValueError =>
      refine' MP.kit_val (b := true) ?a (by decide) (by decide +kernel) ?k ?e
      (case a => k_is); (case k => k_is); (case e => k_is)
    (case lA => k_is); (case lL => k_is); (case lC => k_is); (case lK => k_is)

