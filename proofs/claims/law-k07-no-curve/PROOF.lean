import PyProof.Rows.All
import HandS.ForMost
import HandS.ForExc
import HandS.Wide
import HandS.IsInst
import HandS.ExcIs
import HandS.CallLocal
import HandS.CallSlots
import HandS.Rev
import HandS.SortKw
import HandS.TupAny
import HandS.SortInts
import HandS.More
import PySem.Challenge.RW_curvehouse_k07_no_curve
set_option pp.maxSteps 300
set_option Elab.async false
set_option linter.all false
set_option maxRecDepth 100000
set_option maxHeartbeats 4000000

/-! A small language (MP) for the pure part of the programs: its syntax, its evaluator. -/
namespace MP
open PySem

/-- a value -/
inductive D where
  | non | bl (b : Bool) | int (i : Int) | str (x : Str) | tup (xs : List D) | ref (n : Nat) | fn (f : Str) | exc (c : Str)
deriving Inhabited
/-- an object that may change -/
inductive Cell where
  | lst (xs : List D)
abbrev Hd := List Cell
inductive R (α : Type) where
  | ok (a : α) (L : Hd) | exc (c : Str) (L : Hd) | bad
def R.bind {α β : Type} (r : R α) (f : α → Hd → R β) : R β := match r with
  | .ok a L => f a L
  | .exc c L => .exc c L
  | .bad => .bad
@[simp] theorem R.bind_ok {α β : Type} (a : α) (L : Hd) (f : α → Hd → R β) : (R.ok a L).bind f = f a L := rfl
@[simp] theorem R.bind_exc {α β : Type} (c : Str) (L : Hd) (f : α → Hd → R β) : (R.exc c L : R α).bind f = .exc c L := rfl
@[simp] theorem R.bind_bad {α β : Type} (f : α → Hd → R β) : (R.bad : R α).bind f = .bad := rfl

inductive Bop where | add | sub | mul | fdiv | mod | pow
deriving DecidableEq
inductive Cop where | lt | le | gt | ge | eq | ne | in_ | nin
deriving DecidableEq
inductive Bi where | abs | len | max | min | int | str | list | tuple | sorted | sortedR
deriving DecidableEq
inductive Ty where | int | bool | str | tuple | list
deriving DecidableEq
inductive Me where | append | pop | popAt | clear | insert | reverse | partition | replace | split | startswith | join
deriving DecidableEq

inductive Ex where
  | bad | non | bl (b : Bool) | int (i : Int) | str (x : Str)
  | v (i : Nat)
  | k (x : Str) (e : Ex)
  | f (x : Str)
  | nil | cons (a b : Ex) | absent
  | tup (a : Ex) | lst (a : Ex)
  | bin (o : Bop) (a b : Ex)
  | neg (a : Ex) | not (a : Ex)
  | and (a b : Ex) | or (a b : Ex)
  | cmp (o : Cop) (a b : Ex)
  | isn (a : Ex) | notn (a : Ex)
  | ix (a i : Ex)
  | sl (a lo hi : Ex)
  | call (f : Str) (as : Ex)
  | callv (i : Nat) (as : Ex)
  | bi (b : Bi) (as : Ex)
  | isi (a : Ex) (t : Ty)
  | ise (i : Nat) (c : Str)
  | me (m : Me) (o as : Ex)
  | lc (s : Nat) (it c e : Ex)
  | rng (as : Ex)
  | rev (a : Ex)
deriving DecidableEq
inductive Sm where
  | bad | pass
  | seq (a b : Sm)
  | set (i : Nat) (e : Ex)
  | setix (a i e : Ex)
  | aug (i : Nat) (o : Bop) (e : Ex)
  | ex (e : Ex)
  | ite (c : Ex) (a b : Sm)
  | wh (c : Ex) (b : Sm)
  | for_ (s : Nat) (it : Ex) (b : Sm)
  | ret (e : Ex) | retn
  | brk | cnt
  | raise (c : Str)
  | try_ (b : Sm) (c : Str) (s : Option Nat) (h : Sm)
deriving DecidableEq
/-- a def: its parameters' count, its names' count, its body -/
structure Fd where
  np : Nat
  n : Nat
  body : Sm
deriving DecidableEq

abbrev Env := List (Option D)
def LIM : Nat := 1000000

def getL (L : Hd) (n : Nat) : Option (List D) := match L[n]? with
  | some (.lst xs) => some xs
  | none => none
def setL (L : Hd) (n : Nat) (xs : List D) : Hd := L.set n (.lst xs)
def alloc (xs : List D) (L : Hd) : R D := if xs.length ≤ LIM then .ok (.ref L.length) (L ++ [.lst xs]) else .bad

/-! ### operators -/
def mulOk (i j : Int) : Prop := (-(2 ^ 64) < i ∧ i < 2 ^ 64) ∨ (-(2 ^ 64) < j ∧ j < 2 ^ 64) ∨ i.natAbs.log2 + j.natAbs.log2 < 1000000
noncomputable instance (i j : Int) : Decidable (mulOk i j) := Classical.propDecidable _
def divOk (i j : Int) : Prop := j ≠ 0 ∧ Builtin.divisionGoesByPylong i j = false
noncomputable instance (i j : Int) : Decidable (divOk i j) := Classical.propDecidable _
def powOk (i j : Int) : Prop := 0 ≤ j ∧ j ≤ 1000000 ∧ i.natAbs < 2 ^ 64
instance (i j : Int) : Decidable (powOk i j) := by unfold powOk; infer_instance
noncomputable def binop (o : Bop) (x y : D) (L : Hd) : R D := match o, x, y with
  | .add, .int i, .int j => .ok (.int (i + j)) L
  | .add, .str a, .str b => if a.length + b.length ≤ LIM then .ok (.str (a ++ b)) L else .bad
  | .add, .tup a, .tup b => if a.length + b.length ≤ LIM then .ok (.tup (a ++ b)) L else .bad
  | .add, .ref n, .ref m => if n = 0 ∨ m = 0 then .bad else match getL L n, getL L m with
    | some a, some b => if a.length + b.length ≤ LIM then alloc (a ++ b) L else .bad
    | _, _ => .bad
  | .sub, .int i, .int j => .ok (.int (i - j)) L
  | .mul, .int i, .int j => if mulOk i j then .ok (.int (i * j)) L else .bad
  | .fdiv, .int i, .int j => if divOk i j then .ok (.int (i.fdiv j)) L else .bad
  | .mod, .int i, .int j => if j ≠ 0 then .ok (.int (i.fmod j)) L else .bad
  | .pow, .int i, .int j => if powOk i j then .ok (.int (i ^ j.toNat)) L else .bad
  | _, _, _ => .bad

def pyAll (f : D → Option PyData) : List D → Option (List PyData)
  | [] => some []
  | x :: xs => match f x, pyAll f xs with
    | some p, some ps => some (p :: ps)
    | _, _ => none
/-- a value as data, its lists as they stand -/
def pyOf (L : Hd) : Nat → D → Option PyData
  | 0, _ => none
  | _ + 1, .non => some .none
  | _ + 1, .bl b => some (.bool b)
  | _ + 1, .int i => some (.int i)
  | _ + 1, .str x => some (.str x)
  | n + 1, .tup xs => (pyAll (pyOf L n) xs).map PyData.tuple
  | n + 1, .ref r => match getL L r with
    | some xs => (pyAll (pyOf L n) xs).map PyData.list
    | none => none
  | _ + 1, _ => none
/-- how deep data may lie where it is compared -/
def DEEP : Nat := 12
def eqop (x y : D) (L : Hd) (f : Bool → Bool) : R D := match pyOf L DEEP x, pyOf L DEEP y with
  | some p, some q => if SeqAt.shaped p = true ∧ SeqAt.shaped q = true then .ok (.bl (f (PyData.eqv p q))) L else .bad
  | _, _ => .bad
def strsOf : List D → Option (List Str)
  | [] => some []
  | .str x :: xs => (strsOf xs).map (x :: ·)
  | _ :: _ => none
def cmpop (o : Cop) (x y : D) (L : Hd) : R D := match o, x, y with
  | .lt, .int i, .int j => .ok (.bl (decide (i < j))) L
  | .le, .int i, .int j => .ok (.bl (decide (i ≤ j))) L
  | .gt, .int i, .int j => .ok (.bl (decide (j < i))) L
  | .ge, .int i, .int j => .ok (.bl (decide (j ≤ i))) L
  | .eq, x, y => eqop x y L id
  | .ne, x, y => eqop x y L not
  | .in_, .str a, .str b => match a.cps.toList with
    | [c] => .ok (.bl (decide (c ∈ b.cps.toList))) L
    | _ => .bad
  | .nin, .str a, .str b => match a.cps.toList with
    | [c] => .ok (.bl (!decide (c ∈ b.cps.toList))) L
    | _ => .bad
  | .in_, .str a, .tup xs => match strsOf xs with
    | some ys => .ok (.bl (decide (a ∈ ys))) L
    | none => .bad
  | .nin, .str a, .tup xs => match strsOf xs with
    | some ys => .ok (.bl (!decide (a ∈ ys))) L
    | none => .bad
  | _, _, _ => .bad

/-! ### places, slices -/
def ixop (x i : D) (L : Hd) : R D := match x, i with
  | .tup xs, .int i => match L2.atI xs i with
    | some v => .ok v L
    | none => .bad
  | .ref n, .int i => match getL L n with
    | some xs => (match L2.atI xs i with
      | some v => .ok v L
      | none => .bad)
    | none => .bad
  | .str z, .int i => if z.length ≤ LIM then (match L2.atI z.cps.toList i with
    | some c => .ok (.str ⟨#[c]⟩) L
    | none => .bad) else .bad
  | _, _ => .bad
def cut {α : Type} (xs : List α) (lo hi : Option Int) : List α := (xs.drop (HT.sIx xs.length 0 lo)).take (HT.sIx xs.length xs.length hi - HT.sIx xs.length 0 lo)
def part : D → Option (Option Int)
  | .exc _ => some none
  | .int i => some (some i)
  | _ => none
/-- a slice of a value, its bounds known -/
def slop (x : D) (lo hi : Option Int) (L : Hd) : R D := match x with
  | .tup xs => .ok (.tup (cut xs lo hi)) L
  | .ref n => match getL L n with
    | some xs => alloc (cut xs lo hi) L
    | none => .bad
  | .str z => if z.length ≤ LIM then .ok (.str (L2.cutS z lo hi)) L else .bad
  | _ => .bad
def onPart (d : D) (f : Option Int → R D) : R D := match part d with
  | some o => f o
  | none => .bad

/-! ### built-in functions, methods -/
def intsOf : List D → Option (List Int)
  | [] => some []
  | .int x :: xs => (intsOf xs).map (x :: ·)
  | _ :: _ => none
def up (ns : List Int) : List Int := ns.mergeSort (fun a b => decide (a ≤ b))
def biop (b : Bi) (ds : List D) (L : Hd) : R D := match b, ds with
  | .abs, [.int i] => .ok (.int (if i < 0 then -i else i)) L
  | .len, [.tup xs] => .ok (.int xs.length) L
  | .len, [.ref n] => (match getL L n with
    | some xs => .ok (.int xs.length) L
    | none => .bad)
  | .len, [.str z] => if z.length ≤ LIM then .ok (.int z.length) L else .bad
  | .max, [.int i, .int j] => .ok (.int (if j > i then j else i)) L
  | .min, [.int i, .int j] => .ok (.int (if j < i then j else i)) L
  | .int, [.int i] => .ok (.int i) L
  | .int, [.bl k] => .ok (.int (if k then 1 else 0)) L
  | .int, [.str z] => (match intText? z with
    | some n => if z.length ≤ 640 then .ok (.int n) L else .bad
    | none => .bad)
  | .str, [.int i] => if i.natAbs.log2 < 1920 then .ok (.str (Str.ofString (toString i))) L else .bad
  | .list, [.tup xs] => alloc xs L
  | .list, [.ref n] => (match getL L n with
    | some xs => alloc xs L
    | none => .bad)
  | .tuple, [.tup xs] => .ok (.tup xs) L
  | .tuple, [.ref n] => (match getL L n with
    | some xs => .ok (.tup xs) L
    | none => .bad)
  | .sorted, [.ref n] => (match (getL L n).bind intsOf with
    | some ns => alloc ((up ns).map D.int) L
    | none => .bad)
  | .sortedR, [.ref n] => (match (getL L n).bind intsOf with
    | some ns => alloc ((up ns).reverse.map D.int) L
    | none => .bad)
  | _, _ => .bad
def tyop (x : D) (t : Ty) (L : Hd) : R D := match x with
  | .non => .ok (.bl false) L
  | .bl _ => .ok (.bl (t == .bool || t == .int)) L
  | .int _ => .ok (.bl (t == .int)) L
  | .str _ => .ok (.bl (t == .str)) L
  | .tup _ => .ok (.bl (t == .tuple)) L
  | .ref n => (match getL L n with
    | some _ => .ok (.bl (t == .list)) L
    | none => .bad)
  | _ => .bad
def popOk (i : Int) : Prop := -(2 ^ 63) ≤ i ∧ i < 2 ^ 63
noncomputable instance (i : Int) : Decidable (popOk i) := Classical.propDecidable _
noncomputable def meop (m : Me) (x : D) (ds : List D) (L : Hd) : R D := match m, x, ds with
  | .append, .ref n, [y] => if n = 0 then .bad else (match getL L n with
    | some xs => if xs.length < LIM then .ok .non (setL L n (xs ++ [y])) else .bad
    | none => .bad)
  | .pop, .ref n, [] => if n = 0 then .bad else (match getL L n with
    | some xs => (match xs[xs.length - 1]? with
      | some y => .ok y (setL L n xs.dropLast)
      | none => .bad)
    | none => .bad)
  | .popAt, .ref n, [.int i] => if n = 0 then .bad else (match getL L n with
    | some xs => (match L2.ixN xs.length i with
      | some k => (match xs[k]? with
        | some y => if popOk i then .ok y (setL L n (xs.eraseIdx k)) else .bad
        | none => .bad)
      | none => .bad)
    | none => .bad)
  | .clear, .ref n, [] => if n = 0 then .bad else (match getL L n with
    | some _ => .ok .non (setL L n [])
    | none => .bad)
  | .reverse, .ref n, [] => if n = 0 then .bad else (match getL L n with
    | some xs => .ok .non (setL L n xs.reverse)
    | none => .bad)
  | .insert, .ref n, [.int i, y] => if n = 0 then .bad else (match getL L n with
    | some xs => if 0 ≤ i ∧ i ≤ xs.length ∧ xs.length < LIM then .ok .non (setL L n (xs.take i.toNat ++ y :: xs.drop i.toNat)) else .bad
    | none => .bad)
  | _, _, _ => .bad
/-- the receiver's kind -/
def recv (m : Me) (x : D) : Bool := match m, x with
  | .append, .ref _ => true
  | .pop, .ref _ => true
  | .popAt, .ref _ => true
  | .clear, .ref _ => true
  | .reverse, .ref _ => true
  | .insert, .ref _ => true
  | .partition, .str _ => true
  | .replace, .str _ => true
  | .split, .str _ => true
  | .startswith, .str _ => true
  | .join, .str _ => true
  | _, _ => false
/-- the exception classes: all stand straight under CurveError -/
def isSub (a b : Str) : Bool := a == b || b == "CurveError" || b == "ValueError"

/-! ### what is walked -/
/-- the items of a walked thing, and the list that is watched -/
def items (d : D) (L : Hd) : Option (Option Nat × List D) := match d with
  | .tup xs => some (none, xs)
  | .ref n => (getL L n).map fun xs => (some n, xs)
  | .str z => some (none, z.cps.toList.map fun c => D.str ⟨#[c]⟩)
  | _ => none
def small (i : Int) : Prop := -(2 ^ 40) ≤ i ∧ i ≤ 2 ^ 40
noncomputable instance (i : Int) : Decidable (small i) := Classical.propDecidable _
/-- lo, lo + c, .. -/
def steps (lo c : Int) : Nat → List D
  | 0 => []
  | n + 1 => .int lo :: steps (lo + c) c n
def rngOk (i j c : Int) : Prop := c ≠ 0 ∧ c.natAbs < 1073741824 ∧ Builtin.Range.small i j c = true ∧ 0 ≤ Builtin.Range.rangeSize i j c
noncomputable instance (i j c : Int) : Decidable (rngOk i j c) := Classical.propDecidable _
noncomputable def rngop (ds : List D) (L : Hd) : R D := match ds with
  | [.int j] => if small j then .ok (.tup (steps 0 1 j.toNat)) L else .bad
  | [.int i, .int j] => if small i ∧ small j then .ok (.tup (steps i 1 (j - i).toNat)) L else .bad
  | [.int i, .int j, .int c] => if rngOk i j c then .ok (.tup (steps i c (Builtin.Range.rangeSize i j c).toNat)) L else .bad
  | _ => .bad
def revop (d : D) (L : Hd) : R D := match d with
  | .tup xs => .ok (.tup xs.reverse) L
  | _ => .bad
/-- the watched list stands as it did -/
def seen (w : Option Nat) (xs : List D) (L : Hd) : Prop := match w with
  | none => True
  | some n => getL L n = some xs

open Classical in
/-- a comprehension's turns -/
noncomputable def lcGo (c e : D → Hd → R D) (w : Option Nat) (all : List D) : List D → Hd → R (List D)
  | [], L => if seen w all L then .ok [] L else .bad
  | x :: xs, L => if seen w all L then (match c x L with
    | .ok (.bl true) L1 => (match e x L1 with
      | .ok y L2 => (match lcGo c e w all xs L2 with
        | .ok ys L3 => .ok (y :: ys) L3
        | _ => .bad)
      | _ => .bad)
    | .ok (.bl false) L1 => lcGo c e w all xs L1
    | _ => .bad) else .bad

/-! ### expressions -/
def callOn (Φ : Str → List D → Hd → R D) (f : Str) (d : D) (L : Hd) : R D := match d with
  | .tup ds => Φ f ds L
  | _ => .bad
def onBl (d : D) (t f : R D) : R D := match d with
  | .bl true => t
  | .bl false => f
  | _ => .bad
/-- a name's value -/
def getV (o : Option (Option D)) (L : Hd) : R D := match o with
  | some (some (.exc _)) => .bad
  | some (some d) => .ok d L
  | _ => .bad
noncomputable def evE (Φ : Str → List D → Hd → R D) : Ex → Env → Hd → R D
  | .bad, _, _ => .bad
  | .non, _, L => .ok .non L
  | .bl b, _, L => .ok (.bl b) L
  | .int i, _, L => .ok (.int i) L
  | .str x, _, L => .ok (.str x) L
  | .v i, ρ, L => getV ρ[i]? L
  | .k _ e, _, L => evE Φ e [] L
  | .f x, _, L => .ok (.fn x) L
  | .nil, _, L => .ok (.tup []) L
  | .absent, _, L => .ok (.exc ⟨#[]⟩) L
  | .cons a b, ρ, L => (evE Φ a ρ L).bind fun x L => (evE Φ b ρ L).bind fun y L => (match y with
    | .tup ys => .ok (.tup (x :: ys)) L
    | _ => .bad)
  | .tup a, ρ, L => (evE Φ a ρ L).bind fun x L => (match x with
    | .tup xs => if xs.length ≤ LIM then .ok (.tup xs) L else .bad
    | _ => .bad)
  | .lst a, ρ, L => (evE Φ a ρ L).bind fun x L => (match x with
    | .tup xs => alloc xs L
    | _ => .bad)
  | .bin o a b, ρ, L => (evE Φ a ρ L).bind fun x L => (evE Φ b ρ L).bind fun y L => binop o x y L
  | .neg a, ρ, L => (evE Φ a ρ L).bind fun x L => (match x with
    | .int i => .ok (.int (-i)) L
    | _ => .bad)
  | .not a, ρ, L => (evE Φ a ρ L).bind fun x L => onBl x (.ok (.bl false) L) (.ok (.bl true) L)
  | .and a b, ρ, L => (evE Φ a ρ L).bind fun x L => onBl x (evE Φ b ρ L) (.ok (.bl false) L)
  | .or a b, ρ, L => (evE Φ a ρ L).bind fun x L => onBl x (.ok (.bl true) L) (evE Φ b ρ L)
  | .cmp o a b, ρ, L => (evE Φ a ρ L).bind fun x L => (evE Φ b ρ L).bind fun y L => cmpop o x y L
  | .isn a, ρ, L => (evE Φ a ρ L).bind fun x L => .ok (.bl (match x with | .non => true | _ => false)) L
  | .notn a, ρ, L => (evE Φ a ρ L).bind fun x L => .ok (.bl (match x with | .non => false | _ => true)) L
  | .ix a i, ρ, L => (evE Φ a ρ L).bind fun x L => (evE Φ i ρ L).bind fun y L => ixop x y L
  | .sl a lo hi, ρ, L => (evE Φ a ρ L).bind fun x L => (evE Φ lo ρ L).bind fun l L => onPart l fun l => (evE Φ hi ρ L).bind fun u L => onPart u fun u => slop x l u L
  | .call f as, ρ, L => (evE Φ as ρ L).bind fun d L => callOn Φ f d L
  | .callv i as, ρ, L => (match ρ[i]? with
    | some (some (.fn f)) => (evE Φ as ρ L).bind fun d L => (match callOn Φ f d L with
      | .ok d L => .ok d L
      | _ => .bad)
    | _ => .bad)
  | .bi b as, ρ, L => (evE Φ as ρ L).bind fun d L => (match d with
    | .tup ds => biop b ds L
    | _ => .bad)
  | .isi a t, ρ, L => (evE Φ a ρ L).bind fun x L => tyop x t L
  | .ise i c, ρ, L => (match ρ[i]? with
    | some (some (.exc a)) => .ok (.bl (isSub a c)) L
    | _ => .bad)
  | .me m o as, ρ, L => (evE Φ o ρ L).bind fun x L => if recv m x = true then (evE Φ as ρ L).bind fun d L => (match d with
    | .tup ds => meop m x ds L
    | _ => .bad) else .bad
  | .lc s it c e, ρ, L => (evE Φ it ρ L).bind fun d L => (match items d L with
    | some (w, xs) => (lcGo (fun x L => evE Φ c (ρ.set s (some x)) L) (fun x L => evE Φ e (ρ.set s (some x)) L) w xs xs L).bind fun ys L => alloc ys L
    | none => .bad)
  | .rng as, ρ, L => (evE Φ as ρ L).bind fun d L => (match d with
    | .tup ds => rngop ds L
    | _ => .bad)
  | .rev a, ρ, L => (evE Φ a ρ L).bind fun d L => revop d L

/-! ### statements -/
inductive O where
  | nx (ρ : Env) (L : Hd) | rt (d : D) (L : Hd) | bk (ρ : Env) (L : Hd) | ct (ρ : Env) (L : Hd) | ex (c : Str) (ρ : Env) (L : Hd) | bad
def R.on {α : Type} (r : R α) (ρ : Env) (f : α → Hd → O) : O := match r with
  | .ok a L => f a L
  | .exc c L => .ex c ρ L
  | .bad => .bad
@[simp] theorem R.on_ok {α : Type} (a : α) (L : Hd) (ρ : Env) (f : α → Hd → O) : (R.ok a L).on ρ f = f a L := rfl
@[simp] theorem R.on_exc {α : Type} (c : Str) (L : Hd) (ρ : Env) (f : α → Hd → O) : (R.exc c L : R α).on ρ f = .ex c ρ L := rfl
@[simp] theorem R.on_bad {α : Type} (ρ : Env) (f : α → Hd → O) : (R.bad : R α).on ρ f = .bad := rfl
def O.then (o : O) (f : Env → Hd → O) : O := match o with
  | .nx ρ L => f ρ L
  | o => o
def ifB (d : D) (t f : O) : O := match d with
  | .bl true => t
  | .bl false => f
  | _ => .bad
/-- a loop's turn is over -/
def O.turn (o : O) (f : Env → Hd → O) : O := match o with
  | .nx ρ L => f ρ L
  | .ct ρ L => f ρ L
  | .bk ρ L => .nx ρ L
  | o => o
def whN (c : Env → Hd → R D) (b : Env → Hd → O) : Nat → Env → Hd → O
  | 0, _, _ => .bad
  | n + 1, ρ, L => (c ρ L).on ρ fun d L => ifB d ((b ρ L).turn fun ρ L => whN c b n ρ L) (.nx ρ L)
open Classical in
noncomputable def whL (c : Env → Hd → R D) (b : Env → Hd → O) (ρ : Env) (L : Hd) : O := if h : ∃ n, whN c b n ρ L ≠ .bad then whN c b (choose h) ρ L else .bad
open Classical in
noncomputable def forGo (b : Env → Hd → O) (s : Nat) (w : Option Nat) (all : List D) : List D → Env → Hd → O
  | [], ρ, L => if seen w all L then .nx ρ L else .bad
  | x :: xs, ρ, L => if seen w all L then (b (ρ.set s (some x)) L).turn fun ρ L => forGo b s w all xs ρ L else .bad
noncomputable def augop (o : Bop) (x : Int) (y : D) : Option Int := match o, y with
  | .add, .int y => some (x + y)
  | .sub, .int y => some (x - y)
  | _, _ => none
noncomputable def run (Φ : Str → List D → Hd → R D) : Sm → Env → Hd → O
  | .bad, _, _ => .bad
  | .pass, ρ, L => .nx ρ L
  | .seq a b, ρ, L => (run Φ a ρ L).then fun ρ L => run Φ b ρ L
  | .set i e, ρ, L => (evE Φ e ρ L).on ρ fun d L => .nx (ρ.set i (some d)) L
  | .setix a i e, ρ, L => (evE Φ e ρ L).on ρ fun y L => (evE Φ a ρ L).on ρ fun x L => (evE Φ i ρ L).on ρ fun k L => (match x, k with
    | .ref n, .int j => if n = 0 then .bad else (match getL L n with
      | some xs => (match L2.ixN xs.length j with
        | some p => .nx ρ (setL L n (xs.set p y))
        | none => .bad)
      | none => .bad)
    | _, _ => .bad)
  | .aug i o e, ρ, L => (match ρ[i]? with
    | some (some (.int x)) => (evE Φ e ρ L).on ρ fun y L => (match augop o x y with
      | some z => .nx (ρ.set i (some (.int z))) L
      | none => .bad)
    | _ => .bad)
  | .ex e, ρ, L => (evE Φ e ρ L).on ρ fun _ L => .nx ρ L
  | .ite c a b, ρ, L => (evE Φ c ρ L).on ρ fun d L => ifB d (run Φ a ρ L) (run Φ b ρ L)
  | .wh c b, ρ, L => whL (fun ρ L => evE Φ c ρ L) (fun ρ L => run Φ b ρ L) ρ L
  | .for_ s it b, ρ, L => (evE Φ it ρ L).on ρ fun d L => (match items d L with
    | some (w, xs) => forGo (fun ρ L => run Φ b ρ L) s w xs xs ρ L
    | none => .bad)
  | .ret e, ρ, L => (evE Φ e ρ L).on ρ fun d L => .rt d L
  | .retn, _, L => .rt .non L
  | .brk, ρ, L => .bk ρ L
  | .cnt, ρ, L => .ct ρ L
  | .raise c, ρ, L => .ex c ρ L
  | .try_ b c s h, ρ, L => (match run Φ b ρ L with
    | .ex c' ρ' L' => if isSub c' c = true then (match s with
      | none => (match run Φ h ρ' L' with
        | .ex _ _ _ => .bad
        | o => o)
      | some i => (match run Φ h (ρ'.set i (some (.exc c'))) L' with
        | .rt d L2 => .rt d L2
        | _ => .bad)) else .ex c' ρ' L'
    | o => o)
/-- a def's run -/
noncomputable def runF (Φ : Str → List D → Hd → R D) (fd : Fd) (ds : List D) (L : Hd) : R D :=
  if ds.length = fd.np then (match run Φ fd.body (ds.map some ++ List.replicate (fd.n - ds.length) none) L with
    | .nx _ L => .ok .non L
    | .rt d L => .ok d L
    | .ex c _ L => .exc c L
    | _ => .bad) else .bad
/-- a program's defs, run to a depth -/
noncomputable def runT (T : Str → Option Fd) : Nat → Str → List D → Hd → R D
  | 0, _, _, _ => .bad
  | k + 1, f, ds, L => match T f with
    | some fd => runF (runT T k) fd ds L
    | none => .bad
end MP

/-! What stands for a value of MP in the heap; operators by values. -/
namespace MP
open PySem PySem.Spec PyProof.Rows L2

section
variable (K : PySem.W.Frag) (fa : Str → Option Addr)
mutual
inductive RV (H : Hp) (α : List Addr) : D → V → Prop
  | non : RV H α .non .non
  | bl (b : Bool) : RV H α (.bl b) (.bl b)
  | int (i : Int) : RV H α (.int i) (.int i)
  | str (x : Str) : RV H α (.str x) (.str x)
  | tup {a : Addr} {ds : List D} {vs : List V} : SqT K H a vs → RVs H α ds vs → RV H α (.tup ds) (.ref a)
  | ref {n : Nat} {a : Addr} : α[n]? = some a → RV H α (.ref n) (.ref a)
  | fn {f : Str} {a : Addr} : fa f = some a → RV H α (.fn f) (.ref a)
inductive RVs (H : Hp) (α : List Addr) : List D → List V → Prop
  | nil : RVs H α [] []
  | cons {d : D} {v : V} {ds : List D} {vs : List V} : RV H α d v → RVs H α ds vs → RVs H α (d :: ds) (v :: vs)
end
def Frz (H : Hp) (a : Addr) (vs : List V) : Prop := (∃ o, H a = some (.frz o (.lst vs))) ∨
  ∃ (o : Obj) (its : Array Value) (n : Nat), K.lookup a = some o ∧ o.cls = .type "list" ∧ o.dict = none ∧ o.data = .seq its n ∧ its.size ≤ sizeLine ∧ Vals vs its.toList
/-- the lists: the script at place 0, the others may change -/
structure RHp (H : Hp) (α : List Addr) (L : Hd) : Prop where
  len : α.length = L.length
  ne : 0 < α.length
  nd : α.tail.Nodup
  zero : ∀ a xs, α[0]? = some a → L[0]? = some (.lst xs) → ∃ vs, RVs K fa H α xs vs ∧ Frz K H a vs
  lst : ∀ n a xs, α[n + 1]? = some a → L[n + 1]? = some (.lst xs) → ∃ vs, RVs K fa H α xs vs ∧ H a = some (.lst vs)
end
/-- from here to there: what stood stands, but the lists -/
structure Ext (H : Hp) (α : List Addr) (H' : Hp) (α' : List Addr) : Prop where
  app : ∃ β, α' = α ++ β ∧ ∀ b ∈ β, H b = none
  keep : ∀ b o, H b = some o → b ∉ α.tail → H' b = some o
  there : ∀ b, H' b = none → H b = none

theorem tail_app {α : Type} {l m : List α} (h : 0 < l.length) : (l ++ m).tail = l.tail ++ m := by
  cases l with
  | nil => simp at h
  | cons x r => rfl
theorem Ext.refl {H : Hp} {α : List Addr} : Ext H α H α := ⟨⟨[], by simp, fun _ h => by cases h⟩, fun _ _ h _ => h, fun _ h => h⟩
theorem Ext.trans {H H1 H2 : Hp} {α α1 α2 : List Addr} (hn : 0 < α.length) (e : Ext H α H1 α1) (f : Ext H1 α1 H2 α2) : Ext H α H2 α2 := by
  obtain ⟨β, rfl, h1⟩ := e.app
  obtain ⟨γ, rfl, h2⟩ := f.app
  refine ⟨⟨β ++ γ, by simp, fun b hb => ?_⟩, fun b o h hb => ?_, fun b h => e.there b (f.there b h)⟩
  · rcases List.mem_append.mp hb with hb | hb
    · exact h1 b hb
    · exact e.there b (h2 b hb)
  · refine f.keep b o (e.keep b o h hb) ?_
    rw [tail_app hn]
    intro hm
    rcases List.mem_append.mp hm with hm | hm
    · exact hb hm
    · rw [h1 b hm] at h
      cases h

section
variable {K : PySem.W.Frag} {fa : Str → Option Addr} {H H' : Hp} {α α' : List Addr} {L : Hd}
theorem RVs.length : ∀ {ds : List D} {vs : List V}, RVs K fa H α ds vs → ds.length = vs.length
  | _, _, .nil => rfl
  | _, _, .cons _ t => by
    rw [List.length_cons, List.length_cons, RVs.length t]
theorem RVs.get : ∀ {ds : List D} {vs : List V} {i : Nat} {d : D}, RVs K fa H α ds vs → ds[i]? = some d → ∃ v, vs[i]? = some v ∧ RV K fa H α d v
  | _, _, _, _, .nil, h => by simp at h
  | _, _, 0, _, .cons r _, h => by
    cases h
    exact ⟨_, rfl, r⟩
  | _, _, i + 1, _, .cons _ t, h => RVs.get (i := i) t h
theorem RVs.append : ∀ {ds es : List D} {vs us : List V}, RVs K fa H α ds vs → RVs K fa H α es us → RVs K fa H α (ds ++ es) (vs ++ us)
  | _, _, _, _, .nil, s => s
  | _, _, _, _, .cons r t, s => .cons r (RVs.append t s)
theorem RVs.take : ∀ {ds : List D} {vs : List V} (n : Nat), RVs K fa H α ds vs → RVs K fa H α (ds.take n) (vs.take n)
  | _, _, 0, _ => by simpa using RVs.nil
  | _, _, _ + 1, .nil => .nil
  | _, _, n + 1, .cons r t => .cons r (RVs.take n t)
theorem RVs.drop : ∀ {ds : List D} {vs : List V} (n : Nat), RVs K fa H α ds vs → RVs K fa H α (ds.drop n) (vs.drop n)
  | _, _, 0, r => r
  | _, _, _ + 1, .nil => .nil
  | _, _, n + 1, .cons _ t => RVs.drop n t
theorem RVs.set : ∀ {ds : List D} {vs : List V} {d : D} {v : V} (n : Nat), RVs K fa H α ds vs → RV K fa H α d v → RVs K fa H α (ds.set n d) (vs.set n v)
  | _, _, _, _, _, .nil, _ => .nil
  | _, _, _, _, 0, .cons _ t, r => .cons r t
  | _, _, _, _, n + 1, .cons q t, r => .cons q (RVs.set n t r)
theorem RVs.rev : ∀ {ds : List D} {vs : List V}, RVs K fa H α ds vs → RVs K fa H α ds.reverse vs.reverse
  | _, _, .nil => .nil
  | _, _, .cons r t => by
    rw [List.reverse_cons, List.reverse_cons]
    exact (RVs.rev t).append (.cons r .nil)
theorem RVs.erase : ∀ {ds : List D} {vs : List V} (n : Nat), RVs K fa H α ds vs → RVs K fa H α (ds.eraseIdx n) (vs.eraseIdx n)
  | _, _, _, .nil => .nil
  | _, _, 0, .cons _ t => t
  | _, _, n + 1, .cons q t => .cons q (RVs.erase n t)
theorem RVs.ints : ∀ {ds : List D} {vs : List V} {ns : List Int}, RVs K fa H α ds vs → intsOf ds = some ns → vs = ns.map V.int
  | _, _, _, .nil, h => by
    cases h
    rfl
  | _, _, ns, .cons (ds := ds) r t, h => by
    cases r with
    | int i =>
      cases q : intsOf ds with
      | none =>
        have h' : (intsOf ds).map (i :: ·) = some ns := h
        rw [q] at h'
        cases h'
      | some ms =>
        have h' : (intsOf ds).map (i :: ·) = some ns := h
        rw [q] at h'
        cases h'
        rw [RVs.ints t q]
        rfl
    | _ => cases h
theorem RVs.ofInts : ∀ (ns : List Int), RVs K fa H α (ns.map D.int) (ns.map V.int)
  | [] => .nil
  | i :: ns => .cons (.int i) (RVs.ofInts ns)

theorem Frz.seq {a : Addr} {vs : List V} (h : Frz K H a vs) : SqL K H a vs := by
  rcases h with ⟨o, h⟩ | h
  · exact .inl (.inr ⟨o, h⟩)
  · exact .inr h
theorem RHp.tl (h : RHp K fa H α L) : ∀ b ∈ α.tail, ∃ vs, H b = some (.lst vs) := fun b hb => by
  obtain ⟨i, hi⟩ := List.mem_iff_getElem?.mp hb
  have hi' : α[i + 1]? = some b := by
    rw [← hi]
    cases α <;> simp
  have hl : i + 1 < α.length := by
    obtain ⟨q, _⟩ := List.getElem?_eq_some_iff.mp hi'
    exact q
  rw [h.len] at hl
  cases q : L[i + 1] with
  | lst xs =>
    obtain ⟨vs, _, e⟩ := h.lst i b xs hi' (by rw [List.getElem?_eq_getElem hl, q])
    exact ⟨vs, e⟩
theorem RHp.seq (h : RHp K fa H α L) {n : Nat} {a : Addr} {xs : List D} (ha : α[n]? = some a) (hx : getL L n = some xs) : ∃ vs, RVs K fa H α xs vs ∧ SqL K H a vs := by
  have hx' : L[n]? = some (.lst xs) := by
    unfold getL at hx
    cases q : L[n]? with
    | none =>
      rw [q] at hx
      cases hx
    | some c =>
      cases c with
      | lst ys =>
        rw [q] at hx
        cases hx
        rfl
  cases n with
  | zero =>
    obtain ⟨vs, r, f⟩ := h.zero a xs ha hx'
    exact ⟨vs, r, f.seq⟩
  | succ n =>
    obtain ⟨vs, r, f⟩ := h.lst n a xs ha hx'
    exact ⟨vs, r, SqL.of f⟩
theorem RHp.mut (h : RHp K fa H α L) {n : Nat} {a : Addr} {xs : List D} (hn : n ≠ 0) (ha : α[n]? = some a) (hx : getL L n = some xs) : ∃ vs, RVs K fa H α xs vs ∧ H a = some (.lst vs) := by
  cases n with
  | zero => exact absurd rfl hn
  | succ n =>
    have hx' : L[n + 1]? = some (.lst xs) := by
      unfold getL at hx
      cases q : L[n + 1]? with
      | none =>
        rw [q] at hx
        cases hx
      | some c =>
        cases c with
        | lst ys =>
          rw [q] at hx
          cases hx
          rfl
    exact h.lst n a xs ha hx'
theorem RHp.has (h : RHp K fa H α L) {n : Nat} {xs : List D} (hx : getL L n = some xs) : ∃ a, α[n]? = some a := by
  have : n < L.length := by
    unfold getL at hx
    cases q : L[n]? with
    | none =>
      rw [q] at hx
      cases hx
    | some c =>
      obtain ⟨h1, _⟩ := List.getElem?_eq_some_iff.mp q
      exact h1
  rw [← h.len] at this
  exact ⟨_, List.getElem?_eq_getElem this⟩

/-! ### from here to there -/
theorem sqtExt {a : Addr} {vs : List V} (h : SqT K H a vs) (e : Ext H α H' α') (ht : ∀ b ∈ α.tail, ∃ vs, H b = some (.lst vs)) : SqT K H' a vs := by
  have no : ∀ o, H a = some o → (∀ vs, o ≠ .lst vs) → H' a = some o := fun o ho hd => e.keep a o ho fun hm => by
    obtain ⟨us, z⟩ := ht a hm
    rw [ho] at z
    cases z
    exact hd us rfl
  rcases h with (h | ⟨o, h⟩) | h
  · exact .inl (.inl (no _ h fun _ z => nomatch z))
  · exact .inl (.inr ⟨o, no _ h fun _ z => nomatch z⟩)
  · exact .inr h
mutual
theorem RV.ext (e : Ext H α H' α') (ht : ∀ b ∈ α.tail, ∃ vs, H b = some (.lst vs)) : ∀ {d : D} {v : V}, RV K fa H α d v → RV K fa H' α' d v
  | _, _, .non => .non
  | _, _, .bl b => .bl b
  | _, _, .int i => .int i
  | _, _, .str x => .str x
  | _, _, .tup h r => .tup (sqtExt h e ht) (RVs.ext e ht r)
  | _, _, .ref h => by
    obtain ⟨β, rfl, _⟩ := e.app
    refine .ref ?_
    rw [List.getElem?_append_left (List.getElem?_eq_some_iff.mp h).1]
    exact h
  | _, _, .fn h => .fn h
theorem RVs.ext (e : Ext H α H' α') (ht : ∀ b ∈ α.tail, ∃ vs, H b = some (.lst vs)) : ∀ {ds : List D} {vs : List V}, RVs K fa H α ds vs → RVs K fa H' α' ds vs
  | _, _, .nil => .nil
  | _, _, .cons r t => .cons (RV.ext e ht r) (RVs.ext e ht t)
end
theorem Frz.ext {a : Addr} {vs : List V} (h : Frz K H a vs) (e : Ext H α H' α') (ht : ∀ b ∈ α.tail, ∃ vs, H b = some (.lst vs)) : Frz K H' a vs := by
  rcases h with ⟨o, h⟩ | h
  · refine .inl ⟨o, e.keep a _ h fun hm => ?_⟩
    obtain ⟨us, z⟩ := ht a hm
    rw [h] at z
    cases z
  · exact .inr h
/-- a new thing that is no list of ours -/
theorem Ext.new {p : Addr} {o : HO} (hp : H p = none) : Ext H α (upd H p o) α := by
  refine ⟨⟨[], by simp, fun _ h => by cases h⟩, fun b u h _ => ?_, fun b h => ?_⟩
  · rw [upd_ne (ne_of_none h hp)]
    exact h
  · by_cases e : b = p
    · subst e
      exact hp
    · rw [upd_ne e] at h
      exact h
theorem RHp.new {p : Addr} {o : HO} (h : RHp K fa H α L) (hp : H p = none) : RHp K fa (upd H p o) α L := by
  have e : Ext H α (upd H p o) α := Ext.new hp
  refine ⟨h.len, h.ne, h.nd, fun a xs h1 h2 => ?_, fun n a xs h1 h2 => ?_⟩
  · obtain ⟨vs, r, f⟩ := h.zero a xs h1 h2
    exact ⟨vs, r.ext e h.tl, f.ext e h.tl⟩
  · obtain ⟨vs, r, f⟩ := h.lst n a xs h1 h2
    refine ⟨vs, r.ext e h.tl, ?_⟩
    rw [upd_ne (ne_of_none f hp)]
    exact f
/-- a new list -/
theorem Ext.alloc {p : Addr} {o : HO} (hp : H p = none) : Ext H α (upd H p o) (α ++ [p]) := by
  refine ⟨⟨[p], rfl, fun b hb => ?_⟩, fun b u h _ => ?_, fun b h => ?_⟩
  · have : b = p := by simpa using hb
    subst this
    exact hp
  · rw [upd_ne (ne_of_none h hp)]
    exact h
  · by_cases e : b = p
    · subst e
      exact hp
    · rw [upd_ne e] at h
      exact h
theorem RHp.alloc {p : Addr} {xs : List D} {vs : List V} (h : RHp K fa H α L) (hp : H p = none) (r : RVs K fa H α xs vs) : RHp K fa (upd H p (.lst vs)) (α ++ [p]) (L ++ [.lst xs]) := by
  have e : Ext H α (upd H p (.lst vs)) (α ++ [p]) := Ext.alloc hp
  refine ⟨by simp [h.len], by simp, ?_, fun a ys h1 h2 => ?_, fun n a ys h1 h2 => ?_⟩
  · rw [tail_app h.ne, List.nodup_append]
    refine ⟨h.nd, by simp, fun a ha b hb => ?_⟩
    have : b = p := by simpa using hb
    subst this
    intro q
    subst q
    obtain ⟨us, z⟩ := h.tl _ ha
    rw [hp] at z
    cases z
  · have hl : 0 < L.length := by rw [← h.len]; exact h.ne
    rw [List.getElem?_append_left h.ne] at h1
    rw [List.getElem?_append_left hl] at h2
    obtain ⟨us, r, f⟩ := h.zero a ys h1 h2
    exact ⟨us, r.ext e h.tl, f.ext e h.tl⟩
  · by_cases hn : n + 1 < α.length
    · rw [List.getElem?_append_left hn] at h1
      rw [List.getElem?_append_left (by rw [← h.len]; exact hn)] at h2
      obtain ⟨us, r, f⟩ := h.lst n a ys h1 h2
      refine ⟨us, r.ext e h.tl, ?_⟩
      rw [upd_ne (ne_of_none f hp)]
      exact f
    · have hm : n + 1 = α.length := by
        obtain ⟨q, _⟩ := List.getElem?_eq_some_iff.mp h1
        simp at q
        omega
      rw [hm, List.getElem?_append_right (Nat.le_refl _)] at h1
      rw [hm, h.len, List.getElem?_append_right (Nat.le_refl _)] at h2
      simp at h1 h2
      subst h1 h2
      exact ⟨vs, r.ext e h.tl, upd_same⟩
/-- a list changed -/
theorem Ext.set {a : Addr} {o : HO} (ha : a ∈ α.tail) (hx : ∃ u, H a = some u) : Ext H α (upd H a o) α := by
  refine ⟨⟨[], by simp, fun _ h => by cases h⟩, fun b u h hb => ?_, fun b h => ?_⟩
  · rw [upd_ne (fun e => hb (by rw [e]; exact ha))]
    exact h
  · by_cases e : b = a
    · subst e
      rw [upd_same] at h
      cases h
    · rw [upd_ne e] at h
      exact h
theorem mem_tail {n : Nat} {a : Addr} (h : α[n + 1]? = some a) : a ∈ α.tail := by
  cases α with
  | nil => simp at h
  | cons x r => exact List.mem_of_getElem? (i := n) (by simpa using h)
theorem RHp.set {n : Nat} {a : Addr} {xs : List D} {vs : List V} (h : RHp K fa H α L) (hn : n ≠ 0) (ha : α[n]? = some a) (r : RVs K fa H α xs vs) : RHp K fa (upd H a (.lst vs)) α (setL L n xs) ∧ Ext H α (upd H a (.lst vs)) α := by
  cases n with
  | zero => exact absurd rfl hn
  | succ n =>
    have hm := mem_tail ha
    have e : Ext H α (upd H a (.lst vs)) α := Ext.set hm (let ⟨us, z⟩ := h.tl a hm; ⟨_, z⟩)
    refine ⟨⟨by simp [h.len, setL], h.ne, h.nd, fun b ys h1 h2 => ?_, fun m b ys h1 h2 => ?_⟩, e⟩
    · have h2' : L[0]? = some (.lst ys) := by
        rw [← h2]
        unfold setL
        rw [List.getElem?_set_ne (by omega)]
      obtain ⟨us, r, f⟩ := h.zero b ys h1 h2'
      exact ⟨us, r.ext e h.tl, f.ext e h.tl⟩
    · by_cases hmn : m = n
      · subst hmn
        rw [ha] at h1
        cases h1
        have hl : m + 1 < L.length := by
          rw [← h.len]
          exact (List.getElem?_eq_some_iff.mp ha).1
        unfold setL at h2
        rw [List.getElem?_set_self hl] at h2
        cases h2
        exact ⟨vs, r.ext e h.tl, upd_same⟩
      · have h2' : L[m + 1]? = some (.lst ys) := by
          rw [← h2]
          unfold setL
          rw [List.getElem?_set_ne (by omega)]
        obtain ⟨us, r, f⟩ := h.lst m b ys h1 h2'
        refine ⟨us, r.ext e h.tl, ?_⟩
        have hba : b ≠ a := by
          intro q
          subst q
          have t1 : α.tail[m]? = some b := by
            rw [← h1]
            cases α <;> simp
          have t2 : α.tail[n]? = some b := by
            rw [← ha]
            cases α <;> simp
          exact hmn (nd_ix h.nd t1 t2)
        rw [upd_ne hba]
        exact f
end

/-! ### what is wanted behind a value -/
section
variable (K : PySem.W.Frag) (fa ca : Str → Option Addr)
/-- of a run that raises nothing -/
def PostV (r : R D) (H : Hp) (α : List Addr) (Q : VK) : Prop := match r with
  | .ok d L => ∀ v H' α', Ext H α H' α' → RHp K fa H' α' L → RV K fa H' α' d v → Q v H'
  | _ => False
def Post (W : WX) (σ : L2.St) (r : R D) (H : Hp) (α : List Addr) (Q : VK) : Prop := match r with
  | .ok d L => ∀ v H' α', Ext H α H' α' → RHp K fa H' α' L → RV K fa H' α' d v → Q v H'
  | .exc c L => ∀ C H' α', ca c = some C → Ext H α H' α' → RHp K fa H' α' L → W (.ref C) none σ H'
  | .bad => False
/-- of a test -/
def PostT (W : WX) (σ : L2.St) (r : R D) (H : Hp) (α : List Addr) (Q : Bool → Hp → Prop) : Prop := match r with
  | .ok d L => ∃ b, d = .bl b ∧ ∀ H' α', Ext H α H' α' → RHp K fa H' α' L → Q b H'
  | .exc c L => ∀ C H' α', ca c = some C → Ext H α H' α' → RHp K fa H' α' L → W (.ref C) none σ H'
  | .bad => False
/-- of an argument list -/
def PostA (W : WX) (σ : L2.St) (r : R D) (H : Hp) (α : List Addr) (Q : List V → Hp → Prop) : Prop := match r with
  | .ok d L => ∃ ds, d = .tup ds ∧ ∀ vs H' α', Ext H α H' α' → RHp K fa H' α' L → RVs K fa H' α' ds vs → Q vs H'
  | .exc c L => ∀ C H' α', ca c = some C → Ext H α H' α' → RHp K fa H' α' L → W (.ref C) none σ H'
  | .bad => False
/-- the names -/
def REnv (η : Option (Addr × Str)) (H : Hp) (α : List Addr) (ρ : Env) (σ : L2.St) : Prop :=
  ρ.length = σ.length ∧ (∀ (i : Nat) (d : D), ρ[i]? = some (some d) → (∀ c, d ≠ D.exc c) → ∃ v : V, σ[i]? = some (some v) ∧ RV K fa H α d v) ∧
    ∀ (i : Nat) (c : Str), ρ[i]? = some (some (D.exc c)) → ∃ a : Addr, η = some (a, c) ∧ σ[i]? = some (some (V.ref a))
def semE (W : WX) (η : Option (Addr × Str)) (ev : Env → Hd → R D) : TE := fun σ H Q => ∃ ρ L α, REnv K fa η H α ρ σ ∧ RHp K fa H α L ∧ Post K fa ca W σ (ev ρ L) H α Q
def semT (W : WX) (η : Option (Addr × Str)) (ev : Env → Hd → R D) : TT := fun σ H Q => ∃ ρ L α, REnv K fa η H α ρ σ ∧ RHp K fa H α L ∧ PostT K fa ca W σ (ev ρ L) H α Q
def semA (W : WX) (η : Option (Addr × Str)) (ev : Env → Hd → R D) : TA := fun σ H Q => ∃ ρ L α, REnv K fa η H α ρ σ ∧ RHp K fa H α L ∧ PostA K fa ca W σ (ev ρ L) H α Q
end
section
variable {K : PySem.W.Frag} {fa ca : Str → Option Addr} {H H' : Hp} {α α' : List Addr} {L : Hd} {ρ : Env} {σ : L2.St} {η : Option (Addr × Str)} {W : WX}
theorem REnv.ext (h : REnv K fa η H α ρ σ) (e : Ext H α H' α') (p : RHp K fa H α L) : REnv K fa η H' α' ρ σ := by
  refine ⟨h.1, fun i d h1 h2 => ?_, h.2.2⟩
  obtain ⟨v, h3, r⟩ := h.2.1 i d h1 h2
  exact ⟨v, h3, r.ext e p.tl⟩
theorem RV.noExc {d : D} {v : V} (r : RV K fa H α d v) : ∀ c, d ≠ .exc c := fun c e => by
  subst e
  cases r
theorem REnv.set {i : Nat} {d : D} {v : V} (h : REnv K fa η H α ρ σ) (r : RV K fa H α d v) : REnv K fa η H α (ρ.set i (some d)) (σ.set i (some v)) := by
  refine ⟨by simp [h.1], fun j e h1 h2 => ?_, fun j c h1 => ?_⟩
  · by_cases hj : i = j
    · subst hj
      by_cases hl : i < ρ.length
      · rw [List.getElem?_set_self hl] at h1
        cases h1
        exact ⟨v, List.getElem?_set_self (by rw [← h.1]; exact hl), r⟩
      · rw [List.getElem?_eq_none (by simpa using hl)] at h1
        cases h1
    · rw [List.getElem?_set_ne hj] at h1 ⊢
      exact h.2.1 j e h1 h2
  · by_cases hj : i = j
    · subst hj
      by_cases hl : i < ρ.length
      · rw [List.getElem?_set_self hl] at h1
        cases h1
        exact absurd rfl (r.noExc c)
      · rw [List.getElem?_eq_none (by simpa using hl)] at h1
        cases h1
    · rw [List.getElem?_set_ne hj] at h1 ⊢
      exact h.2.2 j c h1
theorem REnv.unset {i : Nat} (h : REnv K fa η H α ρ σ) : REnv K fa η H α (ρ.set i none) (σ.set i none) := by
  refine ⟨by simp [h.1], fun j e h1 h2 => ?_, fun j c h1 => ?_⟩
  · by_cases hj : i = j
    · subst hj
      by_cases hl : i < ρ.length
      · rw [List.getElem?_set_self hl] at h1
        cases h1
      · rw [List.getElem?_eq_none (by simpa using hl)] at h1
        cases h1
    · rw [List.getElem?_set_ne hj] at h1 ⊢
      exact h.2.1 j e h1 h2
  · by_cases hj : i = j
    · subst hj
      by_cases hl : i < ρ.length
      · rw [List.getElem?_set_self hl] at h1
        cases h1
      · rw [List.getElem?_eq_none (by simpa using hl)] at h1
        cases h1
    · rw [List.getElem?_set_ne hj] at h1 ⊢
      exact h.2.2 j c h1
/-- from a later point -/
theorem Post.from {r : R D} {Q : VK} (hn : 0 < α.length) (e : Ext H α H' α') (h : Post K fa ca W σ r H α Q) : Post K fa ca W σ r H' α' Q := by
  cases r with
  | ok d L => exact fun v H2 α2 e2 => h v H2 α2 (e.trans hn e2)
  | exc c L => exact fun C H2 α2 hc e2 => h C H2 α2 hc (e.trans hn e2)
  | bad => exact h
theorem PostV.from {r : R D} {Q : VK} (hn : 0 < α.length) (e : Ext H α H' α') (h : PostV K fa r H α Q) : PostV K fa r H' α' Q := by
  cases r with
  | ok d L => exact fun v H2 α2 e2 => h v H2 α2 (e.trans hn e2)
  | exc c L => exact h
  | bad => exact h
theorem PostT.from {r : R D} {Q : Bool → Hp → Prop} (hn : 0 < α.length) (e : Ext H α H' α') (h : PostT K fa ca W σ r H α Q) : PostT K fa ca W σ r H' α' Q := by
  cases r with
  | ok d L =>
    obtain ⟨b, hb, h⟩ := h
    exact ⟨b, hb, fun H2 α2 e2 => h H2 α2 (e.trans hn e2)⟩
  | exc c L => exact fun C H2 α2 hc e2 => h C H2 α2 hc (e.trans hn e2)
  | bad => exact h
theorem PostA.from {r : R D} {Q : List V → Hp → Prop} (hn : 0 < α.length) (e : Ext H α H' α') (h : PostA K fa ca W σ r H α Q) : PostA K fa ca W σ r H' α' Q := by
  cases r with
  | ok d L =>
    obtain ⟨b, hb, h⟩ := h
    exact ⟨b, hb, fun vs H2 α2 e2 => h vs H2 α2 (e.trans hn e2)⟩
  | exc c L => exact fun C H2 α2 hc e2 => h C H2 α2 hc (e.trans hn e2)
  | bad => exact h
/-- a run that raises nothing -/
def Calm (r : R D) : Prop := ∀ c L, r ≠ .exc c L
theorem Post.v {r : R D} {Q : VK} (c : Calm r) (h : Post K fa ca W σ r H α Q) : PostV K fa r H α Q := by
  cases r with
  | ok d L => exact h
  | exc x L => exact absurd rfl (c x L)
  | bad => exact h
/-- what comes first -/
theorem Post.first {r : R D} {f : D → Hd → R D} {Q Q' : VK} (hn : 0 < α.length) (h : Post K fa ca W σ (r.bind f) H α Q)
    (k : ∀ d L v H' α', r = .ok d L → Ext H α H' α' → RHp K fa H' α' L → RV K fa H' α' d v → Post K fa ca W σ (f d L) H' α' Q → Q' v H') : Post K fa ca W σ r H α Q' := by
  cases r with
  | ok d L => exact fun v H' α' e p rv => k d L v H' α' rfl e p rv (Post.from hn e h)
  | exc c L => exact h
  | bad => exact h
end

/-- r2 of the sem -/
def rSem2 (K : PySem.W.Frag) (fa : Str → Option Addr) (h : D → D → Hd → R D) : R2 := fun x y H Q => ∃ d e L α, RHp K fa H α L ∧ RV K fa H α d x ∧ RV K fa H α e y ∧ PostV K fa (h d e L) H α Q
def rSem1 (K : PySem.W.Frag) (fa : Str → Option Addr) (h : D → Hd → R D) : V → Hp → VK → Prop := fun x H Q => ∃ d L α, RHp K fa H α L ∧ RV K fa H α d x ∧ PostV K fa (h d L) H α Q
def rSemL (K : PySem.W.Frag) (fa : Str → Option Addr) (h : List D → Hd → R D) : List V → Hp → VK → Prop := fun xs H Q => ∃ ds L α, RHp K fa H α L ∧ RVs K fa H α ds xs ∧ PostV K fa (h ds L) H α Q
def rSemM (K : PySem.W.Frag) (fa : Str → Option Addr) (h : D → List D → Hd → R D) : V → List V → Hp → VK → Prop := fun x xs H Q => ∃ d ds L α, RHp K fa H α L ∧ RV K fa H α d x ∧ RVs K fa H α ds xs ∧ PostV K fa (h d ds L) H α Q
section
variable {K : PySem.W.Frag} {fa ca : Str → Option Addr} {H : Hp} {σ : L2.St} {η : Option (Addr × Str)} {W : WX} {Q : VK} {f g : Env → Hd → R D}
theorem sem2 {h : D → D → Hd → R D} (c : ∀ x y L, Calm (h x y L)) (q : semE K fa ca W η (fun ρ L => (f ρ L).bind fun x L => (g ρ L).bind fun y L => h x y L) σ H Q) :
    tOp (rSem2 K fa h) (semE K fa ca W η f) (semE K fa ca W η g) σ H Q := by
  obtain ⟨ρ, L, α, re, rp, q⟩ := q
  refine ⟨ρ, L, α, re, rp, q.first rp.ne fun d L1 v H1 α1 e0 e1 p1 r1 q1 => ?_⟩
  refine ⟨ρ, L1, α1, re.ext e1 rp, p1, q1.first p1.ne fun d2 L2 v2 H2 α2 e0 e2 p2 r2 q2 => ?_⟩
  exact ⟨d, d2, L2, α2, p2, r1.ext e2 p1.tl, r2, q2.v (c _ _ _)⟩
theorem sem1 {h : D → Hd → R D} (c : ∀ x L, Calm (h x L)) (q : semE K fa ca W η (fun ρ L => (f ρ L).bind fun x L => h x L) σ H Q) :
    tUn (rSem1 K fa h) (semE K fa ca W η f) σ H Q := by
  obtain ⟨ρ, L, α, re, rp, q⟩ := q
  refine ⟨ρ, L, α, re, rp, q.first rp.ne fun d L1 v H1 α1 e0 e1 p1 r1 q1 => ?_⟩
  exact ⟨d, L1, α1, p1, r1, q1.v (c _ _)⟩
end
section
variable {X : Cx} {e : Expr}
theorem peImp {t u : TE} (h : PE X e t) (i : ∀ σ H Q, u σ H Q → t σ H Q) : PE X e u := ⟨fun pins s σ H Q I q => h.run pins s σ H Q I (i σ H Q q)⟩
theorem ptImp {t u : TT} (h : PT X e t) (i : ∀ σ H Q, u σ H Q → t σ H Q) : PT X e u := ⟨fun pins s σ H Q I q => h.run pins s σ H Q I (i σ H Q q)⟩
theorem pwImp {t u : TT} (h : PW X e t) (i : ∀ σ H Q, u σ H Q → t σ H Q) : PW X e u := ⟨fun wh pins s σ H Q I q => h.run wh pins s σ H Q I (i σ H Q q)⟩
theorem paImp {es : List Expr} {t u : TA} (h : PA X es t) (i : ∀ σ H Q, u σ H Q → t σ H Q) : PA X es u := ⟨fun pos pins s σ H Q I q => h.run pos pins s σ H Q I (i σ H Q q)⟩
end
end MP

/-! Operators of MP by values, over the hand layer's rules. -/
namespace MP
open PySem PySem.Spec PyProof.Rows L2

theorem limLe {n : Nat} (h : n ≤ LIM) : n ≤ sizeLine := by
  rw [sizeLine_eq]
  unfold LIM at h
  omega
theorem limLt {n : Nat} (h : n < LIM) : n < sizeLine := by
  rw [sizeLine_eq]
  unfold LIM at h
  omega
section
variable {X : Cx} {fa : Str → Option Addr}
theorem op_mulA : OpR X (binaryOp .Mult) (rI mulOk fun i j => .int (i * j)) := opI fun i j _ _ _ _ _ hc q => mul_int q (by
  rcases hc with h | h | h
  · exact CMul.ok (.inl h)
  · exact CMul.ok (.inr h)
  · exact CMulW.ok h)
theorem op_fdivA : OpR X (binaryOp .FloorDiv) (rI divOk fun i j => .int (i.fdiv j)) := opI fun _ _ _ _ _ _ _ hc q => floordiv_int hc.1 q (.inl hc.2)

def toOp : Bop → Operator
  | .add => .Add
  | .sub => .Sub
  | .mul => .Mult
  | .fdiv => .FloorDiv
  | .mod => .Mod
  | .pow => .Pow
theorem binop_calm (o : Bop) (x y : D) (L : Hd) : Calm (binop o x y L) := fun c L' e => by
  unfold binop alloc at e
  repeat' split at e
  all_goals cases e
theorem alloc_calm (xs : List D) (L : Hd) : Calm (alloc xs L) := fun c L' e => by
  unfold alloc at e
  repeat' split at e
  all_goals cases e
/-- a new list, told -/
theorem alloc_post {K : PySem.W.Frag} {H : Hp} {α : List Addr} {L : Hd} {xs : List D} {vs : List V} {Q : VK} (p : RHp K fa H α L) (r : RVs K fa H α xs vs) (q : PostV K fa (alloc xs L) H α Q) :
    ∀ l, H l = none → Q (.ref l) (upd H l (.lst vs)) := fun l hl => by
  unfold alloc at q
  split at q
  · refine q _ _ _ (Ext.alloc hl) (p.alloc hl r) (.ref ?_)
    rw [← p.len, List.getElem?_append_right (Nat.le_refl _)]
    simp
  · exact q.elim
theorem alloc_lim {K : PySem.W.Frag} {H : Hp} {α : List Addr} {L : Hd} {xs : List D} {Q : VK} (q : PostV K fa (alloc xs L) H α Q) : xs.length ≤ LIM := by
  unfold alloc at q
  split at q
  · assumption
  · exact q.elim

theorem op_bin (o : Bop) : OpR X (binaryOp (toOp o)) (rSem2 X.K fa (binop o)) := by
  intro pins s σ H x y v u Q I rx ry h
  obtain ⟨d, e, L, α, p, r1, r2, q⟩ := h
  have fin : ∀ {c : D} {z : V}, PostV X.K fa (.ok c L) H α Q → (∀ {H' α'}, RV X.K fa H' α' c z) → Q z H := fun q r => q _ _ _ Ext.refl p r
  unfold binop at q
  split at q
  · cases r1; cases r2
    exact op_add pins s σ H _ _ v u Q I rx ry ⟨_, _, rfl, rfl, fin q (.int _)⟩
  · cases r1; cases r2
    split at q
    · exact op_add_str pins s σ H _ _ v u Q I rx ry ⟨_, _, rfl, rfl, limLe (by assumption), fin q (.str _)⟩
    · exact q.elim
  · cases r1 with
    | tup h1 r1 =>
      cases r2 with
      | tup h2 r2 =>
        split at q
        · rename_i hz
          rw [r1.length, r2.length] at hz
          refine op_catA pins s σ H _ _ v u Q I rx ry ⟨_, _, _, _, rfl, rfl, h1, h2, limLe hz, fun e1 => ?_, fun _ e2 => ?_, fun _ _ t ht => ?_⟩
          · subst e1
            cases r1
            exact q _ _ _ Ext.refl p (.tup h2 r2)
          · subst e2
            cases r2
            rw [List.append_nil] at q
            exact q _ _ _ Ext.refl p (.tup h1 r1)
          · exact q _ _ _ (Ext.new ht) (p.new ht) (.tup (SqT.of upd_same) ((r1.append r2).ext (Ext.new ht) p.tl))
        · exact q.elim
  · rename_i n m
    cases r1 with
    | ref h1 =>
      cases r2 with
      | ref h2 =>
        split at q
        · exact q.elim
        · rename_i hz
          have hz1 : n ≠ 0 := fun e => hz (.inl e)
          have hz2 : m ≠ 0 := fun e => hz (.inr e)
          split at q
          · rename_i a b ha hb
            split at q
            · rename_i hl
              obtain ⟨us, s1, f1⟩ := p.mut hz1 h1 ha
              obtain ⟨ws, s2, f2⟩ := p.mut hz2 h2 hb
              rw [s1.length, s2.length] at hl
              exact op_cat pins s σ H _ _ v u Q I rx ry ⟨_, _, _, _, rfl, rfl, f1, f2, limLe hl, alloc_post p (s1.append s2) q⟩
            · exact q.elim
          · exact q.elim
  · cases r1; cases r2
    exact op_sub pins s σ H _ _ v u Q I rx ry ⟨_, _, rfl, rfl, fin q (.int _)⟩
  · cases r1; cases r2
    split at q
    · exact op_mulA pins s σ H _ _ v u Q I rx ry ⟨_, _, rfl, rfl, by assumption, fin q (.int _)⟩
    · exact q.elim
  · cases r1; cases r2
    split at q
    · exact op_fdivA pins s σ H _ _ v u Q I rx ry ⟨_, _, rfl, rfl, by assumption, fin q (.int _)⟩
    · exact q.elim
  · cases r1; cases r2
    split at q
    · exact op_modN pins s σ H _ _ v u Q I rx ry ⟨_, _, rfl, rfl, by assumption, fin q (.int _)⟩
    · exact q.elim
  · cases r1; cases r2
    split at q
    · exact op_pow pins s σ H _ _ v u Q I rx ry ⟨_, _, rfl, rfl, by assumption, fin q (.int _)⟩
    · exact q.elim
  · exact q.elim

/-! ### comparisons -/
theorem pyAll_dp {K : PySem.W.Frag} {H : Hp} {α : List Addr} {f : D → Option PyData} (hf : ∀ d v p, f d = some p → RV K fa H α d v → Dp K H v p) : ∀ {ds : List D} {vs : List V} {ps : List PyData}, pyAll f ds = some ps → RVs K fa H α ds vs → DpAll K H vs ps
  | [], _, ps, h, .nil => by
    cases h
    exact .nil
  | d :: ds, _, ps, h, .cons r t => by
    unfold pyAll at h
    split at h
    · rename_i p ps' h1 h2
      cases h
      exact .cons (hf d _ p h1 r) (pyAll_dp hf h2 t)
    · cases h
theorem pyOf_dp {K : PySem.W.Frag} {H : Hp} {α : List Addr} {L : Hd} (hp : RHp K fa H α L) : ∀ (n : Nat) (d : D) (v : V) (p : PyData), pyOf L n d = some p → RV K fa H α d v → Dp K H v p
  | 0, _, _, _, h, _ => by
    unfold pyOf at h
    cases h
  | n + 1, d, v, p, h, r => by
    cases r with
    | non =>
      cases h
      exact .non
    | bl b =>
      cases h
      exact .bl b
    | int i =>
      cases h
      exact .int i
    | str x =>
      cases h
      exact .str x
    | @tup a ds vs hs rs =>
      cases q : pyAll (pyOf L n) ds with
      | none =>
        have h' : (pyAll (pyOf L n) ds).map PyData.tuple = some p := h
        rw [q] at h'
        cases h'
      | some ps =>
        have h' : (pyAll (pyOf L n) ds).map PyData.tuple = some p := h
        rw [q] at h'
        cases h'
        exact .tup hs (pyAll_dp (pyOf_dp hp n) q rs)
    | @ref m a ha =>
      have h' : (match getL L m with | some xs => (pyAll (pyOf L n) xs).map PyData.list | none => none) = some p := h
      split at h'
      · rename_i xs hx
        cases q : pyAll (pyOf L n) xs with
        | none =>
          rw [q] at h'
          cases h'
        | some ps =>
          rw [q] at h'
          cases h'
          obtain ⟨vs, rs, hs⟩ := hp.seq ha hx
          exact .lst hs (pyAll_dp (pyOf_dp hp n) q rs)
      · cases h'
    | fn hf => cases h
def toCmp : Cop → CmpOp
  | .lt => .Lt
  | .le => .LtE
  | .gt => .Gt
  | .ge => .GtE
  | .eq => .Eq
  | .ne => .NotEq
  | .in_ => .In
  | .nin => .NotIn
theorem eqop_calm (x y : D) (L : Hd) (f : Bool → Bool) : Calm (eqop x y L f) := fun c L' e => by
  unfold eqop at e
  repeat' split at e
  all_goals cases e
theorem cmpop_calm (o : Cop) (x y : D) (L : Hd) : Calm (cmpop o x y L) := fun c L' e => by
  unfold cmpop at e
  split at e
  all_goals first
    | exact eqop_calm _ _ _ _ c L' e
    | (repeat' split at e)
  all_goals cases e
theorem strs_flat {K : PySem.W.Frag} {H : Hp} {α : List Addr} {a : Str} : ∀ {ds : List D} {vs : List V} {ys : List Str}, strsOf ds = some ys → RVs K fa H α ds vs → vs.all flatV = true ∧ inV (.str a) vs = decide (a ∈ ys)
  | [], _, ys, h, .nil => by
    cases h
    exact ⟨rfl, by simp [inV]⟩
  | d :: ds, _, ys, h, .cons (v := v) (vs := vs) r t => by
    cases r with
    | str x =>
      cases q : strsOf ds with
      | none =>
        have h' : (strsOf ds).map (x :: ·) = some ys := h
        rw [q] at h'
        cases h'
      | some zs =>
        have h' : (strsOf ds).map (x :: ·) = some ys := h
        rw [q] at h'
        cases h'
        obtain ⟨h1, h2⟩ := strs_flat (a := a) q t
        refine ⟨by rw [List.all_cons, h1]; rfl, ?_⟩
        have e1 : inV (.str a) (V.str x :: vs) = ((x == a) || inV (.str a) vs) := rfl
        rw [e1, h2]
        by_cases hxa : a = x
        · subst hxa
          simp
        · have : (x == a) = false := by
            rw [beq_eq_false_iff_ne]
            exact fun z => hxa z.symm
          rw [this]
          simp [hxa]
    | _ => cases h
theorem op_cmp (hu : X.A.units + 64 < cLine) (o : Cop) : OpR X (compareOp (toCmp o)) (rSem2 X.K fa (cmpop o)) := by
  intro pins s σ H x y v u Q I rx ry h
  obtain ⟨d, e, L, α, p, r1, r2, q⟩ := h
  have fin : ∀ {k : Bool}, PostV X.K fa (.ok (.bl k) L) H α Q → Q (.bl k) H := fun q => q _ _ _ Ext.refl p (.bl _)
  unfold cmpop at q
  split at q
  · cases r1; cases r2
    exact op_lt pins s σ H _ _ v u Q I rx ry ⟨_, _, rfl, rfl, fin q⟩
  · cases r1; cases r2
    exact op_le pins s σ H _ _ v u Q I rx ry ⟨_, _, rfl, rfl, fin q⟩
  · cases r1; cases r2
    exact op_gt pins s σ H _ _ v u Q I rx ry ⟨_, _, rfl, rfl, fin q⟩
  · cases r1; cases r2
    exact op_ge pins s σ H _ _ v u Q I rx ry ⟨_, _, rfl, rfl, fin q⟩
  · unfold eqop at q
    split at q
    · rename_i a b ha hb
      split at q
      · rename_i hs
        exact op_eqD hu pins s σ H _ _ v u Q I rx ry ⟨a, b, pyOf_dp p _ _ _ _ ha r1, pyOf_dp p _ _ _ _ hb r2, hs.1, hs.2, fin q⟩
      · exact q.elim
    · exact q.elim
  · unfold eqop at q
    split at q
    · rename_i a b ha hb
      split at q
      · rename_i hs
        exact op_neD hu pins s σ H _ _ v u Q I rx ry ⟨a, b, pyOf_dp p _ _ _ _ ha r1, pyOf_dp p _ _ _ _ hb r2, hs.1, hs.2, fin q⟩
      · exact q.elim
    · exact q.elim
  · cases r1; cases r2
    rename_i a b
    split at q
    · rename_i c hc
      have ea : a = ⟨#[c]⟩ := by
        obtain ⟨⟨l⟩⟩ := a
        simp only at hc
        rw [hc]
      subst ea
      exact op_in_sign pins s σ H _ _ v u Q I rx ry ⟨_, _, rfl, rfl, fin q⟩
    · exact q.elim
  · cases r1; cases r2
    rename_i a b
    split at q
    · rename_i c hc
      have ea : a = ⟨#[c]⟩ := by
        obtain ⟨⟨l⟩⟩ := a
        simp only at hc
        rw [hc]
      subst ea
      exact op_notIn_sign pins s σ H _ _ v u Q I rx ry ⟨_, _, rfl, rfl, fin q⟩
    · exact q.elim
  · cases r1
    cases r2 with
    | tup h2 r2 =>
      split at q
      · rename_i ys hy
        obtain ⟨f1, f2⟩ := strs_flat (a := _) hy r2
        exact op_in_seq pins s σ H _ _ v u Q I rx ry ⟨_, _, rfl, .inr h2, rfl, f1, by
          rw [f2]
          exact fin q⟩
      · exact q.elim
  · cases r1
    cases r2 with
    | tup h2 r2 =>
      split at q
      · rename_i ys hy
        obtain ⟨f1, f2⟩ := strs_flat (a := _) hy r2
        exact op_notIn_seq pins s σ H _ _ v u Q I rx ry ⟨_, _, rfl, .inr h2, rfl, f1, by
          rw [f2]
          exact fin q⟩
      · exact q.elim
  · exact q.elim

/-! ### places -/
theorem atI_some {α : Type} {xs : List α} {i : Int} {v : α} (h : atI xs i = some v) : ∃ j, ixN xs.length i = some j ∧ xs[j]? = some v := by
  unfold atI at h
  cases q : ixN xs.length i with
  | none =>
    rw [q] at h
    cases h
  | some j =>
    rw [q] at h
    exact ⟨j, rfl, h⟩
theorem atI_of {α : Type} {xs : List α} {i : Int} {v : α} {j : Nat} (h : ixN xs.length i = some j) (h2 : xs[j]? = some v) : atI xs i = some v := by
  unfold atI
  rw [h]
  exact h2
theorem RVs.at {K : PySem.W.Frag} {H : Hp} {α : List Addr} {ds : List D} {vs : List V} {i : Int} {d : D} (r : RVs K fa H α ds vs) (h : atI ds i = some d) : ∃ v, atI vs i = some v ∧ RV K fa H α d v := by
  obtain ⟨j, h1, h2⟩ := atI_some h
  obtain ⟨v, h3, rv⟩ := r.get h2
  exact ⟨v, atI_of (by rw [← r.length]; exact h1) h3, rv⟩
theorem ixop_calm (x y : D) (L : Hd) : Calm (ixop x y L) := fun c L' e => by
  unfold ixop at e
  repeat' split at e
  all_goals cases e
theorem ix_sem : IxR X (rSem2 X.K fa ixop) := by
  intro value slice pins s σ H x y v u Q I rx ry h hs
  obtain ⟨d, e, L, α, p, r1, r2, q⟩ := h
  unfold ixop at q
  split at q
  · cases r2
    cases r1 with
    | tup h1 r1 =>
      split at q
      · rename_i z hz
        obtain ⟨w, h3, rw_⟩ := r1.at hz
        exact ix_tup value slice pins s σ H _ _ v u Q I rx ry ⟨_, _, _, _, rfl, rfl, h1, h3, q _ _ _ Ext.refl p rw_⟩ hs
      · exact q.elim
  · cases r2
    cases r1 with
    | ref h1 =>
      split at q
      · rename_i xs hx
        split at q
        · rename_i z hz
          obtain ⟨vs, rs, hq⟩ := p.seq h1 hx
          obtain ⟨w, h3, rw_⟩ := rs.at hz
          exact ix_list value slice pins s σ H _ _ v u Q I rx ry ⟨_, _, _, _, rfl, rfl, hq, h3, q _ _ _ Ext.refl p rw_⟩ hs
        · exact q.elim
      · exact q.elim
  · cases r1; cases r2
    split at q
    · rename_i hz
      split at q
      · rename_i c hc
        exact ix_str value slice pins s σ H _ _ v u Q I rx ry ⟨_, _, _, rfl, rfl, limLe hz, hc, q _ _ _ Ext.refl p (.str _)⟩ hs
      · exact q.elim
    · exact q.elim
  · exact q.elim
end
end MP

/-! Built-in functions, methods, slices of MP, over the hand layer's rules. -/
namespace MP
open PySem PySem.Spec PyProof.Rows L2

section
variable {X : Cx} {fa : Str → Option Addr}
theorem un_negS : UnR X (unaryOp .USub) (rSem1 X.K fa fun x L => match x with | .int i => .ok (.int (-i)) L | _ => .bad) := by
  intro pins s σ H x v Q I rx h
  obtain ⟨d, L, α, p, r1, q⟩ := h
  cases r1 with
  | int i => exact un_neg pins s σ H _ v Q I rx ⟨_, rfl, q _ _ _ Ext.refl p (.int _)⟩
  | _ => exact q.elim

/-! ### slices -/
theorem cut_len {α : Type} (xs : List α) (lo hi : Option Int) : (cut xs lo hi).length ≤ xs.length := by
  unfold cut
  rw [List.length_take, List.length_drop]
  omega
theorem RVs.cut {K : PySem.W.Frag} {H : Hp} {α : List Addr} {ds : List D} {vs : List V} (r : RVs K fa H α ds vs) (lo hi : Option Int) : RVs K fa H α (cut ds lo hi) (cutV vs lo hi) := by
  unfold MP.cut cutV
  rw [r.length]
  exact (r.drop _).take _
theorem cut_whole {α : Type} {xs : List α} {lo hi : Option Int} (h : HT.sIx xs.length 0 lo = 0 ∧ HT.sIx xs.length xs.length hi = xs.length) : cut xs lo hi = xs := by
  unfold cut
  rw [h.1, h.2]
  simp
def rSemS (K : PySem.W.Frag) (fa : Str → Option Addr) : V → Option Int → Option Int → Hp → VK → Prop := fun x lo hi H Q => ∃ d L α, RHp K fa H α L ∧ RV K fa H α d x ∧ PostV K fa (slop d lo hi L) H α Q
theorem slop_calm (x : D) (lo hi : Option Int) (L : Hd) : Calm (slop x lo hi L) := fun c L' e => by
  unfold slop alloc at e
  repeat' split at e
  all_goals cases e
theorem sl_sem : SlR X (rSemS X.K fa) := by
  intro pins s σ H x v vl vu lo hi sl Q I rx hs pl pu h
  obtain ⟨d, L, α, p, r1, q⟩ := h
  cases r1 with
  | tup h1 r1 =>
    refine sl_tupA pins s σ H _ v vl vu lo hi sl Q I rx hs pl pu ⟨_, _, rfl, h1, fun hw => ?_, fun _ t ht => ?_⟩
    · rw [← r1.length] at hw
      refine q _ _ _ Ext.refl p ?_
      rw [cut_whole hw]
      exact .tup h1 r1
    · exact q _ _ _ (Ext.new ht) (p.new ht) (.tup (SqT.of upd_same) ((r1.cut lo hi).ext (Ext.new ht) p.tl))
  | ref h1 =>
    unfold slop at q
    dsimp only at q
    split at q
    · rename_i xs hx
      obtain ⟨vs, rs, hq⟩ := p.seq h1 hx
      exact sl_list pins s σ H _ v vl vu lo hi sl Q I rx hs pl pu ⟨_, _, rfl, hq, alloc_post p (rs.cut lo hi) q⟩
    · exact q.elim
  | str z =>
    unfold slop at q
    dsimp only at q
    split at q
    · rename_i hz
      exact sl_str pins s σ H _ v vl vu lo hi sl Q I rx hs pl pu ⟨_, rfl, limLe hz, q _ _ _ Ext.refl p (.str _)⟩
    · exact q.elim
  | _ => exact q.elim

/-! ### built-in functions -/
theorem RVs.one {K : PySem.W.Frag} {H : Hp} {α : List Addr} {d : D} {vs : List V} (r : RVs K fa H α [d] vs) : ∃ v, vs = [v] ∧ RV K fa H α d v := by
  cases r with
  | cons r t =>
    cases t
    exact ⟨_, rfl, r⟩
theorem RVs.two {K : PySem.W.Frag} {H : Hp} {α : List Addr} {d e : D} {vs : List V} (r : RVs K fa H α [d, e] vs) : ∃ v w, vs = [v, w] ∧ RV K fa H α d v ∧ RV K fa H α e w := by
  cases r with
  | cons r t =>
    cases t with
    | cons r2 t2 =>
      cases t2
      exact ⟨_, _, rfl, r, r2⟩
theorem biop_calm (b : Bi) (ds : List D) (L : Hd) : Calm (biop b ds L) := fun c L' e => by
  unfold biop alloc at e
  repeat' split at e
  all_goals cases e
def toFn : Bi → Value
  | .abs => .builtin "abs"
  | .len => .builtin "len"
  | .max => .builtin "max"
  | .min => .builtin "min"
  | .int => .type "int"
  | .str => .type "str"
  | .list => .type "list"
  | .tuple => .type "tuple"
  | .sorted => .builtin "sorted"
  | .sortedR => .builtin "sorted"
theorem up_eq {ns ms : List Int} (h : ms.Perm ns) (s : ms.Pairwise (· ≤ ·)) : ms = up ns := by
  have h2 : (up ns).Perm ns := List.mergeSort_perm ns _
  have s2 : (up ns).Pairwise (· ≤ ·) := by
    have q := List.pairwise_mergeSort (le := fun a b : Int => decide (a ≤ b)) (by
      intro a b c h1 h2
      simp only [decide_eq_true_eq] at *
      omega) (by
      intro a b
      simp only [Bool.or_eq_true, decide_eq_true_eq]
      omega) ns
    exact q.imp (by
      intro a b h
      simpa using h)
  exact (h.trans h2.symm).eq_of_pairwise (by
    intro a b _ _ h1 h2
    omega) s s2
theorem down_eq {ns ms : List Int} (h : ms.Perm ns) (s : ms.Pairwise (· ≥ ·)) : ms = (up ns).reverse := by
  have h1 : ms.reverse = up ns := up_eq ((List.reverse_perm ms).trans h) (List.pairwise_reverse.mpr (s.imp fun h => h))
  rw [← h1, List.reverse_reverse]
theorem call_bi (hc : X.calm = true) (b : Bi) (hb : b ≠ .sortedR) : CallR X (toFn b) (rSemL X.K fa (biop b)) := by
  intro pins s σ H xs us Q I rs h
  obtain ⟨ds, L, α, p, r1, q⟩ := h
  unfold biop at q
  split at q
  · obtain ⟨v, rfl, r⟩ := r1.one
    cases r
    exact call_abs pins s σ H _ us Q I rs ⟨_, rfl, q _ _ _ Ext.refl p (.int _)⟩
  · obtain ⟨v, rfl, r⟩ := r1.one
    cases r with
    | tup h1 r2 =>
      refine call_len_seq pins s σ H _ us Q I rs ⟨_, _, rfl, .inr h1, ?_⟩
      rw [← r2.length]
      exact q _ _ _ Ext.refl p (.int _)
  · obtain ⟨v, rfl, r⟩ := r1.one
    cases r with
    | ref h1 =>
      split at q
      · rename_i xs hx
        obtain ⟨vs, r2, hq⟩ := p.seq h1 hx
        refine call_len_seq pins s σ H _ us Q I rs ⟨_, _, rfl, .inl hq, ?_⟩
        rw [← r2.length]
        exact q _ _ _ Ext.refl p (.int _)
      · exact q.elim
  · obtain ⟨v, rfl, r⟩ := r1.one
    cases r
    split at q
    · rename_i hz
      exact call_len_str pins s σ H _ us Q I rs ⟨_, rfl, limLe hz, q _ _ _ Ext.refl p (.int _)⟩
    · exact q.elim
  · obtain ⟨v, w, rfl, r, r'⟩ := r1.two
    cases r; cases r'
    exact call_max2 hc pins s σ H _ us Q I rs ⟨_, _, rfl, q _ _ _ Ext.refl p (.int _)⟩
  · obtain ⟨v, w, rfl, r, r'⟩ := r1.two
    cases r; cases r'
    exact call_min2 hc pins s σ H _ us Q I rs ⟨_, _, rfl, q _ _ _ Ext.refl p (.int _)⟩
  · obtain ⟨v, rfl, r⟩ := r1.one
    cases r
    exact call_int1 pins s σ H _ us Q I rs (.inl ⟨_, rfl, q _ _ _ Ext.refl p (.int _)⟩)
  · obtain ⟨v, rfl, r⟩ := r1.one
    cases r
    exact call_int1 pins s σ H _ us Q I rs (.inr ⟨_, rfl, q _ _ _ Ext.refl p (.int _)⟩)
  · obtain ⟨v, rfl, r⟩ := r1.one
    cases r
    split at q
    · rename_i n hn
      split at q
      · rename_i hz
        exact call_int_str pins s σ H _ us Q I rs ⟨_, _, rfl, hn, hz, q _ _ _ Ext.refl p (.int _)⟩
      · exact q.elim
    · exact q.elim
  · obtain ⟨v, rfl, r⟩ := r1.one
    cases r
    split at q
    · rename_i hz
      exact call_str_int pins s σ H _ us Q I rs ⟨_, rfl, hz, q _ _ _ Ext.refl p (.str _)⟩
    · exact q.elim
  · obtain ⟨v, rfl, r⟩ := r1.one
    cases r with
    | tup h1 r2 => exact call_list_of pins s σ H _ us Q I rs ⟨_, _, rfl, .inr h1, alloc_post p r2 q⟩
  · obtain ⟨v, rfl, r⟩ := r1.one
    cases r with
    | ref h1 =>
      split at q
      · rename_i xs hx
        obtain ⟨vs, r2, hq⟩ := p.seq h1 hx
        exact call_list_of pins s σ H _ us Q I rs ⟨_, _, rfl, .inl hq, alloc_post p r2 q⟩
      · exact q.elim
  · obtain ⟨v, rfl, r⟩ := r1.one
    cases r with
    | tup h1 r2 => exact call_tuple_of pins s σ H _ us Q I rs ⟨_, _, rfl, .inr ⟨h1, q _ _ _ Ext.refl p (.tup h1 r2)⟩⟩
  · obtain ⟨v, rfl, r⟩ := r1.one
    cases r with
    | ref h1 =>
      split at q
      · rename_i xs hx
        obtain ⟨vs, r2, hq⟩ := p.seq h1 hx
        exact call_tuple_of pins s σ H _ us Q I rs ⟨_, _, rfl, .inl ⟨hq, fun l hl => q _ _ _ (Ext.new hl) (p.new hl) (.tup (SqT.of upd_same) (r2.ext (Ext.new hl) p.tl))⟩⟩
      · exact q.elim
  · obtain ⟨v, rfl, r⟩ := r1.one
    cases r with
    | ref h1 =>
      split at q
      · rename_i ns hx
        cases hl : getL L _ with
        | none =>
          rw [hl] at hx
          cases hx
        | some ys =>
          rw [hl] at hx
          obtain ⟨vs, r2, hq⟩ := p.seq h1 hl
          have e := r2.ints hx
          subst e
          refine cr_sortedI pins s σ H _ us Q I rs ⟨_, _, rfl, hq, fun ns' l hp hs hn => ?_⟩
          rw [up_eq hp hs]
          exact alloc_post p (RVs.ofInts _) q l hn
      · exact q.elim
  · exact absurd rfl hb
  · exact q.elim
theorem call_sortedR : CallRK X (.builtin "sorted") [Str.ofString "reverse"] (fun xs zs H Q => zs = [.bl true] ∧ rSemL X.K fa (biop .sortedR) xs H Q) := by
  intro pins s σ H xs zs us ws Q I rs rz h
  obtain ⟨ez, ds, L, α, p, r1, q⟩ := h
  unfold biop at q
  split at q
  all_goals first
    | contradiction
    | exact q.elim
    | skip
  obtain ⟨v, rfl, r⟩ := r1.one
  cases r with
  | ref h1 =>
    split at q
    · rename_i ns hx
      cases hl : getL L _ with
      | none =>
        rw [hl] at hx
        cases hx
      | some ys =>
        rw [hl] at hx
        obtain ⟨vs, r2, hq⟩ := p.seq h1 hl
        have e := r2.ints hx
        subst e
        refine cr_sortedRev (b := true) pins s σ H _ zs us ws Q I rs rz ⟨_, _, rfl, ez, hq, fun ns' l hp hs hn => ?_⟩
        rw [down_eq hp hs]
        exact alloc_post p (RVs.ofInts _) q l hn
    · exact q.elim

/-! ### isinstance -/
def tn : Ty → String
  | .int => "int"
  | .bool => "bool"
  | .str => "str"
  | .tuple => "tuple"
  | .list => "list"
theorem kit_non : ∀ t : Ty, kitB "NoneType" (tn t) = some false := by intro t; cases t <;> decide +kernel
theorem kit_bl : ∀ t : Ty, kitB "bool" (tn t) = some (t == .bool || t == .int) := by intro t; cases t <;> decide +kernel
theorem kit_int : ∀ t : Ty, kitB "int" (tn t) = some (t == .int) := by intro t; cases t <;> decide +kernel
theorem kit_str : ∀ t : Ty, kitB "str" (tn t) = some (t == .str) := by intro t; cases t <;> decide +kernel
theorem kit_tup : ∀ t : Ty, kitB "tuple" (tn t) = some (t == .tuple) := by intro t; cases t <;> decide +kernel
theorem kit_lst : ∀ t : Ty, kitB "list" (tn t) = some (t == .list) := by intro t; cases t <;> decide +kernel
theorem tyop_calm (x : D) (t : Ty) (L : Hd) : Calm (tyop x t L) := fun c L' e => by
  unfold tyop at e
  repeat' split at e
  all_goals cases e
theorem isi_sem {K : PySem.W.Frag} {H : Hp} {α : List Addr} {L : Hd} {d : D} {x : V} {t : Ty} {Q : VK} (p : RHp K fa H α L) (r : RV K fa H α d x) (q : PostV K fa (tyop d t L) H α Q) : rIsi K [x, .ty (tn t)] H Q := by
  have fin : ∀ {k : Bool}, PostV K fa (.ok (.bl k) L) H α Q → Q (.bl k) H := fun q => q _ _ _ Ext.refl p (.bl _)
  cases r with
  | non => exact ⟨_, _, _, _, _, rfl, .ty _, .base .non, kit_ty (kit_non t), fin q⟩
  | bl b => exact ⟨_, _, _, _, _, rfl, .ty _, .base (.bl b), kit_ty (kit_bl t), fin q⟩
  | int i => exact ⟨_, _, _, _, _, rfl, .ty _, .base (.int i), kit_ty (kit_int t), fin q⟩
  | str z => exact ⟨_, _, _, _, _, rfl, .ty _, .base (.str z), kit_ty (kit_str t), fin q⟩
  | tup h1 r1 =>
    have q' := fin q
    rcases h1 with (h1 | ⟨o, h1⟩) | ⟨o, its, n, h1, hc, _⟩
    · exact ⟨_, _, _, _, _, rfl, .ty _, .base (.tup h1), kit_ty (kit_tup t), q'⟩
    · exact ⟨_, _, _, _, _, rfl, .ty _, .fTuple h1, kit_ty (kit_tup t), q'⟩
    · exact ⟨_, _, _, _, _, rfl, .ty _, .kTuple h1 hc, kit_ty (kit_tup t), q'⟩
  | ref h1 =>
    unfold tyop at q
    dsimp only at q
    split at q
    · rename_i xs hx
      have q' := fin q
      obtain ⟨vs, _, hq⟩ := p.seq h1 hx
      rcases hq with (h2 | ⟨o, h2⟩) | ⟨o, its, n, h2, hc, _⟩
      · exact ⟨_, _, _, _, _, rfl, .ty _, .base (.lst h2), kit_ty (kit_lst t), q'⟩
      · exact ⟨_, _, _, _, _, rfl, .ty _, .base (.frz h2), kit_ty (kit_lst t), q'⟩
      · exact ⟨_, _, _, _, _, rfl, .ty _, .kList h2 hc, kit_ty (kit_lst t), q'⟩
    · exact q.elim
  | fn h1 => exact q.elim

/-! ### methods -/
theorem meop_calm (m : Me) (x : D) (ds : List D) (L : Hd) : Calm (meop m x ds L) := fun c L' e => by
  unfold meop at e
  repeat' split at e
  all_goals cases e
theorem ixN_lt {n : Nat} {i : Int} {k : Nat} (h : ixN n i = some k) : seqIndex? i n = some k := (ixN_seq h).1
theorem mt_app : MtR X "list.append" (rSemM X.K fa (meop .append)) := by
  intro pins s σ H x xs v us Q I rx rs h
  obtain ⟨d, ds, L, α, p, r1, r2, q⟩ := h
  unfold meop at q
  split at q
  all_goals first
    | contradiction
    | exact q.elim
    | skip
  cases r1 with
  | ref h1 =>
    obtain ⟨w, rfl, rw_⟩ := r2.one
    split at q
    · exact q.elim
    · rename_i hn
      split at q
      · rename_i ys hy
        split at q
        · rename_i hl
          obtain ⟨vs, r3, hH⟩ := p.mut hn h1 hy
          rw [r3.length] at hl
          obtain ⟨p', e'⟩ := p.set hn h1 (r3.append (.cons rw_ .nil))
          exact mt_append pins s σ H _ _ v us Q I rx rs ⟨_, _, _, rfl, rfl, hH, limLt hl, q _ _ _ e' p' .non⟩
        · exact q.elim
      · exact q.elim
theorem mt_popS : MtR X "list.pop" (rSemM X.K fa (meop .pop)) := by
  intro pins s σ H x xs v us Q I rx rs h
  obtain ⟨d, ds, L, α, p, r1, r2, q⟩ := h
  unfold meop at q
  split at q
  all_goals first
    | contradiction
    | exact q.elim
    | skip
  cases r1 with
  | ref h1 =>
    cases r2
    split at q
    · exact q.elim
    · rename_i hn
      split at q
      · rename_i ys hy
        split at q
        · rename_i z hz
          obtain ⟨vs, r3, hH⟩ := p.mut hn h1 hy
          obtain ⟨w, hw, rw_⟩ := r3.get hz
          rw [r3.length] at hw
          have r4 : RVs X.K fa H α ys.dropLast vs.dropLast := by
            rw [List.dropLast_eq_take, List.dropLast_eq_take, r3.length]
            exact r3.take _
          obtain ⟨p', e'⟩ := p.set hn h1 r4
          exact mt_pop pins s σ H _ _ v us Q I rx rs ⟨_, _, _, rfl, rfl, hH, hw, q _ _ _ e' p' (rw_.ext e' p.tl)⟩
        · exact q.elim
      · exact q.elim
theorem mt_popAtS : MtR X "list.pop" (rSemM X.K fa (meop .popAt)) := by
  intro pins s σ H x xs v us Q I rx rs h
  obtain ⟨d, ds, L, α, p, r1, r2, q⟩ := h
  unfold meop at q
  split at q
  all_goals first
    | contradiction
    | exact q.elim
    | skip
  cases r1 with
  | ref h1 =>
    obtain ⟨w, rfl, rw_⟩ := r2.one
    cases rw_
    split at q
    · exact q.elim
    · rename_i hn
      split at q
      · rename_i ys hy
        split at q
        · rename_i k hk
          split at q
          · rename_i z hz
            split at q
            · rename_i hb
              obtain ⟨vs, r3, hH⟩ := p.mut hn h1 hy
              obtain ⟨w, hw, rw_⟩ := r3.get hz
              obtain ⟨p', e'⟩ := p.set hn h1 (r3.erase k)
              exact mt_popAt pins s σ H _ _ v us Q I rx rs ⟨_, _, _, _, _, rfl, rfl, hH, hb.1, hb.2, by rw [← r3.length]; exact ixN_lt hk, hw, q _ _ _ e' p' (rw_.ext e' p.tl)⟩
            · exact q.elim
          · exact q.elim
        · exact q.elim
      · exact q.elim
theorem mt_clearS : MtR X "list.clear" (rSemM X.K fa (meop .clear)) := by
  intro pins s σ H x xs v us Q I rx rs h
  obtain ⟨d, ds, L, α, p, r1, r2, q⟩ := h
  unfold meop at q
  split at q
  all_goals first
    | contradiction
    | exact q.elim
    | skip
  cases r1 with
  | ref h1 =>
    cases r2
    split at q
    · exact q.elim
    · rename_i hn
      split at q
      · rename_i ys hy
        obtain ⟨vs, r3, hH⟩ := p.mut hn h1 hy
        obtain ⟨p', e'⟩ := p.set hn h1 .nil
        exact mt_clear pins s σ H _ _ v us Q I rx rs ⟨_, _, rfl, rfl, hH, q _ _ _ e' p' .non⟩
      · exact q.elim
theorem mt_reverseS : MtR X "list.reverse" (rSemM X.K fa (meop .reverse)) := by
  intro pins s σ H x xs v us Q I rx rs h
  obtain ⟨d, ds, L, α, p, r1, r2, q⟩ := h
  unfold meop at q
  split at q
  all_goals first
    | contradiction
    | exact q.elim
    | skip
  cases r1 with
  | ref h1 =>
    cases r2
    split at q
    · exact q.elim
    · rename_i hn
      split at q
      · rename_i ys hy
        obtain ⟨vs, r3, hH⟩ := p.mut hn h1 hy
        obtain ⟨p', e'⟩ := p.set hn h1 r3.rev
        exact mt_reverse pins s σ H _ _ v us Q I rx rs ⟨_, _, rfl, rfl, hH, q _ _ _ e' p' .non⟩
      · exact q.elim
theorem mt_insertS : MtR X "list.insert" (rSemM X.K fa (meop .insert)) := by
  intro pins s σ H x xs v us Q I rx rs h
  obtain ⟨d, ds, L, α, p, r1, r2, q⟩ := h
  unfold meop at q
  split at q
  all_goals first
    | contradiction
    | exact q.elim
    | skip
  rename_i _ _ _ n i y _
  cases r1 with
  | ref h1 =>
    obtain ⟨w, z, rfl, rw_, rz⟩ := r2.two
    cases rw_
    split at q
    · exact q.elim
    · rename_i hn
      split at q
      · rename_i ys hy
        split at q
        · rename_i hb
          obtain ⟨vs, r3, hH⟩ := p.mut hn h1 hy
          have r4 := (r3.take i.toNat).append (RVs.cons rz (r3.drop i.toNat))
          obtain ⟨p', e'⟩ := p.set hn h1 r4
          have hl := hb.2.2
          rw [r3.length] at hl
          have h63 := line63
          refine mt_insert pins s σ H _ _ v us Q I rx rs ⟨_, _, _, _, rfl, rfl, hH, limLt hl, hb.1, ?_, ?_⟩
          · have := hb.2.1
            rw [r3.length] at this
            unfold LIM at hl
            omega
          · have q' := q _ _ _ e' p' .non
            simpa using q'
        · exact q.elim
      · exact q.elim
end
end MP

/-! From the program's text to MP; what is told of the context. -/
namespace MP
open PySem PySem.Spec PyProof.Rows L2

/-- what the text may name: defs, constants, exception classes, built-in names -/
structure CT where
  fns : List Str
  cst : List (Str × Ex)
  cls : List Str
  bt : List Str
  rs : List Str
def ixOf : List Str → Str → Option Nat
  | [], _ => none
  | y :: r, x => if y = x then some 0 else (ixOf r x).map (· + 1)
theorem ixOf_get : ∀ {N : List Str} {x : Str} {i : Nat}, ixOf N x = some i → N[i]? = some x
  | [], _, _, h => by cases h
  | y :: r, x, i, h => by
    unfold ixOf at h
    split at h
    · rename_i e
      cases h
      rw [e]
      rfl
    · cases q : ixOf r x with
      | none =>
        rw [q] at h
        cases h
      | some j =>
        rw [q] at h
        cases h
        have := ixOf_get q
        simpa using this
def isVis (sc : Scope) (x : Str) : Bool := match sc.names.lookup x with
  | some .local => true
  | some .cell => true
  | some .free => true
  | _ => false
def isLoc (sc : Scope) (x : Str) : Bool := match sc.names.lookup x with
  | some .local => true
  | _ => false
def isGl (sc : Scope) (x : Str) : Bool := match sc.names.lookup x with
  | some .globalImplicit => true
  | _ => false
theorem isVis_vis {sc : Scope} {x : Str} (h : isVis sc x = true) : Vis sc x := by
  unfold isVis at h
  split at h
  · exact .inl (by assumption)
  · exact .inr (.inl (by assumption))
  · exact .inr (.inr (by assumption))
  · cases h
theorem isLoc_loc {sc : Scope} {x : Str} (h : isLoc sc x = true) : sc.names.lookup x = some .local := by
  unfold isLoc at h
  split at h
  · assumption
  · cases h
theorem isGl_gl {sc : Scope} {x : Str} (h : isGl sc x = true) : sc.names.lookup x = some .globalImplicit := by
  unfold isGl at h
  split at h
  · assumption
  · cases h
def odd (x : Str) : Bool := x == ("__debug__" : Str) || x == ("__classdict__" : Str) || x == ("__name__" : Str)
theorem odd_d {x : Str} (h : odd x = false) : (x == ("__debug__" : Str)) = false := by
  unfold odd at h
  simp only [Bool.or_eq_false_iff] at h
  exact h.1.1
theorem odd_c {x : Str} (h : odd x = false) : (x == ("__classdict__" : Str)) = false := by
  unfold odd at h
  simp only [Bool.or_eq_false_iff] at h
  exact h.1.2
theorem odd_n {x : Str} (h : odd x = false) : x ≠ ("__name__" : Str) := by
  unfold odd at h
  simp only [Bool.or_eq_false_iff] at h
  exact beq_eq_false_iff_ne.mp h.2

def nameE (ct : CT) (N : List Str) (sc : Scope) (x : Str) : Ex := if odd x = true then .bad else
  if isVis sc x = true then (match ixOf N x with
    | some i => .v i
    | none => .bad)
  else if isGl sc x = true then (if ct.fns.contains x = true then .f x else match ct.cst.lookup x with
    | some e => .k x e
    | none => .bad)
  else .bad
def bopOf : Operator → Option Bop
  | .Add => some .add
  | .Sub => some .sub
  | .Mult => some .mul
  | .FloorDiv => some .fdiv
  | .Mod => some .mod
  | .Pow => some .pow
  | _ => none
theorem bopOf_to {o : Operator} {b : Bop} (h : bopOf o = some b) : o = toOp b := by cases o <;> cases h <;> rfl
def copOf : CmpOp → Option Cop
  | .Lt => some .lt
  | .LtE => some .le
  | .Gt => some .gt
  | .GtE => some .ge
  | .Eq => some .eq
  | .NotEq => some .ne
  | .In => some .in_
  | .NotIn => some .nin
  | _ => none
theorem copOf_to {o : CmpOp} {b : Cop} (h : copOf o = some b) : o = toCmp b := by cases o <;> cases h <;> rfl
def noSet : Expr → Bool
  | .Set .. => false
  | _ => true
theorem noSet_marks {op : CmpOp} {e : Expr} (h : noSet e = true) : behindInMarks op e = false := by
  cases e <;> first | rfl | cases h
def noSl : Expr → Bool
  | .Slice .. => false
  | _ => true
def isNone : Expr → Bool
  | .Constant .none _ _ => true
  | _ => false
def cmpE (op : CmpOp) (a b : Ex) (rb : Expr) : Ex := match copOf op with
  | some o => if noSet rb = true then .cmp o a b else .bad
  | none => (match op with
    | .Is => if isNone rb = true then .isn a else .bad
    | .IsNot => if isNone rb = true then .notn a else .bad
    | _ => .bad)
def boolL (o : BoolOp) : List Ex → Ex
  | [] => .bad
  | [a] => a
  | a :: b :: r => match o with
    | .And => .and a (boolL o (b :: r))
    | .Or => .or a (boolL o (b :: r))
def noStar1 : Expr → Bool
  | .Starred .. => false
  | _ => true
def noStar (es : List Expr) : Bool := es.all noStar1
def biOf (x : Str) : Option Bi := if x = "abs" then some .abs else if x = "len" then some .len else if x = "max" then some .max else if x = "min" then some .min else if x = "int" then some .int
  else if x = "str" then some .str else if x = "list" then some .list else if x = "tuple" then some .tuple else if x = "sorted" then some .sorted else none
def tyOf (x : Str) : Option Ty := if x = "int" then some .int else if x = "bool" then some .bool else if x = "str" then some .str else if x = "tuple" then some .tuple else if x = "list" then some .list else none
def meOf (x : Str) (n : Nat) : Option Me := if x = "append" ∧ n = 1 then some .append else if x = "pop" ∧ n = 0 then some .pop else if x = "pop" ∧ n = 1 then some .popAt else if x = "clear" ∧ n = 0 then some .clear
  else if x = "reverse" ∧ n = 0 then some .reverse else if x = "insert" ∧ n = 2 then some .insert else none
def compA (ce : Expr → Ex) : List Expr → Ex
  | [] => .nil
  | e :: r => .cons (ce e) (compA ce r)
def optE (ce : Expr → Ex) : Option Expr → Ex
  | some e => ce e
  | none => .absent
def plainO : Expr → Bool
  | .Call .. => false
  | _ => true
def revKw : List Keyword → Bool
  | [⟨some x, .Constant (.bool true) _ _, _⟩] => x == ("reverse" : Str)
  | _ => false
def isiE (ct : CT) (N : List Str) (hot : Bool) (sc : Scope) (ce : Expr → Ex) : List Expr → Ex
  | [a, .Name t _] => if isGl sc t = true ∧ odd t = false ∧ ct.bt.contains "isinstance" = true ∧ noStar1 a = true then (if hot = true then (match a with
      | .Name y _ => if isVis sc y = true ∧ odd y = false ∧ ((ct.cls.contains t = true ∧ t ≠ "ValueError") ∨ (t = "ValueError" ∧ ct.bt.contains "ValueError" = true)) then (match ixOf N y with
        | some i => .ise i t
        | none => .bad) else .bad
      | _ => .bad)
    else (match tyOf t with
      | some ty => if ct.bt.contains t = true then .isi (ce a) ty else .bad
      | none => .bad)) else .bad
  | _ => .bad
def callE (ct : CT) (N : List Str) (hot : Bool) (sc : Scope) (ce : Expr → Ex) (f : Expr) (as : List Expr) (kws : List Keyword) (p : Pos) : Ex := match f with
  | .Name x _ => if odd x = true then .bad else
    if isVis sc x = true then (if hot = true ∨ noStar as = false ∨ as.isEmpty = true ∨ kws.isEmpty = false then .bad else match ixOf N x with
      | some i => .callv i (compA ce as)
      | none => .bad)
    else if isGl sc x = true then (if ct.fns.contains x = true then (if hot = true ∨ noStar as = false ∨ as.isEmpty = true ∨ kws.isEmpty = false then .bad else .call x (compA ce as))
      else if ct.bt.contains x = true then (if x = "isinstance" then (if kws.isEmpty = true then isiE ct N hot sc ce as else .bad)
        else if hot = true ∨ noStar as = false ∨ as.isEmpty = true then .bad
        else if x = "sorted" ∧ revKw kws = true then .bi .sortedR (compA ce as)
        else match biOf x with
          | some b => if kws.isEmpty = true then .bi b (compA ce as) else .bad
          | none => .bad)
      else .bad)
    else .bad
  | .Attribute o m ap => if hot = true ∨ kws.isEmpty = false ∨ noStar as = false ∨ plainO o = false ∨ (ap.endLine == p.line) = false then .bad else match meOf m as.length with
    | some k => .me k (ce o) (compA ce as)
    | none => .bad
  | _ => .bad
def iterE (ct : CT) (sc : Scope) (ce : Expr → Ex) (it : Expr) : Ex := match it with
  | .Call (.Name x _) as kws _ => if isGl sc x = true ∧ odd x = false ∧ ct.bt.contains x = true ∧ x = "range" then (if noStar as = true ∧ kws.isEmpty = true ∧ 0 < as.length ∧ as.length ≤ 3 then .rng (compA ce as) else .bad)
    else if isGl sc x = true ∧ odd x = false ∧ ct.bt.contains x = true ∧ x = "reversed" then (match as with
      | [a] => if noStar1 a = true ∧ kws.isEmpty = true then .rev (ce a) else .bad
      | _ => .bad)
    else ce it
  | .Set .. => .bad
  | _ => ce it
def compE (ct : CT) (N : List Str) (hot : Bool) : Nat → Scope → Expr → Ex
  | 0, _, _ => .bad
  | n + 1, sc, e => match e with
    | .Constant c _ _ => (match c with
      | .none => .non
      | .bool b => .bl b
      | .int i => .int i
      | .str x => .str x
      | _ => .bad)
    | .Name x _ => nameE ct N sc x
    | .Tuple es _ _ => if noStar es = true then .tup (compA (compE ct N hot n sc) es) else .bad
    | .List es _ => if noStar es = true then .lst (compA (compE ct N hot n sc) es) else .bad
    | .BinOp a o b _ => (match bopOf o with
      | some o => .bin o (compE ct N hot n sc a) (compE ct N hot n sc b)
      | none => .bad)
    | .UnaryOp o a _ => (match o with
      | .USub => .neg (compE ct N hot n sc a)
      | .Not => .not (compE ct N hot n sc a)
      | _ => .bad)
    | .BoolOp o es _ => boolL o (es.map (compE ct N hot n sc))
    | .Compare a ops bs _ => (match ops, bs with
      | [op], [b] => cmpE op (compE ct N hot n sc a) (compE ct N hot n sc b) b
      | _, _ => .bad)
    | .Subscript a i _ => (match i with
      | .Slice lo hi st _ => (match st with
        | none => .sl (compE ct N hot n sc a) (optE (compE ct N hot n sc) lo) (optE (compE ct N hot n sc) hi)
        | some _ => .bad)
      | _ => .ix (compE ct N hot n sc a) (compE ct N hot n sc i))
    | .Call f as kws p => callE ct N hot sc (compE ct N hot n sc) f as kws p
    | .ListComp elt gs scope _ => if hot = true then .bad else (match gs with
      | [⟨.Name y _, it, ifs, 0⟩] => (match ixOf N y with
        | some i => if blkC N sc scope [(y, i)] = true ∧ isLoc (relS scope sc) y = true then (match ifs with
            | [] => .lc i (iterE ct sc (compE ct N hot n sc) it) (.bl true) (compE ct N hot n (relS scope sc) elt)
            | [c] => .lc i (iterE ct sc (compE ct N hot n sc) it) (compE ct N hot n (relS scope sc) c) (compE ct N hot n (relS scope sc) elt)
            | _ => .bad) else .bad
        | none => .bad)
      | _ => .bad)
    | _ => .bad
/-- a written constant's value -/
def lit : Ex → Option D
  | .int i => some (.int i)
  | .str x => some (.str x)
  | .bl b => some (.bl b)
  | .non => some .non
  | .nil => some (.tup [])
  | .cons a b => (match lit a, lit b with
    | some x, some (.tup ys) => some (.tup (x :: ys))
    | _, _ => none)
  | .tup a => (match lit a with
    | some (.tup xs) => if xs.length ≤ LIM then some (.tup xs) else none
    | _ => none)
  | _ => none
theorem lit_ev {Φ : Str → List D → Hd → R D} : ∀ {e : Ex} {d : D} {ρ : Env} {L : Hd}, lit e = some d → evE Φ e ρ L = .ok d L := by
  intro e
  induction e with
  | int i => intro d ρ L h; cases h; rfl
  | str i => intro d ρ L h; cases h; rfl
  | bl i => intro d ρ L h; cases h; rfl
  | non => intro d ρ L h; cases h; rfl
  | nil => intro d ρ L h; cases h; rfl
  | cons a b iha ihb =>
    intro d ρ L h
    unfold lit at h
    split at h
    · rename_i x ys hx hy
      cases h
      unfold evE
      rw [iha hx, R.bind_ok, ihb hy, R.bind_ok]
    · cases h
  | tup a iha =>
    intro d ρ L h
    unfold lit at h
    split at h
    · rename_i xs hx
      split at h
      · rename_i hl
        cases h
        unfold evE
        rw [iha hx, R.bind_ok]
        dsimp only
        rw [if_pos hl]
      · cases h
    · cases h
  | _ => intro d ρ L h; cases h

/-! ### what is told of the context -/
/-- a def's promise: its run -/
def spF (K : PySem.W.Frag) (fa ca : Str → Option Addr) (np : Nat) (φ : List D → Hd → R D) : Sp := fun vs H Q E => ∃ ds L α, ds.length = np ∧ RVs K fa H α ds vs ∧ RHp K fa H α L ∧ Post K fa ca (fun cls d _ H => E cls d H) [] (φ ds L) H α Q
structure FnK (P : Program) (w : World) (K : PySem.W.Frag) (mg : Str → Option Value) (base : Heap) (k : Nat) (fa ca : Str → Option Addr) (φ : List D → Hd → R D) (f : Str) : Prop where
  ex : ∃ (ad : Addr) (fd : FuncData) (ps : List Str), fa f = some ad ∧ mg f = some (.ref ad) ∧ PySem.W.keepIn K (.ref ad) = true ∧ Binds K fd ps [] ∧ (∀ ds L, ds.length ≠ ps.length → φ ds L = .bad) ∧
    FnOk P w K mg base (L2.CX P w) k ad fd ps (spF K fa ca ps.length φ)
/-- a class's name as a value -/
def clsV (mg : Str → Option Value) (c : Str) : Option Value := if c = "ValueError" then some (.type "ValueError") else mg c
structure Glb (ct : CT) (P : Program) (w : World) (K : PySem.W.Frag) (mg : Str → Option Value) (base : Heap) (k : Nat) (fa ca : Str → Option Addr) (Φ : Str → List D → Hd → R D) : Prop where
  fn : ∀ f, ct.fns.contains f = true → FnK P w K mg base k fa ca (Φ f) f
  fnv : ∀ f ad, fa f = some ad → ct.fns.contains f = true
  co : ∀ x e, ct.cst.lookup x = some e → ∃ d u v, lit e = some d ∧ mg x = some u ∧ RelV v u ∧ ∀ H α, RV K fa H α d v
  bt : ∀ x, ct.bt.contains x = true → mg x = none
  cl : ∀ c, ct.cls.contains c = true → ∃ C, mg c = some (.ref C)
  kit : ∀ c C c', ca c = some C → (ct.cls.contains c' = true ∨ c' = "ValueError") → ∃ u, clsV mg c' = some u ∧ PySem.W.kitOne K (.ref C) u = some (isSub c c') ∧ PySem.W.exmOne K (.ref C) u = some (isSub c c')
  rsd : ∀ c, ct.rs.contains c = true → ∃ C, ca c = some C
  rs : ∀ c C, ca c = some C → mg c = some (.ref C) ∧ PySem.W.excIn K C [.type "ValueError", .type "Exception", .type "BaseException", .type "object"] "ValueError.__new__" = true ∧ PySem.W.keepIn K (.ref C) = true ∧
    PySem.W.subIn K (.ref C) (.type "BaseException") = some true ∧ PySem.W.typeIn K (.ref C) = some (.type "type") ∧ ExcC K C
/-- the context of an expression -/
structure Cok (ct : CT) (k : Nat) (fa ca : Str → Option Addr) (Φ : Str → List D → Hd → R D) (hot : Bool) (W : WX) (η : Option (Addr × Str)) (X : Cx) : Prop where
  nd : X.N.Nodup
  tk : Takes X W
  calm : hot = false → X.calm = true
  room : hot = false → Room k X.A
  units : X.A.units + 64 < cLine
  gl : Glb ct X.prog X.w X.K X.mg X.base k fa ca Φ
  isE : ∀ a c, η = some (a, c) → hot = true ∧ ∃ C, ca c = some C ∧ CallR X (.builtin "isinstance") (rIsE X.K C a)

/-! ### statements -/
def isSto (sc : Scope) (x : Str) : Bool := match sc.names.lookup x with
  | some .local => true
  | some .cell => true
  | _ => false
theorem isSto_loc {sc : Scope} {x : Str} (h : isSto sc x = true) : Loc sc x := by
  unfold isSto at h
  split at h
  · exact .inl (by assumption)
  · exact .inr (by assumption)
  · cases h
/-- no comprehension -/
def noComp : Expr → Bool
  | .ListComp .. => false
  | .SetComp .. => false
  | .DictComp .. => false
  | _ => true
/-- a comprehension that is stored at once -/
def compSto (sc : Scope) (x : Str) (px : Pos) : Expr → Bool
  | .ListComp _ [⟨_, _, _, _⟩] scope p => isLoc sc x && (px.line == p.line) && !(scope.names.any fun (n, k) => n == x && (k == .local || k == .cell))
  | _ => false
def compB (f : Stmt → Sm) : List Stmt → Sm
  | [] => .pass
  | s :: r => .seq (f s) (compB f r)
def DEPTH : Nat := 60
def raiseE (ct : CT) (sc : Scope) : Expr → Sm
  | .Call (.Name c _) [.Constant (.str _) _ _] [] _ => if isGl sc c = true ∧ odd c = false ∧ ct.rs.contains c = true then .raise c else .bad
  | _ => .bad
def augOf : Operator → Option Bop
  | .Add => some .add
  | .Sub => some .sub
  | _ => none
def compS (ct : CT) (N : List Str) : Bool → Nat → Scope → Stmt → Sm
  | _, 0, _, _ => .bad
  | hot, n + 1, sc, s => match s with
    | .Pass _ => .pass
    | .Expr e _ => if noComp e = true then .ex (compE ct N hot DEPTH sc e) else .bad
    | .Assign tgs e p => (match tgs with
      | [.Name x px] => if odd x = false ∧ isSto sc x = true ∧ (noComp e = true ∨ compSto sc x px e = true) then (match ixOf N x with
        | some i => .set i (compE ct N hot DEPTH sc e)
        | none => .bad) else .bad
      | [.Subscript o i _] => if noSl i = true then .setix (compE ct N hot DEPTH sc o) (compE ct N hot DEPTH sc i) (compE ct N hot DEPTH sc e) else .bad
      | _ => .bad)
    | .AugAssign tg o e _ => (match tg with
      | .Name x _ => if odd x = false ∧ isSto sc x = true then (match ixOf N x, augOf o with
        | some i, some o => .aug i o (compE ct N hot DEPTH sc e)
        | _, _ => .bad) else .bad
      | _ => .bad)
    | .Return v _ => (match v with
      | some e => .ret (compE ct N hot DEPTH sc e)
      | none => .retn)
    | .If c a b _ => .ite (compE ct N hot DEPTH sc c) (compB (compS ct N hot n sc) a) (compB (compS ct N hot n sc) b)
    | .While c b r _ => if hot = false ∧ r.isEmpty = true then .wh (compE ct N hot DEPTH sc c) (compB (compS ct N hot n sc) b) else .bad
    | .For tg it b r _ => if hot = false ∧ r.isEmpty = true then (match tg with
      | .Name x _ => if odd x = false ∧ isSto sc x = true ∧ noSet it = true then (match ixOf N x with
        | some i => .for_ i (iterE ct sc (compE ct N hot DEPTH sc) it) (compB (compS ct N hot n sc) b)
        | none => .bad) else .bad
      | _ => .bad) else .bad
    | .Raise v c _ => if hot = false then (match v, c with
      | some e, none => raiseE ct sc e
      | _, _ => .bad) else .bad
    | .Break _ => .brk
    | .Continue _ => .cnt
    | .Try b hs r f _ => if hot = false ∧ r.isEmpty = true ∧ f.isEmpty = true then (match hs with
      | [.ExceptHandler (some (.Name c _)) nm (s0 :: su) _] => if isGl sc c = true ∧ odd c = false ∧ ct.cls.contains c = true ∧ c ≠ "ValueError" then (match nm with
        | none => .try_ (compB (compS ct N hot n sc) b) c none (compB (compS ct N true n sc) (s0 :: su))
        | some x => if odd x = false ∧ isLoc sc x = true then (match ixOf N x with
          | some i => .try_ (compB (compS ct N hot n sc) b) c (some i) (compB (compS ct N true n sc) (s0 :: su))
          | none => .bad) else .bad) else .bad
      | _ => .bad) else .bad
    | _ => .bad
end MP

/-! Expressions: what MP says, the machine does. -/
namespace MP
open PySem PySem.Spec PyProof.Rows L2

section
variable {X : Cx} {ct : CT} {k : Nat} {fa ca : Str → Option Addr} {Φ : Str → List D → Hd → R D} {hot : Bool} {W : WX} {η : Option (Addr × Str)}
abbrev sE (X : Cx) (fa ca : Str → Option Addr) (Φ : Str → List D → Hd → R D) (W : WX) (η : Option (Addr × Str)) (m : Ex) : TE := semE X.K fa ca W η (evE Φ m)
abbrev sT (X : Cx) (fa ca : Str → Option Addr) (Φ : Str → List D → Hd → R D) (W : WX) (η : Option (Addr × Str)) (m : Ex) : TT := semT X.K fa ca W η (evE Φ m)
abbrev sA (X : Cx) (fa ca : Str → Option Addr) (Φ : Str → List D → Hd → R D) (W : WX) (η : Option (Addr × Str)) (m : Ex) : TA := semA X.K fa ca W η (evE Φ m)

theorem pe_bad {e : Expr} {m : Ex} (h : m = .bad) : PE X e (sE X fa ca Φ W η m) := ⟨fun _ _ _ _ _ _ q => by
  subst h
  obtain ⟨ρ, L, α, _, _, q⟩ := q
  exact q.elim⟩
theorem pt_bad {e : Expr} {m : Ex} (h : m = .bad) : PT X e (sT X fa ca Φ W η m) := ⟨fun _ _ _ _ _ _ q => by
  subst h
  obtain ⟨ρ, L, α, _, _, q⟩ := q
  exact q.elim⟩
theorem star_eq {e : Expr} {es : List Expr} {env : PySem.Env} (h : noStar1 e = true) : starEach (e :: es) env = (false, eval e env) :: starEach es env := by
  cases e <;> first | rfl | cases h
theorem star_any {pos : Pos} {env : PySem.Env} : ∀ {es : List Expr}, noStar es = true → (backTo pos (starEach es env)).any (·.1) = false
  | [], _ => rfl
  | e :: es, h => by
    unfold noStar at h
    rw [List.all_cons, Bool.and_eq_true] at h
    rw [star_eq h.1]
    show (false || (backTo pos (starEach es env)).any (·.1)) = false
    rw [star_any h.2]
    rfl
theorem star_all {pos : Pos} {env : PySem.Env} : ∀ {es : List Expr}, noStar es = true → (backTo pos (starEach es env)).all (fun x => !x.1) = true
  | [], _ => rfl
  | e :: es, h => by
    unfold noStar at h
    rw [List.all_cons, Bool.and_eq_true] at h
    rw [star_eq h.1]
    show (!false && (backTo pos (starEach es env)).all (fun x => !x.1)) = true
    rw [star_all h.2]
    rfl

/-! ### what comes first, of the other ends -/
theorem PostA.first {K : PySem.W.Frag} {H : Hp} {α : List Addr} {σ : L2.St} {r : R D} {f : D → Hd → R D} {Q : List V → Hp → Prop} {Q' : VK} (hn : 0 < α.length) (h : PostA K fa ca W σ (r.bind f) H α Q)
    (k : ∀ d L v H' α', r = .ok d L → Ext H α H' α' → RHp K fa H' α' L → RV K fa H' α' d v → PostA K fa ca W σ (f d L) H' α' Q → Q' v H') : Post K fa ca W σ r H α Q' := by
  cases r with
  | ok d L => exact fun v H' α' e p rv => k d L v H' α' rfl e p rv (PostA.from hn e h)
  | exc c L => exact h
  | bad => exact h
/-- the list of arguments first, then a run -/
theorem Post.args {K : PySem.W.Frag} {H : Hp} {α : List Addr} {σ : L2.St} {r : R D} {f : D → Hd → R D} {Q : VK} {Q' : List V → Hp → Prop} (hn : 0 < α.length) (h : Post K fa ca W σ (r.bind f) H α Q) (hb : ∀ d L, (∀ ds, d ≠ .tup ds) → f d L = .bad)
    (k : ∀ ds L vs H' α', r = .ok (.tup ds) L → Ext H α H' α' → RHp K fa H' α' L → RVs K fa H' α' ds vs → Post K fa ca W σ (f (.tup ds) L) H' α' Q → Q' vs H') : PostA K fa ca W σ r H α Q' := by
  cases r with
  | ok d L =>
    have h' : Post K fa ca W σ (f d L) H α Q := h
    by_cases hd : ∃ ds, d = .tup ds
    · obtain ⟨ds, rfl⟩ := hd
      exact ⟨ds, rfl, fun vs H' α' e p rv => k ds L vs H' α' rfl e p rv (Post.from hn e h)⟩
    · rw [hb d L fun ds e => hd ⟨ds, e⟩] at h'
      exact h'.elim
  | exc c L => exact h
  | bad => exact h
/-- a value first, then a test -/
theorem PostT.first {K : PySem.W.Frag} {H : Hp} {α : List Addr} {σ : L2.St} {r : R D} {f : D → Hd → R D} {Q : Bool → Hp → Prop} {Q' : VK} (hn : 0 < α.length) (h : PostT K fa ca W σ (r.bind f) H α Q)
    (k : ∀ d L v H' α', r = .ok d L → Ext H α H' α' → RHp K fa H' α' L → RV K fa H' α' d v → PostT K fa ca W σ (f d L) H' α' Q → Q' v H') : Post K fa ca W σ r H α Q' := by
  cases r with
  | ok d L => exact fun v H' α' e p rv => k d L v H' α' rfl e p rv (PostT.from hn e h)
  | exc c L => exact h
  | bad => exact h
/-- a test first, then a test -/
theorem PostT.test {K : PySem.W.Frag} {H : Hp} {α : List Addr} {σ : L2.St} {r : R D} {t f : Hd → R D} {Q : Bool → Hp → Prop} {Q' : Bool → Hp → Prop} (hn : 0 < α.length) (h : PostT K fa ca W σ (r.bind fun d L => onBl d (t L) (f L)) H α Q)
    (k1 : ∀ L H' α', r = .ok (.bl true) L → Ext H α H' α' → RHp K fa H' α' L → PostT K fa ca W σ (t L) H' α' Q → Q' true H')
    (k0 : ∀ L H' α', r = .ok (.bl false) L → Ext H α H' α' → RHp K fa H' α' L → PostT K fa ca W σ (f L) H' α' Q → Q' false H') : PostT K fa ca W σ r H α Q' := by
  cases r with
  | ok d L =>
    have h' : PostT K fa ca W σ (onBl d (t L) (f L)) H α Q := h
    cases d with
    | bl b =>
      refine ⟨b, rfl, fun H' α' e p => ?_⟩
      cases b with
      | true => exact k1 L H' α' rfl e p (PostT.from hn e h')
      | false => exact k0 L H' α' rfl e p (PostT.from hn e h')
    | _ => exact h'.elim
  | exc c L => exact h
  | bad => exact h
/-- a test first, then a value -/
theorem Post.test {K : PySem.W.Frag} {H : Hp} {α : List Addr} {σ : L2.St} {r : R D} {t f : Hd → R D} {Q : VK} {Q' : VK} (hn : 0 < α.length) (h : Post K fa ca W σ (r.bind fun d L => onBl d (t L) (f L)) H α Q)
    (k1 : ∀ L H' α', r = .ok (.bl true) L → Ext H α H' α' → RHp K fa H' α' L → Post K fa ca W σ (t L) H' α' Q → Q' (.bl true) H')
    (k0 : ∀ L H' α', r = .ok (.bl false) L → Ext H α H' α' → RHp K fa H' α' L → Post K fa ca W σ (f L) H' α' Q → Q' (.bl false) H') : Post K fa ca W σ r H α Q' := by
  cases r with
  | ok d L =>
    have h' : Post K fa ca W σ (onBl d (t L) (f L)) H α Q := h
    cases d with
    | bl b =>
      refine fun v H' α' e p rv => ?_
      cases rv
      cases b with
      | true => exact k1 L H' α' rfl e p (Post.from hn e h')
      | false => exact k0 L H' α' rfl e p (Post.from hn e h')
    | _ => exact h'.elim
  | exc c L => exact h
  | bad => exact h

/-! ### arguments -/
theorem pa_sem {ce : Expr → Ex} (ih : ∀ e, PE X e (sE X fa ca Φ W η (ce e))) : ∀ {es : List Expr}, noStar es = true → PA X es (sA X fa ca Φ W η (compA ce es))
  | [], _ => paImp pa_nil fun σ H Q q => by
    obtain ⟨ρ, L, α, re, rp, ds, e, q⟩ := q
    cases e
    exact q [] H α Ext.refl rp .nil
  | e :: es, h => by
    unfold noStar at h
    rw [List.all_cons, Bool.and_eq_true] at h
    refine paImp (pa_cons (ih e) (pa_sem ih h.2) (star_eq h.1)) fun σ H Q q => ?_
    obtain ⟨ρ, L, α, re, rp, q⟩ := q
    refine ⟨ρ, L, α, re, rp, PostA.first rp.ne q fun d L1 v H1 α1 e0 e1 p1 r1 q1 => ?_⟩
    refine ⟨ρ, L1, α1, re.ext e1 rp, p1, ?_⟩
    cases hr : evE Φ (compA ce es) ρ L1 with
    | ok d2 L2 =>
      rw [hr] at q1
      cases d2 with
      | tup ds =>
        refine ⟨ds, rfl, fun vs H2 α2 e2 p2 r2 => ?_⟩
        obtain ⟨ds', ed, q1⟩ := q1
        cases ed
        exact q1 _ H2 α2 e2 p2 (.cons (r1.ext e2 p1.tl) r2)
      | _ => exact q1.elim
    | exc c L2 =>
      rw [hr] at q1
      exact q1
    | bad =>
      rw [hr] at q1
      exact q1

/-! ### the pieces -/
theorem pe_nameS (C : Cok ct k fa ca Φ hot W η X) {x : Str} {pos : Pos} : PE X (.Name x pos) (sE X fa ca Φ W η (nameE ct X.N X.env.scope x)) := by
  unfold nameE
  split
  · exact pe_bad rfl
  · rename_i hodd
    have hodd' : odd x = false := by simpa using hodd
    split
    · rename_i hv
      split
      · rename_i i hi
        refine peImp (pe_var (ixOf_get hi) (isVis_vis hv) (odd_d hodd') (odd_c hodd')) fun σ H Q q => ?_
        obtain ⟨ρ, L, α, re, rp, q⟩ := q
        unfold evE getV at q
        split at q
        · exact q.elim
        · rename_i d hx hd
          obtain ⟨v, hv2, rv⟩ := re.2.1 i d hd fun c e => by
            subst e
            exact hx c rfl
          exact ⟨v, hv2, q v H α Ext.refl rp rv⟩
        · exact q.elim
      · exact pe_bad rfl
    · split
      · rename_i hg
        split
        · rename_i hf
          obtain ⟨ad, fd, ps, h1, h2, _⟩ := (C.gl.fn x hf).ex
          refine peImp (pe_glob (v := .ref ad) (isGl_gl hg) h2 rfl (odd_d hodd')) fun σ H Q q => ?_
          obtain ⟨ρ, L, α, re, rp, q⟩ := q
          exact q _ H α Ext.refl rp (.fn h1)
        · split
          · rename_i e he
            obtain ⟨d, u, v, h1, h2, h3, h4⟩ := C.gl.co x e he
            refine peImp (pe_glob (v := v) (isGl_gl hg) h2 h3 (odd_d hodd')) fun σ H Q q => ?_
            obtain ⟨ρ, L, α, re, rp, q⟩ := q
            unfold evE at q
            rw [lit_ev h1] at q
            exact q _ H α Ext.refl rp (h4 H α)
          · exact pe_bad rfl
      · exact pe_bad rfl
theorem pe_cmpS (C : Cok ct k fa ca Φ hot W η X) {op : CmpOp} {a b : Expr} {ma mb : Ex} {pos : Pos} (ha : PE X a (sE X fa ca Φ W η ma)) (hb : PE X b (sE X fa ca Φ W η mb)) : PE X (.Compare a [op] [b] pos) (sE X fa ca Φ W η (cmpE op ma mb b)) := by
  unfold cmpE
  split
  · rename_i o ho
    split
    · rename_i hs
      rw [copOf_to ho]
      exact peImp (pe_cmpR (op_cmp C.units o) ha hb (noSet_marks hs)) fun σ H Q q => sem2 (fun _ _ _ => cmpop_calm _ _ _ _) q
    · exact pe_bad rfl
  · split
    · split
      · rename_i hn
        unfold isNone at hn
        split at hn
        · refine peImp (pe_cmp (pc_isN ha) rfl) fun σ H Q q => ?_
          obtain ⟨ρ, L, α, re, rp, q⟩ := q
          refine ⟨ρ, L, α, re, rp, q.first rp.ne fun d L1 v H1 α1 e0 e1 p1 r1 q1 => ?_⟩
          have q2 := q1 _ H1 α1 Ext.refl p1 (.bl _)
          cases r1 <;> exact q2
        · cases hn
      · exact pe_bad rfl
    · split
      · rename_i hn
        unfold isNone at hn
        split at hn
        · refine peImp (pe_cmp (pc_notN ha) rfl) fun σ H Q q => ?_
          obtain ⟨ρ, L, α, re, rp, q⟩ := q
          refine ⟨ρ, L, α, re, rp, q.first rp.ne fun d L1 v H1 α1 e0 e1 p1 r1 q1 => ?_⟩
          have q2 := q1 _ H1 α1 Ext.refl p1 (.bl _)
          cases r1 <;> exact q2
        · cases hn
      · exact pe_bad rfl
    · exact pe_bad rfl
/-- and, or: values -/
theorem pe_boolS {o : BoolOp} {pos : Pos} {ce : Expr → Ex} (ih : ∀ e, PE X e (sE X fa ca Φ W η (ce e))) : ∀ {es : List Expr}, PE X (.BoolOp o es pos) (sE X fa ca Φ W η (boolL o (es.map ce)))
  | [] => pe_bad rfl
  | [a] => peImp (pe_one (ih a)) fun _ _ _ q => q
  | a :: b :: r => by
    cases o with
    | And =>
      refine peImp (pe_and (ih a) (pe_boolS ih (es := b :: r))) fun σ H Q q => ?_
      obtain ⟨ρ, L, α, re, rp, q⟩ := q
      refine ⟨ρ, L, α, re, rp, Post.test rp.ne q (fun L1 H1 α1 e0 e1 p1 q1 => ?_) fun L1 H1 α1 e0 e1 p1 q1 => ?_⟩
      · exact ⟨true, rfl, iteT ⟨ρ, L1, α1, re.ext e1 rp, p1, q1⟩⟩
      · exact ⟨false, rfl, iteF (q1 _ H1 α1 Ext.refl p1 (.bl _))⟩
    | Or =>
      refine peImp (pe_or (ih a) (pe_boolS ih (es := b :: r))) fun σ H Q q => ?_
      obtain ⟨ρ, L, α, re, rp, q⟩ := q
      refine ⟨ρ, L, α, re, rp, Post.test rp.ne q (fun L1 H1 α1 e0 e1 p1 q1 => ?_) fun L1 H1 α1 e0 e1 p1 q1 => ?_⟩
      · exact ⟨true, rfl, iteT (q1 _ H1 α1 Ext.refl p1 (.bl _))⟩
      · exact ⟨false, rfl, iteF ⟨ρ, L1, α1, re.ext e1 rp, p1, q1⟩⟩
/-- .. tests -/
theorem pw_boolS {o : BoolOp} {pos : Pos} {ce : Expr → Ex} (ih : ∀ e, PT X e (sT X fa ca Φ W η (ce e))) : ∀ {es : List Expr}, PW X (.BoolOp o es pos) (sT X fa ca Φ W η (boolL o (es.map ce)))
  | [] => ⟨fun _ _ _ _ _ _ _ q => by
    obtain ⟨ρ, L, α, _, _, q⟩ := q
    exact q.elim⟩
  | [a] => by
    cases o with
    | And => exact pwImp (pw_and1 (ih a)) fun _ _ _ q => q
    | Or => exact pwImp (pw_or1 (ih a)) fun _ _ _ q => q
  | a :: b :: r => by
    cases o with
    | And =>
      refine pwImp (pw_and (ih a) (pw_boolS ih (es := b :: r))) fun σ H Q q => ?_
      obtain ⟨ρ, L, α, re, rp, q⟩ := q
      refine ⟨ρ, L, α, re, rp, PostT.test rp.ne q (fun L1 H1 α1 e0 e1 p1 q1 => ?_) fun L1 H1 α1 e0 e1 p1 q1 => ?_⟩
      · exact iteT ⟨ρ, L1, α1, re.ext e1 rp, p1, q1⟩
      · obtain ⟨b, eb, q1⟩ := q1
        cases eb
        exact iteF (q1 H1 α1 Ext.refl p1)
    | Or =>
      refine pwImp (pw_or (ih a) (pw_boolS ih (es := b :: r))) fun σ H Q q => ?_
      obtain ⟨ρ, L, α, re, rp, q⟩ := q
      refine ⟨ρ, L, α, re, rp, PostT.test rp.ne q (fun L1 H1 α1 e0 e1 p1 q1 => ?_) fun L1 H1 α1 e0 e1 p1 q1 => ?_⟩
      · obtain ⟨b, eb, q1⟩ := q1
        cases eb
        exact iteT (q1 H1 α1 Ext.refl p1)
      · exact iteF ⟨ρ, L1, α1, re.ext e1 rp, p1, q1⟩
/-- a value as a test -/
theorem semT_val {K : PySem.W.Frag} {σ : L2.St} {H : Hp} {Q : Bool → Hp → Prop} {f : Env → Hd → R D} (q : semT K fa ca W η f σ H Q) : tB (semE K fa ca W η f) σ H Q := by
  obtain ⟨ρ, L, α, re, rp, q⟩ := q
  refine ⟨ρ, L, α, re, rp, ?_⟩
  cases hr : f ρ L with
  | ok d L1 =>
    rw [hr] at q
    obtain ⟨b, rfl, q⟩ := q
    intro v H1 α1 e1 p1 r1
    cases r1
    exact ⟨b, rfl, q H1 α1 e1 p1⟩
  | exc c L1 =>
    rw [hr] at q
    exact q
  | bad =>
    rw [hr] at q
    exact q
end
end MP

/-! Calls, subscripts, what is walked. -/
namespace MP
open PySem PySem.Spec PyProof.Rows L2

section
variable {X : Cx} {ct : CT} {k : Nat} {fa ca : Str → Option Addr} {Φ : Str → List D → Hd → R D} {hot : Bool} {W : WX} {η : Option (Addr × Str)}

theorem plainIx_of {b : Expr} (h : ∀ lo hi st p, b ≠ .Slice lo hi st p) : PlainIx b := fun o i => by
  cases b <;> first | rfl | exact absurd rfl (h _ _ _ _)
theorem pe_ixS {a b : Expr} {ma mb : Ex} {pos : Pos} (ha : PE X a (sE X fa ca Φ W η ma)) (hb : PE X b (sE X fa ca Φ W η mb)) (h : ∀ lo hi st p, b ≠ .Slice lo hi st p) : PE X (.Subscript a b pos) (sE X fa ca Φ W η (.ix ma mb)) :=
  peImp (pe_ix ix_sem ha hb (plainIx_of h)) fun σ H Q q => sem2 (fun _ _ _ => ixop_calm _ _ _) q
theorem po_sem {ce : Expr → Ex} (ih : ∀ e, PE X e (sE X fa ca Φ W η (ce e))) (o : Option Expr) : ∃ t, PO X o t ∧ ∀ (σ : L2.St) (H : Hp) (Q : Option Int → Hp → Prop) (ρ : Env) (L : Hd) (α : List Addr) (f : Option Int → Hd → R D) (Q' : VK), REnv X.K fa η H α ρ σ → RHp X.K fa H α L →
    Post X.K fa ca W σ ((evE Φ (optE ce o) ρ L).bind fun d L => onPart d fun i => f i L) H α Q' →
    (∀ i L1 H1 α1, Ext H α H1 α1 → RHp X.K fa H1 α1 L1 → Post X.K fa ca W σ (f i L1) H1 α1 Q' → Q i H1) → t σ H Q := by
  cases o with
  | none =>
    refine ⟨_, po_none, fun σ H Q ρ L α f Q' re rp q hk => ?_⟩
    exact hk none L H α Ext.refl rp q
  | some e =>
    refine ⟨_, po_some (ih e), fun σ H Q ρ L α f Q' re rp q hk => ?_⟩
    refine ⟨ρ, L, α, re, rp, Post.first rp.ne q fun d L1 v H1 α1 e0 e1 p1 r1 q1 => ?_⟩
    cases r1 with
    | int i => exact ⟨i, rfl, hk (some i) L1 H1 α1 e1 p1 q1⟩
    | _ => exact q1.elim
theorem pe_slS {ce : Expr → Ex} (ih : ∀ e, PE X e (sE X fa ca Φ W η (ce e))) {a : Expr} {lo hi : Option Expr} {p2 pos : Pos} :
    PE X (.Subscript a (.Slice lo hi none p2) pos) (sE X fa ca Φ W η (.sl (ce a) (optE ce lo) (optE ce hi))) := by
  obtain ⟨tl, hl, kl⟩ := po_sem ih lo
  obtain ⟨th, hh, kh⟩ := po_sem ih hi
  refine peImp (pe_slice (sl_sem (fa := fa)) (ih a) hl hh) fun σ H Q q => ?_
  obtain ⟨ρ, L, α, re, rp, q⟩ := q
  unfold evE at q
  refine ⟨ρ, L, α, re, rp, Post.first rp.ne q fun d L1 v H1 α1 e0 e1 p1 r1 q1 => ?_⟩
  refine kl σ H1 _ ρ L1 α1 _ Q (re.ext e1 rp) p1 q1 fun i L2 H2 α2 e2 p2 q2 => ?_
  refine kh σ H2 _ ρ L2 α2 _ Q (re.ext (e1.trans rp.ne e2) rp) p2 q2 fun j L3 H3 α3 e3 p3 q3 => ?_
  exact ⟨d, L3, α3, p3, r1.ext (e2.trans p1.ne e3) p1.tl, q3.v (slop_calm _ _ _ _)⟩

/-! ### calls of defs -/
theorem callOn_calm (f : Str) (d : D) (L : Hd) (h : ∀ ds, d ≠ .tup ds) : callOn Φ f d L = .bad := by
  cases d <;> first | rfl | exact absurd rfl (h _)
theorem pe_callS' (C : Cok ct k fa ca Φ false W η X) {ce : Expr → Ex} (ih : ∀ e, PE X e (sE X fa ca Φ W η (ce e))) {x : Str} {p pos : Pos} {as : List Expr} (hx : odd x = false) (hg : isGl X.env.scope x = true) (hf : ct.fns.contains x = true) (hs : noStar as = true) (hne : as.isEmpty = false) :
    PE X (.Call (.Name x p) as [] pos) (sE X fa ca Φ W η (.call x (compA ce as))) := by
  obtain ⟨ad, fd, ps, h1, h2, h3, h4, h5, h6⟩ := (C.gl.fn x hf).ex
  cases as with
  | nil => cases hne
  | cons e es =>
    have hs' := hs
    unfold noStar at hs'
    rw [List.all_cons, Bool.and_eq_true] at hs'
    refine peImp (pe_callS (E := WE W) h6 (C.room rfl) (isGl_gl hg) h2 h3 h4 (fun σ => passAt C.tk σ) (pa_sem ih hs) (odd_d hx) (star_eq hs'.1) (star_any hs'.2)) fun σ H Q q => ?_
    obtain ⟨ρ, L, α, re, rp, q⟩ := q
    unfold evE at q
    refine ⟨ρ, L, α, re, rp, Post.args rp.ne q (fun d L h => callOn_calm x d L h) fun ds L1 vs H1 α1 e0 e1 p1 r1 q1 => ?_⟩
    have q2 : Post X.K fa ca W σ (Φ x ds L1) H1 α1 Q := q1
    refine ⟨ds, L1, α1, ?_, r1, p1, q2⟩
    by_cases hl : ds.length = ps.length
    · exact hl
    · rw [h5 ds L1 hl] at q2
      exact q2.elim
theorem pe_callvS (C : Cok ct k fa ca Φ false W η X) {ce : Expr → Ex} (ih : ∀ e, PE X e (sE X fa ca Φ W η (ce e))) {x : Str} {p pos : Pos} {as : List Expr} {i : Nat} (hx : odd x = false) (hv : isVis X.env.scope x = true) (hi : X.N[i]? = some x) (hs : noStar as = true) (hne : as.isEmpty = false) :
    PE X (.Call (.Name x p) as [] pos) (sE X fa ca Φ W η (.callv i (compA ce as))) := by
  cases as with
  | nil => cases hne
  | cons e es =>
    have hs' := hs
    unfold noStar at hs'
    rw [List.all_cons, Bool.and_eq_true] at hs'
    refine ⟨fun pins s σ H Q I q => ?_⟩
    obtain ⟨ρ, L, α, re, rp, q⟩ := q
    unfold evE at q
    split at q
    · rename_i f hf
      obtain ⟨v, hσ, rv⟩ := re.2.1 i (.fn f) hf fun c e => by cases e
      cases rv with
      | @fn _ ad ha =>
        obtain ⟨ad', fd, ps, h1, h2, h3, h4, h5, h6⟩ := (C.gl.fn f (C.gl.fnv f ad ha)).ex
        rw [ha] at h1
        cases h1
        refine (pe_callL (X := X) (dvs := []) (E := E0) h6 (C.room rfl) hi (isVis_vis hv) h3 h4 .nil passL (pa_sem ih hs) (odd_d hx) (odd_c hx) (star_eq hs'.1) (star_any hs'.2)).run pins s σ H Q I ⟨hσ, ?_⟩
        refine ⟨ρ, L, α, re, rp, Post.args rp.ne q (fun d L h => by rw [callOn_calm f d L h]) fun ds L1 vs H1 α1 e0 e1 p1 r1 q1 => ?_⟩
        rw [List.append_nil]
        have q2 : Post X.K fa ca W σ (match Φ f ds L1 with | .ok d L => .ok d L | _ => .bad) H1 α1 Q := q1
        cases hr : Φ f ds L1 with
        | ok d2 L2 =>
          rw [hr] at q2
          refine ⟨ds, L1, α1, ?_, r1, p1, ?_⟩
          · by_cases hl : ds.length = ps.length
            · exact hl
            · rw [h5 ds L1 hl] at hr
              cases hr
          · rw [hr]
            exact q2
        | exc c L2 =>
          rw [hr] at q2
          exact q2.elim
        | bad =>
          rw [hr] at q2
          exact q2.elim
    · exact q.elim

/-! ### calls of built-in functions and methods -/
theorem Post.argsV {K : PySem.W.Frag} {H : Hp} {α : List Addr} {σ : L2.St} {r : R D} {h : List D → Hd → R D} {Q : VK} {Q' : List V → Hp → Prop} (hn : 0 < α.length) (hc : ∀ ds L, Calm (h ds L))
    (q : Post K fa ca W σ (r.bind fun d L => match d with | .tup ds => h ds L | _ => .bad) H α Q) (hk : ∀ vs H', rSemL K fa h vs H' Q → Q' vs H') : PostA K fa ca W σ r H α Q' := by
  refine Post.args hn q (fun d L hd => ?_) fun ds L1 vs H1 α1 e0 e1 p1 r1 q1 => ?_
  · cases d <;> first | rfl | exact absurd rfl (hd _)
  · exact hk vs H1 ⟨ds, L1, α1, p1, r1, Post.v (hc _ _) q1⟩
theorem biOf_spec {x : Str} {b : Bi} (h : biOf x = some b) : b ≠ .sortedR ∧ ((∃ id, toFn b = .builtin id ∧ bootBuiltins x = some (.builtin id)) ∨ ∃ T, toFn b = .type T ∧ bootBuiltins x = some (.type T)) := by
  unfold biOf at h
  repeat' split at h
  all_goals cases h
  all_goals (rename_i e; first | subst e | skip)
  all_goals refine ⟨by decide, ?_⟩
  all_goals first
    | exact .inl ⟨_, rfl, by decide +kernel⟩
    | exact .inr ⟨_, rfl, by decide +kernel⟩
theorem pe_biS (C : Cok ct k fa ca Φ false W η X) {ce : Expr → Ex} (ih : ∀ e, PE X e (sE X fa ca Φ W η (ce e))) {x : Str} {p pos : Pos} {as : List Expr} {b : Bi} (hx : odd x = false) (hg : isGl X.env.scope x = true) (hb : ct.bt.contains x = true) (hs : noStar as = true) (hne : as.isEmpty = false) (hbi : biOf x = some b) :
    PE X (.Call (.Name x p) as [] pos) (sE X fa ca Φ W η (.bi b (compA ce as))) := by
  have hm := C.gl.bt x hb
  obtain ⟨hnr, hboot⟩ := biOf_spec hbi
  have imp : ∀ σ H Q, sE X fa ca Φ W η (.bi b (compA ce as)) σ H Q → tCB (rSemL X.K fa (biop b)) (sA X fa ca Φ W η (compA ce as)) σ H Q := fun σ H Q q => by
    obtain ⟨ρ, L, α, re, rp, q⟩ := q
    unfold evE at q
    exact ⟨ρ, L, α, re, rp, Post.argsV rp.ne (biop_calm b) q fun _ _ h => h⟩
  cases as with
  | nil => cases hne
  | cons e es =>
    have hs' := hs
    unfold noStar at hs'
    rw [List.all_cons, Bool.and_eq_true] at hs'
    have hcall := call_bi (X := X) (fa := fa) (C.calm rfl) b hnr
    rcases hboot with ⟨id, h1, h2⟩ | ⟨T, h1, h2⟩
    · rw [h1] at hcall
      exact peImp (pe_callB hcall (isGl_gl hg) hm h2 (pa_sem ih hs) (odd_n hx) (odd_d hx) (star_eq hs'.1) (star_any hs'.2)) imp
    · rw [h1] at hcall
      exact peImp (pe_callTy hcall (isGl_gl hg) hm h2 (pa_sem ih hs) (odd_n hx) (odd_d hx) (star_eq hs'.1) (star_any hs'.2)) imp
end
end MP

/-! isinstance, methods, calls of any kind. -/
namespace MP
open PySem PySem.Spec PyProof.Rows L2

section
variable {X : Cx} {ct : CT} {k : Nat} {fa ca : Str → Option Addr} {Φ : Str → List D → Hd → R D} {hot : Bool} {W : WX} {η : Option (Addr × Str)}

theorem revKw_eq {kws : List Keyword} (h : revKw kws = true) : ∃ j p q, kws = [⟨some ("reverse" : Str), .Constant (.bool true) j p, q⟩] := by
  unfold revKw at h
  split at h
  · rename_i x j p q
    have e : x = ("reverse" : Str) := beq_iff_eq.mp h
    subst e
    exact ⟨_, _, _, rfl⟩
  · cases h
theorem pe_sortedRS (C : Cok ct k fa ca Φ false W η X) {ce : Expr → Ex} (ih : ∀ e, PE X e (sE X fa ca Φ W η (ce e))) {p pos : Pos} {as : List Expr} {kws : List Keyword} (hg : isGl X.env.scope "sorted" = true) (hb : ct.bt.contains "sorted" = true) (hs : noStar as = true) (hne : as.isEmpty = false)
    (hk : revKw kws = true) : PE X (.Call (.Name "sorted" p) as kws pos) (sE X fa ca Φ W η (.bi .sortedR (compA ce as))) := by
  obtain ⟨j, p1, p2, rfl⟩ := revKw_eq hk
  cases as with
  | nil => cases hne
  | cons e es =>
    have hs' := hs
    unfold noStar at hs'
    rw [List.all_cons, Bool.and_eq_true] at hs'
    refine peImp (pe_callBK (tk := tCons (tC (.bl true)) tNil) (call_sortedR (X := X) (fa := fa)) (isGl_gl hg) (C.gl.bt _ hb) (by decide +kernel) (pa_sem ih hs) (pk_cons pe_bl pk_nil) (by decide) (by decide)
      (by rw [star_eq hs'.1]; rfl) (star_any hs) (by rfl) (by rfl) (by rfl)) fun σ H Q q => ?_
    obtain ⟨ρ, L, α, re, rp, q⟩ := q
    unfold evE at q
    exact ⟨ρ, L, α, re, rp, Post.argsV rp.ne (biop_calm .sortedR) q fun vs H1 h => ⟨rfl, h⟩⟩

/-! ### isinstance -/
theorem tyOf_spec {t : Str} {ty : Ty} (h : tyOf t = some ty) : bootBuiltins t = some (.type (tn ty)) := by
  unfold tyOf at h
  repeat' split at h
  all_goals cases h
  all_goals (rename_i e; first | subst e | skip)
  all_goals decide +kernel
theorem pe_isiS (C : Cok ct k fa ca Φ hot W η X) {ce : Expr → Ex} (ih : ∀ e, PE X e (sE X fa ca Φ W η (ce e))) {p pos : Pos} {as : List Expr} (hg : isGl X.env.scope "isinstance" = true) : PE X (.Call (.Name "isinstance" p) as [] pos) (sE X fa ca Φ W η (isiE ct X.N hot X.env.scope ce as)) := by
  unfold isiE
  split
  · rename_i a t pt
    split
    · rename_i hc
      obtain ⟨h1, h2, h3, h4⟩ := hc
      have hboot : bootBuiltins "isinstance" = some (.builtin "isinstance") := by decide +kernel
      split
      · -- an exception that the suite holds
        rename_i hhot
        split
        · rename_i y py
          split
          · rename_i hy
            obtain ⟨hv, hyo, hcl⟩ := hy
            split
            · rename_i i hi
              refine ⟨fun pins s σ H Q I q => ?_⟩
              obtain ⟨ρ, L, α, re, rp, q⟩ := q
              unfold evE at q
              split at q
              · rename_i c hcρ
                obtain ⟨a, hη, hσ⟩ := re.2.2 i c hcρ
                obtain ⟨_, D, hD, hcall⟩ := C.isE a c hη
                have hcls : ct.cls.contains t = true ∨ t = ("ValueError" : Str) := by
                  rcases hcl with ⟨h, _⟩ | ⟨h, _⟩
                  · exact .inl h
                  · exact .inr h
                obtain ⟨u, hu, hk, _⟩ := C.gl.kit c D t hD hcls
                have hpt : ∃ v, (∀ w, RelV v w → w = u) ∧ PE X (.Name t pt) (tC v) := by
                  unfold clsV at hu
                  split at hu
                  · rename_i ht
                    cases hu
                    subst ht
                    rcases hcl with ⟨_, hne⟩ | ⟨_, hbt⟩
                    · exact absurd rfl hne
                    · exact ⟨.ty "ValueError", fun w r => r, pe_bltn (isGl_gl h1) (C.gl.bt _ hbt) (by decide +kernel) rfl (odd_n h2) (odd_d h2)⟩
                  · rename_i ht
                    rcases hcls with h | h
                    · obtain ⟨C1, hC1⟩ := C.gl.cl _ h
                      rw [hC1] at hu
                      cases hu
                      exact ⟨.ref C1, fun w r => r, pe_glob (isGl_gl h1) hC1 rfl (odd_d h2)⟩
                    · exact absurd h ht
                obtain ⟨v, hvu, hpe⟩ := hpt
                have hpa : PA X [Expr.Name y py, Expr.Name t pt] (tCons (tVar i) (tCons (tC v) tNil)) := pa_cons (pe_var (ixOf_get hi) (isVis_vis hv) (odd_d hyo) (odd_c hyo)) (pa_cons hpe pa_nil)
                refine (pe_callB hcall (isGl_gl hg) (C.gl.bt _ h3) hboot hpa (by decide) (by decide) (by rfl) (by rfl)).run pins s σ H Q I ?_
                refine ⟨.ref a, hσ, v, u, isSub c t, rfl, hvu, hk, ?_⟩
                exact q _ H α Ext.refl rp (.bl _)
              · exact q.elim
            · exact pe_bad rfl
          · exact pe_bad rfl
        · exact pe_bad rfl
      · split
        · rename_i ty hty
          split
          · rename_i hbt
            have hpa : PA X [a, Expr.Name t pt] (tCons (sE X fa ca Φ W η (ce a)) (tCons (tC (.ty (tn ty))) tNil)) := pa_cons (ih a) (pa_cons (pe_bltn (isGl_gl h1) (C.gl.bt _ hbt) (tyOf_spec hty) rfl (odd_n h2) (odd_d h2)) pa_nil (by rfl)) (star_eq h4)
            refine peImp (pe_callB (call_isi (X := X)) (isGl_gl hg) (C.gl.bt _ h3) hboot hpa (by decide) (by decide) (star_eq h4) (by rfl)) fun σ H Q q => ?_
            obtain ⟨ρ, L, α, re, rp, q⟩ := q
            unfold evE at q
            refine ⟨ρ, L, α, re, rp, Post.first rp.ne q fun d L1 v H1 α1 e0 e1 p1 r1 q1 => ?_⟩
            exact isi_sem p1 r1 (q1.v (tyop_calm _ _ _))
          · exact pe_bad rfl
        · exact pe_bad rfl
    · exact pe_bad rfl
  · exact pe_bad rfl

/-! ### methods -/
theorem tyL {K : PySem.W.Frag} {H : Hp} {α : List Addr} {L : Hd} {n : Nat} {x : V} (p : RHp K fa H α L) (r : RV K fa H α (.ref n) x) : tyV K "list" x H := by
  cases r with
  | ref h1 =>
    have hl : n < L.length := by
      rw [← p.len]
      exact (List.getElem?_eq_some_iff.mp h1).1
    cases hc : L[n] with
    | lst xs =>
      have hx : getL L n = some xs := by
        unfold getL
        rw [List.getElem?_eq_getElem hl, hc]
      obtain ⟨vs, _, hq⟩ := p.seq h1 hx
      exact .inl ⟨rfl, vs, hq⟩
def meId : Me → String
  | .append => "list.append"
  | .pop => "list.pop"
  | .popAt => "list.pop"
  | .clear => "list.clear"
  | .reverse => "list.reverse"
  | .insert => "list.insert"
  | .partition => "str.partition"
  | .replace => "str.replace"
  | .split => "str.split"
  | .startswith => "str.startswith"
  | .join => "str.join"
def lstMe : Me → Bool
  | .append => true
  | .pop => true
  | .popAt => true
  | .clear => true
  | .reverse => true
  | .insert => true
  | _ => false
theorem recv_list {m : Me} {d : D} (hm : lstMe m = true) (h : recv m d = true) : ∃ n, d = .ref n := by
  cases m <;> cases hm <;> (cases d <;> first | exact ⟨_, rfl⟩ | cases h)
theorem mt_lst {m : Me} (hm : lstMe m = true) : MtR X (meId m) (rSemM X.K fa (meop m)) := by
  cases m with
  | append => exact mt_app
  | pop => exact mt_popS
  | popAt => exact mt_popAtS
  | clear => exact mt_clearS
  | reverse => exact mt_reverseS
  | insert => exact mt_insertS
  | _ => cases hm
theorem base_eq {o : Expr} {nm : Str} (h : plainO o = true) : attributeBase o nm X.env (eval o X.env) = eval o X.env := by
  cases o <;> first | rfl | cases h
structure MeS (m : Me) (x : Str) (n : Nat) : Prop where
  lst : lstMe m = true
  slot : Slot "list" x (meId m)
  ty : typeOf (.builtin (meId m)) = pure (.type "method_descriptor")
  many : n < 20
theorem meOf_spec {x : Str} {n : Nat} {m : Me} (h : meOf x n = some m) : MeS m x n := by
  unfold meOf at h
  split at h
  · rename_i e
    obtain ⟨rfl, rfl⟩ := e
    cases h
    exact ⟨rfl, PySem.F.slot_list_append, PySem.F.type_list_append, by decide⟩
  · split at h
    · rename_i e
      obtain ⟨rfl, rfl⟩ := e
      cases h
      exact ⟨rfl, PySem.F.slot_list_pop, PySem.F.type_list_pop, by decide⟩
    · split at h
      · rename_i e
        obtain ⟨rfl, rfl⟩ := e
        cases h
        exact ⟨rfl, PySem.F.slot_list_pop, PySem.F.type_list_pop, by decide⟩
      · split at h
        · rename_i e
          obtain ⟨rfl, rfl⟩ := e
          cases h
          exact ⟨rfl, PySem.F.slot_list_clear, PySem.F.type_list_clear, by decide⟩
        · split at h
          · rename_i e
            obtain ⟨rfl, rfl⟩ := e
            cases h
            exact ⟨rfl, PySem.F.slot_list_reverse, PySem.F.type_list_reverse, by decide⟩
          · split at h
            · rename_i e
              obtain ⟨rfl, rfl⟩ := e
              cases h
              exact ⟨rfl, PySem.F.slot_list_insert, PySem.F.type_list_insert, by decide⟩
            · cases h
theorem pe_meS {ce : Expr → Ex} (ih : ∀ e, PE X e (sE X fa ca Φ W η (ce e))) {o : Expr} {x : Str} {ap p : Pos} {as : List Expr} {m : Me} (ho : plainO o = true) (hl : (ap.endLine == p.line) = true) (hs : noStar as = true) (hm : meOf x as.length = some m) :
    PE X (.Call (.Attribute o x ap) as [] p) (sE X fa ca Φ W η (.me m (ce o) (compA ce as))) := by
  have S := meOf_spec hm
  cases as with
  | nil =>
    refine peImp (pe_bm0 PySem.F.plainAttrs_list S.slot S.ty (mt_lst (fa := fa) S.lst) (ih o) (base_eq ho) hl) fun σ H Q q => ?_
    obtain ⟨ρ, L, α, re, rp, q⟩ := q
    unfold evE at q
    refine ⟨ρ, L, α, re, rp, Post.first rp.ne q fun d L1 v H1 α1 e0 e1 p1 r1 q1 => ?_⟩
    split at q1
    · rename_i hr
      obtain ⟨n, rfl⟩ := recv_list S.lst hr
      have q2 : Post X.K fa ca W σ (meop m (.ref n) [] L1) H1 α1 Q := q1
      exact ⟨tyL p1 r1, _, [], L1, α1, p1, r1, .nil, q2.v (meop_calm _ _ _ _)⟩
    · exact q1.elim
  | cons e es =>
    have hs' := hs
    unfold noStar at hs'
    rw [List.all_cons, Bool.and_eq_true] at hs'
    have hmany := S.many
    refine peImp (pe_bm PySem.F.plainAttrs_list S.slot S.ty (mt_lst (fa := fa) S.lst) (ih o) (pa_sem ih hs) (base_eq ho) (by
      rw [star_all hs]
      simp only [List.length_cons] at hmany
      simp only [List.length_cons, List.length_nil, Bool.true_and]
      show (true && decide (es.length + 1 + 0 + 0 < 30)) = true
      rw [Bool.true_and, decide_eq_true_eq]
      omega) hl (star_eq hs'.1) (star_any hs'.2)) fun σ H Q q => ?_
    obtain ⟨ρ, L, α, re, rp, q⟩ := q
    unfold evE at q
    refine ⟨ρ, L, α, re, rp, Post.first rp.ne q fun d L1 v H1 α1 e0 e1 p1 r1 q1 => ?_⟩
    split at q1
    · rename_i hr
      obtain ⟨n, rfl⟩ := recv_list S.lst hr
      refine ⟨tyL p1 r1, ρ, L1, α1, re.ext e1 rp, p1, Post.args p1.ne q1 (fun d L hd => ?_) fun ds L2 vs H2 α2 e0 e2 p2 r2 q2 => ?_⟩
      · cases d <;> first | rfl | exact absurd rfl (hd _)
      · exact ⟨_, ds, L2, α2, p2, r1.ext e2 p1.tl, r2, Post.v (meop_calm _ _ _ _) q2⟩
    · exact q1.elim

/-! ### a call of any kind -/
theorem nil_of {α : Type} {l : List α} (h : l.isEmpty = true) : l = [] := List.isEmpty_iff.mp h
theorem pe_callAny (C : Cok ct k fa ca Φ hot W η X) {ce : Expr → Ex} (ih : ∀ e, PE X e (sE X fa ca Φ W η (ce e))) {f : Expr} {as : List Expr} {kws : List Keyword} {p : Pos} : PE X (.Call f as kws p) (sE X fa ca Φ W η (callE ct X.N hot X.env.scope ce f as kws p)) := by
  unfold callE
  split
  · rename_i x px
    split
    · exact pe_bad rfl
    · rename_i hodd
      have ho : odd x = false := by simpa using hodd
      split
      · rename_i hv
        split
        · exact pe_bad rfl
        · rename_i hh
          simp only [not_or, Bool.not_eq_false, Bool.not_eq_true] at hh
          obtain ⟨h1, h2, h3, h4⟩ := hh
          subst h1
          obtain rfl := nil_of h4
          split
          · rename_i i hi
            exact pe_callvS C ih ho hv (ixOf_get hi) h2 h3
          · exact pe_bad rfl
      · split
        · rename_i hg
          split
          · rename_i hf
            split
            · exact pe_bad rfl
            · rename_i hh
              simp only [not_or, Bool.not_eq_false, Bool.not_eq_true] at hh
              obtain ⟨h1, h2, h3, h4⟩ := hh
              subst h1
              obtain rfl := nil_of h4
              exact pe_callS' C ih ho hg hf h2 h3
          · split
            · rename_i hb
              split
              · rename_i hx
                subst hx
                split
                · rename_i hk
                  obtain rfl := nil_of hk
                  exact pe_isiS C ih hg
                · exact pe_bad rfl
              · split
                · exact pe_bad rfl
                · rename_i hh
                  simp only [not_or, Bool.not_eq_false, Bool.not_eq_true] at hh
                  obtain ⟨h1, h2, h3⟩ := hh
                  subst h1
                  split
                  · rename_i hr
                    obtain ⟨rfl, hr⟩ := hr
                    exact pe_sortedRS C ih hg hb h2 h3 hr
                  · split
                    · rename_i b hbi
                      split
                      · rename_i hk
                        obtain rfl := nil_of hk
                        exact pe_biS C ih ho hg hb h2 h3 hbi
                      · exact pe_bad rfl
                    · exact pe_bad rfl
            · exact pe_bad rfl
        · exact pe_bad rfl
  · rename_i o m ap
    split
    · exact pe_bad rfl
    · rename_i hh
      simp only [not_or, Bool.not_eq_false, Bool.not_eq_true] at hh
      obtain ⟨h1, h2, h3, h4, h5⟩ := hh
      obtain rfl := nil_of h2
      split
      · rename_i m' hm
        exact pe_meS ih h4 h5 h3 hm
      · exact pe_bad rfl
  · exact pe_bad rfl
end
end MP

/-! What is walked; comprehensions; all expressions. -/
namespace MP
open PySem PySem.Spec PyProof.Rows L2

/-- the iterator walks the items -/
structure JOk (K : PySem.W.Frag) (fa : Str → Option Addr) (J : It) (w : Option Nat) (xs : List D) (H1 : Hp) (α1 : List Addr) : Prop where
  go : ∀ i H α L, RHp K fa H α L → Ext H1 α1 H α → seen w xs L → i < xs.length → J.go i H
  yld : ∀ i H α L x H', RHp K fa H α L → Ext H1 α1 H α → seen w xs L → i < xs.length → J.yld i H x H' → H' = H ∧ ∃ d, xs[i]? = some d ∧ RV K fa H α d x
  stop : ∀ i H α L, RHp K fa H α L → Ext H1 α1 H α → seen w xs L → xs.length ≤ i → J.stop i H
def PostI (K : PySem.W.Frag) (fa ca : Str → Option Addr) (W : WX) (σ : L2.St) (r : R D) (H : Hp) (α : List Addr) (Q : It → Hp → Prop) : Prop := match r with
  | .ok d L => ∃ w xs, items d L = some (w, xs) ∧ ∀ J H' α', Ext H α H' α' → RHp K fa H' α' L → JOk K fa J w xs H' α' → Q J H'
  | .exc c L => ∀ C H' α', ca c = some C → Ext H α H' α' → RHp K fa H' α' L → W (.ref C) none σ H'
  | .bad => False
def semI (K : PySem.W.Frag) (fa ca : Str → Option Addr) (W : WX) (η : Option (Addr × Str)) (ev : Env → Hd → R D) : TI := fun σ H Q => ∃ ρ L α, REnv K fa η H α ρ σ ∧ RHp K fa H α L ∧ PostI K fa ca W σ (ev ρ L) H α Q

section
variable {X : Cx} {ct : CT} {k : Nat} {fa ca : Str → Option Addr} {Φ : Str → List D → Hd → R D} {hot : Bool} {W : WX} {η : Option (Addr × Str)} {tg : Expr}
theorem PostI.from {K : PySem.W.Frag} {H H' : Hp} {α α' : List Addr} {σ : L2.St} {r : R D} {Q : It → Hp → Prop} (hn : 0 < α.length) (e : Ext H α H' α') (h : PostI K fa ca W σ r H α Q) : PostI K fa ca W σ r H' α' Q := by
  cases r with
  | ok d L =>
    obtain ⟨w, xs, hi, h⟩ := h
    exact ⟨w, xs, hi, fun J H2 α2 e2 => h J H2 α2 (e.trans hn e2)⟩
  | exc c L => exact fun C H2 α2 hc e2 => h C H2 α2 hc (e.trans hn e2)
  | bad => exact h
theorem piImp {it : Expr} {t u : TI} (h : PI X tg it t) (i : ∀ σ H Q, u σ H Q → t σ H Q) : PI X tg it u := ⟨fun pins s σ H Q I q => h.run pins s σ H Q I (i σ H Q q)⟩
theorem piOr {it : Expr} {t u : TI} (h : PI X tg it t) (h' : PI X tg it u) : PI X tg it (fun σ H Q => t σ H Q ∨ u σ H Q) := ⟨fun pins s σ H Q I q => by
  rcases q with q | q
  · exact h.run pins s σ H Q I q
  · exact h'.run pins s σ H Q I q⟩
theorem pi_bad {it : Expr} {m : Ex} (h : m = .bad) : PI X tg it (semI X.K fa ca W η (evE Φ m)) := ⟨fun _ _ _ _ _ _ q => by
  subst h
  obtain ⟨ρ, L, α, _, _, q⟩ := q
  exact q.elim⟩
theorem sqL_inj {K : PySem.W.Frag} {H : Hp} {a : Addr} {vs : List V} (h : H a = some (.lst vs)) : ∀ us, SqL K H a us → H a = some (.lst vs) := fun _ _ => h
/-- a list that stands as it did -/
theorem jok_list {K : PySem.W.Frag} {H1 : Hp} {α1 : List Addr} {n : Nat} {a : Addr} {xs : List D} (ha : α1[n]? = some a) : JOk K fa (Itl K a) (some n) xs H1 α1 := by
  have at_ : ∀ {H α L}, RHp K fa H α L → Ext H1 α1 H α → seen (some n) xs L → ∃ vs, RVs K fa H α xs vs ∧ SqL K H a vs := fun {H α L} p e s => by
    obtain ⟨β, rfl, _⟩ := e.app
    have ha' : (α1 ++ β)[n]? = some a := by
      rw [List.getElem?_append_left (List.getElem?_eq_some_iff.mp ha).1]
      exact ha
    exact p.seq ha' s
  refine ⟨fun i H α L p e s hi => ?_, fun i H α L x H' p e s hi y => ?_, fun i H α L p e s hi => ?_⟩
  · obtain ⟨vs, r, q⟩ := at_ p e s
    rw [r.length] at hi
    exact ⟨vs, vs[i], q, by simp [hi]⟩
  · obtain ⟨vs, r, q⟩ := at_ p e s
    obtain ⟨rfl, y⟩ := y
    have hx := y vs q
    obtain ⟨v, hv, rv⟩ := r.get (List.getElem?_eq_getElem hi)
    rw [hx] at hv
    cases hv
    exact ⟨rfl, _, List.getElem?_eq_getElem hi, rv⟩
  · obtain ⟨vs, r, q⟩ := at_ p e s
    rw [r.length] at hi
    exact ⟨vs, q, hi⟩
theorem jok_tup {K : PySem.W.Frag} {H1 : Hp} {α1 : List Addr} {L1 : Hd} {a : Addr} {xs : List D} {vs : List V} (p1 : RHp K fa H1 α1 L1) (h : SqT K H1 a vs) (r : RVs K fa H1 α1 xs vs) : JOk K fa (Itt K a) none xs H1 α1 := by
  refine ⟨fun i H α L p e s hi => ?_, fun i H α L x H' p e s hi y => ?_, fun i H α L p e s hi => ?_⟩
  · rw [r.length] at hi
    exact ⟨vs, vs[i], sqtExt h e p1.tl, by simp [hi]⟩
  · obtain ⟨rfl, y⟩ := y
    have hx := y vs (sqtExt h e p1.tl)
    obtain ⟨v, hv, rv⟩ := r.get (List.getElem?_eq_getElem hi)
    rw [hx] at hv
    cases hv
    exact ⟨rfl, _, List.getElem?_eq_getElem hi, rv.ext e p1.tl⟩
  · rw [r.length] at hi
    exact ⟨vs, sqtExt h e p1.tl, hi⟩
theorem jok_revT {K : PySem.W.Frag} {H1 : Hp} {α1 : List Addr} {L1 : Hd} {a : Addr} {xs : List D} {vs : List V} (p1 : RHp K fa H1 α1 L1) (h : SqT K H1 a vs) (r : RVs K fa H1 α1 xs vs) : JOk K fa (RT.ItvT K a vs.length) none xs.reverse H1 α1 := by
  have hl := r.length
  have gt : ∀ {i : Nat}, i < xs.reverse.length → xs.reverse[i]? = xs[xs.length - 1 - i]? := fun {i} hi => by
    rw [List.length_reverse] at hi
    exact List.getElem?_reverse hi
  refine ⟨fun i H α L p e s hi => ?_, fun i H α L x H' p e s hi y => ?_, fun i H α L p e s hi => ?_⟩
  · rw [List.length_reverse] at hi
    have hi' : vs.length - 1 - i < vs.length := by omega
    exact ⟨by omega, vs, vs[vs.length - 1 - i], sqtExt h e p1.tl, by simp [hi']⟩
  · obtain ⟨rfl, y⟩ := y
    have hx := y vs (sqtExt h e p1.tl)
    have g := gt hi
    rw [List.length_reverse] at hi
    have hi' : xs.length - 1 - i < xs.length := by omega
    obtain ⟨v, hv, rv⟩ := r.get (List.getElem?_eq_getElem hi')
    rw [hl] at hv
    rw [hx] at hv
    cases hv
    exact ⟨rfl, _, by rw [g]; exact List.getElem?_eq_getElem hi', rv.ext e p1.tl⟩
  · rw [List.length_reverse] at hi
    show vs.length ≤ i
    omega
theorem steps_len (lo c : Int) : ∀ n, (steps lo c n).length = n := by
  intro n
  induction n generalizing lo with
  | zero => rfl
  | succ n ih =>
    show (steps (lo + c) c n).length + 1 = n + 1
    rw [ih]
theorem steps_get (c : Int) : ∀ (n i : Nat) (lo : Int), i < n → (steps lo c n)[i]? = some (.int (lo + (i : Nat) * c))
  | 0, _, _, h => absurd h (Nat.not_lt_zero _)
  | n + 1, 0, lo, _ => by
    show some (D.int lo) = _
    congr
    simp
  | n + 1, i + 1, lo, h => by
    have h2 : i < n := by omega
    show (steps (lo + c) c n)[i]? = _
    rw [steps_get c n i (lo + c) h2]
    congr 2
    rw [show ((i + 1 : Nat) : Int) = (i : Int) + 1 from rfl, Int.add_mul]
    omega
theorem jok_steps {K : PySem.W.Frag} {H1 : Hp} {α1 : List Addr} {lo c : Int} {n : Nat} : JOk K fa (Itc lo c n) none (steps lo c n) H1 α1 := by
  refine ⟨fun i H α L p e s hi => ?_, fun i H α L x H' p e s hi y => ?_, fun i H α L p e s hi => ?_⟩
  · rw [steps_len] at hi
    exact hi
  · rw [steps_len] at hi
    obtain ⟨rfl, rfl⟩ := y
    exact ⟨rfl, _, steps_get c n i lo hi, .int _⟩
  · rw [steps_len] at hi
    exact hi
theorem jok_range {K : PySem.W.Frag} {H1 : Hp} {α1 : List Addr} {lo : Int} {n : Nat} : JOk K fa (Itr lo n) none (steps lo 1 n) H1 α1 := by
  refine ⟨fun i H α L p e s hi => ?_, fun i H α L x H' p e s hi y => ?_, fun i H α L p e s hi => ?_⟩
  · rw [steps_len] at hi
    exact hi
  · rw [steps_len] at hi
    obtain ⟨rfl, rfl⟩ := y
    refine ⟨rfl, _, steps_get 1 n i lo hi, ?_⟩
    rw [Int.mul_one]
    exact .int _
  · rw [steps_len] at hi
    exact hi
theorem jok_str {K : PySem.W.Frag} {H1 : Hp} {α1 : List Addr} {z : Str} : JOk K fa (Its z) none (z.cps.toList.map fun c => D.str ⟨#[c]⟩) H1 α1 := by
  refine ⟨fun i H α L p e s hi => ?_, fun i H α L x H' p e s hi y => ?_, fun i H α L p e s hi => ?_⟩
  · show i < z.cps.size
    simpa using hi
  · obtain ⟨rfl, c, hc, rfl⟩ := y
    refine ⟨rfl, .str ⟨#[c]⟩, ?_, .str _⟩
    rw [List.getElem?_map, Array.getElem?_toList, hc]
    rfl
  · show z.cps.size ≤ i
    simpa using hi
/-- a value that is walked -/
theorem pi_val {it : Expr} {m : Ex} (h : PE X it (sE X fa ca Φ W η m)) : PI X tg it (semI X.K fa ca W η (evE Φ m)) := by
  refine piImp (piOr (pi_list h) (piOr (pi_tup h) (pi_str h))) fun σ H Q q => ?_
  obtain ⟨ρ, L, α, re, rp, q⟩ := q
  cases hr : evE Φ m ρ L with
  | ok d L1 =>
    rw [hr] at q
    obtain ⟨w, xs, hi, q⟩ := q
    cases d with
    | tup ds =>
      cases hi
      refine .inr (.inl ⟨ρ, L, α, re, rp, ?_⟩)
      rw [hr]
      intro v H1 α1 e1 p1 r1
      cases r1 with
      | tup h1 r1 => exact ⟨_, rfl, ⟨_, h1⟩, q _ _ _ e1 p1 (jok_tup p1 h1 r1)⟩
    | ref n =>
      refine .inl ⟨ρ, L, α, re, rp, ?_⟩
      rw [hr]
      intro v H1 α1 e1 p1 r1
      cases r1 with
      | ref h1 =>
        unfold items at hi
        dsimp only at hi
        cases hg : getL L1 n with
        | none =>
          rw [hg] at hi
          cases hi
        | some ys =>
          rw [hg] at hi
          cases hi
          obtain ⟨vs, _, hq⟩ := p1.seq h1 hg
          exact ⟨_, rfl, ⟨vs, hq⟩, q _ _ _ e1 p1 (jok_list h1)⟩
    | str z =>
      cases hi
      refine .inr (.inr ⟨ρ, L, α, re, rp, ?_⟩)
      rw [hr]
      intro v H1 α1 e1 p1 r1
      cases r1
      exact ⟨_, rfl, q _ _ _ e1 p1 jok_str⟩
    | _ => cases hi
  | exc c L1 =>
    rw [hr] at q
    refine .inl ⟨ρ, L, α, re, rp, ?_⟩
    rw [hr]
    exact q
  | bad =>
    rw [hr] at q
    exact q.elim
theorem smallB {i : Int} (h : small i) : -(2 ^ 62) ≤ i ∧ i < 2 ^ 62 := by
  unfold small at h
  constructor <;> omega
theorem PostI.args {K : PySem.W.Frag} {H : Hp} {α : List Addr} {σ : L2.St} {r : R D} {f : List D → Hd → R D} {Q : It → Hp → Prop} {Q' : List V → Hp → Prop} (hn : 0 < α.length) (h : PostI K fa ca W σ (r.bind fun d L => match d with | .tup ds => f ds L | _ => .bad) H α Q)
    (k : ∀ ds L vs H' α', r = .ok (.tup ds) L → Ext H α H' α' → RHp K fa H' α' L → RVs K fa H' α' ds vs → PostI K fa ca W σ (f ds L) H' α' Q → Q' vs H') : PostA K fa ca W σ r H α Q' := by
  cases r with
  | ok d L =>
    cases d with
    | tup ds => exact ⟨ds, rfl, fun vs H' α' e p rv => k ds L vs H' α' rfl e p rv (PostI.from hn e (show PostI K fa ca W σ (f ds L) H α Q from h))⟩
    | _ => exact h.elim
  | exc c L => exact h
  | bad => exact h
theorem PostI.first {K : PySem.W.Frag} {H : Hp} {α : List Addr} {σ : L2.St} {r : R D} {f : D → Hd → R D} {Q : It → Hp → Prop} {Q' : VK} (hn : 0 < α.length) (h : PostI K fa ca W σ (r.bind f) H α Q)
    (k : ∀ d L v H' α', r = .ok d L → Ext H α H' α' → RHp K fa H' α' L → RV K fa H' α' d v → PostI K fa ca W σ (f d L) H' α' Q → Q' v H') : Post K fa ca W σ r H α Q' := by
  cases r with
  | ok d L => exact fun v H' α' e p rv => k d L v H' α' rfl e p rv (PostI.from hn e h)
  | exc c L => exact h
  | bad => exact h
theorem compA_len {ce : Expr → Ex} : ∀ {es : List Expr} {ρ : Env} {L L1 : Hd} {ds : List D}, evE Φ (compA ce es) ρ L = .ok (.tup ds) L1 → ds.length = es.length
  | [], ρ, L, L1, ds, h => by
    cases h
    rfl
  | e :: es, ρ, L, L1, ds, h => by
    have h' : ((evE Φ (ce e) ρ L).bind fun x L => (evE Φ (compA ce es) ρ L).bind fun y L => (match y with | .tup ys => .ok (.tup (x :: ys)) L | _ => .bad)) = R.ok (D.tup ds) L1 := h
    cases h1 : evE Φ (ce e) ρ L with
    | ok d L2 =>
      rw [h1, R.bind_ok] at h'
      cases h2 : evE Φ (compA ce es) ρ L2 with
      | ok d2 L3 =>
        rw [h2, R.bind_ok] at h'
        cases d2 with
        | tup ys =>
          cases h'
          have := compA_len h2
          simp [this]
        | _ => cases h'
      | exc c L3 =>
        rw [h2] at h'
        cases h'
      | bad =>
        rw [h2] at h'
        cases h'
    | exc c L2 =>
      rw [h1] at h'
      cases h'
    | bad =>
      rw [h1] at h'
      cases h'
theorem pi_rngS (C : Cok ct k fa ca Φ hot W η X) {ce : Expr → Ex} (ih : ∀ e, PE X e (sE X fa ca Φ W η (ce e))) {p pos : Pos} {as : List Expr} (hg : isGl X.env.scope "range" = true) (hb : ct.bt.contains "range" = true) (hs : noStar as = true) (h0 : 0 < as.length) (h3 : as.length ≤ 3) :
    PI X tg (.Call (.Name "range" p) as [] pos) (semI X.K fa ca W η (evE Φ (.rng (compA ce as)))) := by
  have hm := C.gl.bt _ hb
  have hs' := hs
  match as, h0, h3 with
  | [a], _, _ =>
    unfold noStar at hs'
    simp only [List.all_cons, List.all_nil, Bool.and_true] at hs'
    refine piImp (pi_range1 (isGl_gl hg) hm (pa_sem ih hs) (by rw [star_eq hs']; rfl)) fun σ H Q q => ?_
    obtain ⟨ρ, L, α, re, rp, q⟩ := q
    unfold evE at q
    refine ⟨ρ, L, α, re, rp, PostI.args rp.ne q fun ds L1 vs H1 α1 e0 e1 p1 r1 q1 => ?_⟩
    have hl := compA_len (Φ := Φ) (ce := ce) (es := [a]) (ρ := ρ) (L := L) e0
    unfold rngop at q1
    split at q1
    · obtain ⟨v, rfl, rv⟩ := r1.one
      cases rv
      split at q1
      · rename_i hsm
        obtain ⟨w, xs, hi, q1⟩ := q1
        cases hi
        have hb2 := smallB hsm
        exact ⟨_, rfl, hb2.1, hb2.2, q1 _ _ _ Ext.refl p1 jok_range⟩
      · exact q1.elim
    · cases hl
    · cases hl
    · exact q1.elim
  | [a, b], _, _ =>
    unfold noStar at hs'
    simp only [List.all_cons, List.all_nil, Bool.and_true, Bool.and_eq_true] at hs'
    refine piImp (pi_range2 (isGl_gl hg) hm (pa_sem ih hs) (by rw [star_eq hs'.1, star_eq hs'.2]; rfl) (by rw [star_eq hs'.2]; rfl)) fun σ H Q q => ?_
    obtain ⟨ρ, L, α, re, rp, q⟩ := q
    unfold evE at q
    refine ⟨ρ, L, α, re, rp, PostI.args rp.ne q fun ds L1 vs H1 α1 e0 e1 p1 r1 q1 => ?_⟩
    have hl := compA_len (Φ := Φ) (ce := ce) (es := [a, b]) (ρ := ρ) (L := L) e0
    unfold rngop at q1
    split at q1
    · cases hl
    · obtain ⟨v, w, rfl, rv, rw_⟩ := r1.two
      cases rv; cases rw_
      split at q1
      · rename_i hsm
        obtain ⟨w, xs, hi, q1⟩ := q1
        cases hi
        have hb1 := smallB hsm.1
        have hb2 := smallB hsm.2
        exact ⟨_, _, rfl, ⟨hb1.1, hb1.2, hb2.1, hb2.2⟩, q1 _ _ _ Ext.refl p1 jok_range⟩
      · exact q1.elim
    · cases hl
    · exact q1.elim
  | [a, b, c], _, _ =>
    unfold noStar at hs'
    simp only [List.all_cons, List.all_nil, Bool.and_true, Bool.and_eq_true] at hs'
    refine piImp (pi_range3 (isGl_gl hg) hm (pa_sem ih hs) (star_eq hs'.1) (star_any (by unfold noStar; simp [hs'.2]))) fun σ H Q q => ?_
    obtain ⟨ρ, L, α, re, rp, q⟩ := q
    unfold evE at q
    refine ⟨ρ, L, α, re, rp, PostI.args rp.ne q fun ds L1 vs H1 α1 e0 e1 p1 r1 q1 => ?_⟩
    have hl := compA_len (Φ := Φ) (ce := ce) (es := [a, b, c]) (ρ := ρ) (L := L) e0
    unfold rngop at q1
    split at q1
    · cases hl
    · cases hl
    · cases r1 with
      | cons r1 t1 =>
        obtain ⟨v, w, rfl, rv, rw_⟩ := t1.two
        cases r1; cases rv; cases rw_
        split at q1
        · rename_i hsm
          obtain ⟨w, xs, hi, q1⟩ := q1
          cases hi
          refine ⟨_, _, _, _, rfl, ⟨hsm.1, hsm.2.1, hsm.2.2.1, ?_⟩, q1 _ _ _ Ext.refl p1 jok_steps⟩
          have := hsm.2.2.2
          omega
        · exact q1.elim
    · exact q1.elim
end
end MP

/-! Comprehensions; all expressions. -/
namespace MP
open PySem PySem.Spec PyProof.Rows L2

section
variable {K : PySem.W.Frag} {fa : Str → Option Addr} {H H' : Hp} {α α' : List Addr} {L : Hd}
mutual
theorem RV.mono (ha : ∀ (n : Nat) (a : Addr), α[n]? = some a → α'[n]? = some a) (ht : ∀ a vs, SqT K H a vs → SqT K H' a vs) : ∀ {d : D} {v : V}, RV K fa H α d v → RV K fa H' α' d v
  | _, _, .non => .non
  | _, _, .bl b => .bl b
  | _, _, .int i => .int i
  | _, _, .str x => .str x
  | _, _, .tup h r => .tup (ht _ _ h) (RVs.mono ha ht r)
  | _, _, .ref h => .ref (ha _ _ h)
  | _, _, .fn h => .fn h
theorem RVs.mono (ha : ∀ (n : Nat) (a : Addr), α[n]? = some a → α'[n]? = some a) (ht : ∀ a vs, SqT K H a vs → SqT K H' a vs) : ∀ {ds : List D} {vs : List V}, RVs K fa H α ds vs → RVs K fa H' α' ds vs
  | _, _, .nil => .nil
  | _, _, .cons r t => .cons (RV.mono ha ht r) (RVs.mono ha ht t)
end
theorem app_get {β : List Addr} : ∀ (n : Nat) (a : Addr), α[n]? = some a → (α ++ β)[n]? = some a := fun n a h => by
  rw [List.getElem?_append_left (List.getElem?_eq_some_iff.mp h).1]
  exact h
theorem sqt_upd {D : Addr} {vs us : List V} (hD : H D = some (.lst us)) : ∀ a ws, SqT K H a ws → SqT K (upd H D (.lst vs)) a ws := fun a ws h => by
  rcases h with (h | ⟨o, h⟩) | h
  · refine .inl (.inl ?_)
    rw [upd_ne (ne_of h hD fun z => nomatch z)]
    exact h
  · refine .inl (.inr ⟨o, ?_⟩)
    rw [upd_ne (ne_of h hD fun z => nomatch z)]
    exact h
  · exact .inr h
/-- a list of no concern is written -/
theorem RHp.other {D : Addr} {vs us : List V} (p : RHp K fa H α L) (hD : H D = some (.lst us)) (hn : D ∉ α.tail) : RHp K fa (upd H D (.lst vs)) α L := by
  refine ⟨p.len, p.ne, p.nd, fun a xs h1 h2 => ?_, fun n a xs h1 h2 => ?_⟩
  · obtain ⟨ws, r, f⟩ := p.zero a xs h1 h2
    refine ⟨ws, r.mono (fun _ _ h => h) (sqt_upd hD), ?_⟩
    rcases f with ⟨o, f⟩ | f
    · refine .inl ⟨o, ?_⟩
      rw [upd_ne (ne_of f hD fun z => nomatch z)]
      exact f
    · exact .inr f
  · obtain ⟨ws, r, f⟩ := p.lst n a xs h1 h2
    refine ⟨ws, r.mono (fun _ _ h => h) (sqt_upd hD), ?_⟩
    rw [upd_ne fun e => hn (by rw [← e]; exact mem_tail h1)]
    exact f
/-- a list that stands becomes ours -/
theorem RHp.addL {D : Addr} {vs : List V} {xs : List MP.D} (p : RHp K fa H α L) (hD : H D = some (.lst vs)) (hn : D ∉ α.tail) (r : RVs K fa H α xs vs) : RHp K fa H (α ++ [D]) (L ++ [.lst xs]) := by
  refine ⟨by simp [p.len], by simp, ?_, fun a ys h1 h2 => ?_, fun n a ys h1 h2 => ?_⟩
  · rw [tail_app p.ne, List.nodup_append]
    refine ⟨p.nd, by simp, fun a ha b hb => ?_⟩
    have : b = D := by simpa using hb
    subst this
    intro q
    subst q
    exact hn ha
  · have hl : 0 < L.length := by rw [← p.len]; exact p.ne
    rw [List.getElem?_append_left p.ne] at h1
    rw [List.getElem?_append_left hl] at h2
    obtain ⟨us, r, f⟩ := p.zero a ys h1 h2
    exact ⟨us, r.mono app_get fun _ _ h => h, f⟩
  · by_cases hn : n + 1 < α.length
    · rw [List.getElem?_append_left hn] at h1
      rw [List.getElem?_append_left (by rw [← p.len]; exact hn)] at h2
      obtain ⟨us, r, f⟩ := p.lst n a ys h1 h2
      exact ⟨us, r.mono app_get fun _ _ h => h, f⟩
    · have hm : n + 1 = α.length := by
        obtain ⟨q, _⟩ := List.getElem?_eq_some_iff.mp h1
        simp at q
        omega
      rw [hm, List.getElem?_append_right (Nat.le_refl _)] at h1
      rw [hm, p.len, List.getElem?_append_right (Nat.le_refl _)] at h2
      simp at h1 h2
      subst h1 h2
      exact ⟨vs, r.mono app_get (fun _ _ h => h), hD⟩
theorem Ext.upd {H1 : Hp} {α1 : List Addr} {D : Addr} {o : HO} (e : Ext H1 α1 H α) (hD : H1 D = none) : Ext H1 α1 (upd H D o) α := by
  refine ⟨e.app, fun b u h hb => ?_, fun b h => ?_⟩
  · rw [upd_ne (ne_of_none h hD)]
    exact e.keep b u h hb
  · by_cases hb : b = D
    · rw [hb]
      exact hD
    · rw [upd_ne hb] at h
      exact e.there b h
theorem Ext.addL {H1 : Hp} {α1 : List Addr} {D : Addr} (e : Ext H1 α1 H α) (hD : H1 D = none) : Ext H1 α1 H (α ++ [D]) := by
  obtain ⟨β, rfl, h⟩ := e.app
  refine ⟨⟨β ++ [D], by simp, fun b hb => ?_⟩, e.keep, e.there⟩
  rcases List.mem_append.mp hb with hb | hb
  · exact h b hb
  · have : b = D := by simpa using hb
    rw [this]
    exact hD
theorem Ext.notIn {H1 : Hp} {α1 : List Addr} {D : Addr} {o : HO} (e : Ext H1 α1 H α) (hn : 0 < α1.length) (hD : H1 D = some o) (hD2 : D ∉ α1.tail) : D ∉ α.tail ∧ H D = some o := by
  obtain ⟨β, rfl, h⟩ := e.app
  refine ⟨?_, e.keep D o hD hD2⟩
  rw [tail_app hn]
  intro hm
  rcases List.mem_append.mp hm with hm | hm
  · exact hD2 hm
  · rw [h D hm] at hD
    cases hD
end

section
variable {X : Cx} {ct : CT} {k : Nat} {fa ca : Str → Option Addr} {Φ : Str → List D → Hd → R D} {hot : Bool} {W : WX} {η : Option (Addr × Str)} {tg : Expr}
abbrev W0 : WX := fun _ _ _ _ => False
theorem wipe1 (σ : L2.St) (s : Nat) : wipe σ [s] = σ.set s none := rfl
open Classical in
/-- the comprehension's reading -/
theorem lc_read {K : PySem.W.Frag} {s : Nat} {mi mc me : Ex} {σ : L2.St} {H : Hp} {Q : VK} (q : semE K fa ca W η (evE Φ (.lc s mi mc me)) σ H Q) :
    tLc (semI K fa ca W η (evE Φ mi)) (gName s) (semT K fa ca W0 η (evE Φ mc)) (semE K fa ca W0 η (evE Φ me)) [s] σ H Q := by
  obtain ⟨ρ, L, α, re, rp, q⟩ := q
  unfold evE at q
  refine ⟨ρ, L, α, re, rp, ?_⟩
  cases hr : evE Φ mi ρ L with
  | exc c L1 =>
    rw [hr] at q
    exact q
  | bad =>
    rw [hr] at q
    exact q
  | ok d L1 =>
    rw [hr, R.bind_ok] at q
    cases hi : items d L1 with
    | none =>
      rw [hi] at q
      exact q.elim
    | some wx =>
      obtain ⟨w, xs⟩ := wx
      rw [hi] at q
      refine ⟨w, xs, hi, fun J H1 α1 e1 p1 jok D hD => ?_⟩
      have q1 := Post.from rp.ne e1 q
      have re1 := re.ext e1 rp
      -- the turns
      refine ⟨fun i m H2 => m = xs.length - i ∧ i ≤ xs.length ∧ ∃ L2 α2 acc accV, RHp K fa H2 α2 L2 ∧ Ext H1 α1 H2 α2 ∧ H2 D = some (.lst accV) ∧ D ∉ α2.tail ∧ RVs K fa H2 α2 acc accV ∧ acc.length ≤ i ∧
        Post K fa ca W σ ((lcGo (fun x L => evE Φ mc (ρ.set s (some x)) L) (fun x L => evE Φ me (ρ.set s (some x)) L) w xs (xs.drop i) L2).bind fun ys L => alloc (acc ++ ys) L) H1 α1 Q,
        ⟨xs.length, by simp, Nat.zero_le _, L1, α1, [], [], p1.new hD, Ext.new hD, upd_same, ?_, .nil, by simp, by simpa using q1⟩, ?_⟩
      · intro hm
        obtain ⟨us, z⟩ := p1.tl D hm
        rw [hD] at z
        cases z
      rintro i m H2 ⟨rfl, hle, L2, α2, acc, accV, p2, e2, hD2, hn2, ra, hal, q2⟩
      by_cases hlt : i < xs.length
      · have hdrop : xs.drop i = xs[i] :: xs.drop (i + 1) := List.drop_eq_getElem_cons hlt
        rw [hdrop] at q2
        unfold lcGo at q2
        by_cases hs : seen w xs L2
        · rw [if_pos hs] at q2
          refine .inr ⟨jok.go i H2 α2 L2 p2 e2 hs hlt, fun H3 => ∃ m, m < xs.length - i ∧ m = xs.length - (i + 1) ∧ i + 1 ≤ xs.length ∧ ∃ L2 α2 acc accV, RHp K fa H3 α2 L2 ∧ Ext H1 α1 H3 α2 ∧ H3 D = some (.lst accV) ∧ D ∉ α2.tail ∧ RVs K fa H3 α2 acc accV ∧ acc.length ≤ i + 1 ∧
            Post K fa ca W σ ((lcGo (fun x L => evE Φ mc (ρ.set s (some x)) L) (fun x L => evE Φ me (ρ.set s (some x)) L) w xs (xs.drop (i + 1)) L2).bind fun ys L => alloc (acc ++ ys) L) H1 α1 Q, fun H3 h => ?_, fun x H3 hy => ?_⟩
          · obtain ⟨m, h1, h2, h3, h4⟩ := h
            exact ⟨m, h1, h2, h3, h4⟩
          · obtain ⟨rfl, d0, hd0, rx⟩ := jok.yld i H2 α2 L2 x H3 p2 e2 hs hlt hy
            rw [List.getElem?_eq_getElem hlt] at hd0
            cases hd0
            show wipe ((wipe σ [s]).set s (some x)) [s] = wipe σ [s] ∧ _
            refine ⟨by rw [wipe1, wipe1, List.set_set, List.set_set], ?_⟩
            have re2 : REnv K fa η H3 α2 (ρ.set s (some xs[i])) ((wipe σ [s]).set s (some x)) := by
              rw [wipe1, List.set_set]
              exact (re1.ext e2 p1).set rx
            refine ⟨_, L2, α2, re2, p2, ?_⟩
            -- the test
            cases hc : evE Φ mc (ρ.set s (some xs[i])) L2 with
            | exc c L3 =>
              rw [hc] at q2
              exact q2.elim
            | bad =>
              rw [hc] at q2
              exact q2.elim
            | ok t L3 =>
              rw [hc] at q2
              cases t with
              | bl b =>
                refine ⟨b, rfl, fun H4 α4 e4 p4 => ?_⟩
                have e14 := e2.trans p1.ne e4
                obtain ⟨hn4, hD4⟩ := e4.notIn p2.ne hD2 hn2
                have ra4 := ra.ext e4 p2.tl
                cases b with
                | false =>
                  exact iteF ⟨xs.length - (i + 1), by omega, rfl, hlt, L3, α4, acc, accV, p4, e14, hD4, hn4, ra4, by omega, q2⟩
                | true =>
                  refine iteT ⟨_, L3, α4, re2.ext e4 p2, p4, ?_⟩
                  dsimp only at q2
                  cases he : evE Φ me (ρ.set s (some xs[i])) L3 with
                  | exc c L5 =>
                    rw [he] at q2
                    exact q2.elim
                  | bad =>
                    rw [he] at q2
                    exact q2.elim
                  | ok y L5 =>
                    rw [he] at q2
                    intro v H5 α5 e5 p5 ry
                    obtain ⟨hn5, hD5⟩ := e5.notIn p4.ne hD4 hn4
                    have ra5 := ra4.ext e5 p4.tl
                    have hlen := ra5.length
                    -- how long the list may be
                    have q3 : Post K fa ca W σ ((lcGo (fun x L => evE Φ mc (ρ.set s (some x)) L) (fun x L => evE Φ me (ρ.set s (some x)) L) w xs (xs.drop (i + 1)) L5).bind fun ys L => alloc (acc ++ y :: ys) L) H1 α1 Q := by
                      dsimp only at q2
                      cases hg : lcGo (fun x L => evE Φ mc (ρ.set s (some x)) L) (fun x L => evE Φ me (ρ.set s (some x)) L) w xs (xs.drop (i + 1)) L5 with
                      | ok ys L6 =>
                        rw [hg] at q2
                        exact q2
                      | exc c L6 =>
                        rw [hg] at q2
                        exact q2.elim
                      | bad =>
                        rw [hg] at q2
                        exact q2.elim
                    have hshort : acc.length < sizeLine := by
                      cases hg : lcGo (fun x L => evE Φ mc (ρ.set s (some x)) L) (fun x L => evE Φ me (ρ.set s (some x)) L) w xs (xs.drop (i + 1)) L5 with
                      | ok ys L6 =>
                        rw [hg] at q3
                        have hl := alloc_lim (fa := fa) (Post.v (alloc_calm _ _) q3)
                        rw [List.length_append, List.length_cons] at hl
                        exact limLt (by omega)
                      | exc c L6 =>
                        -- no exception leaves the turns
                        have : ∀ (l : List MP.D) (L : Hd) c L', lcGo (fun x L => evE Φ mc (ρ.set s (some x)) L) (fun x L => evE Φ me (ρ.set s (some x)) L) w xs l L ≠ .exc c L' := by
                          intro l
                          induction l with
                          | nil =>
                            intro L c L' h
                            unfold lcGo at h
                            split at h <;> cases h
                          | cons x l ihl =>
                            intro L c L' h
                            unfold lcGo at h
                            repeat' split at h
                            all_goals first
                              | exact ihl _ _ _ h
                              | cases h
                        exact absurd hg (this _ _ _ _)
                      | bad =>
                        rw [hg] at q3
                        exact q3.elim
                    refine ⟨accV, hD5, by rw [← hlen]; exact hshort, ?_⟩
                    have e15 := e14.trans p1.ne e5
                    refine ⟨xs.length - (i + 1), by omega, rfl, hlt, L5, α5, acc ++ [y], accV ++ [v], p5.other hD5 hn5, e15.upd hD, upd_same, hn5, ?_, by simp; omega, ?_⟩
                    · exact (ra5.append (.cons ry .nil)).mono (fun _ _ h => h) (sqt_upd hD5)
                    · simpa using q3
              | _ => exact q2.elim
        · rw [if_neg hs] at q2
          exact q2.elim
      · have hi2 : i = xs.length := by omega
        rw [hi2, List.drop_length] at q2
        unfold lcGo at q2
        by_cases hs : seen w xs L2
        · rw [if_pos hs, R.bind_ok, List.append_nil] at q2
          refine .inl ⟨jok.stop i H2 α2 L2 p2 e2 hs (by omega), ?_⟩
          have q3 := Post.v (alloc_calm _ _) q2
          have hl := alloc_lim q3
          unfold alloc at q3
          rw [if_pos hl] at q3
          refine q3 _ _ _ (e2.addL hD) (p2.addL hD2 hn2 ra) (.ref ?_)
          rw [← p2.len, List.getElem?_append_right (Nat.le_refl _)]
          simp
        · rw [if_neg hs] at q2
          exact q2.elim
end
end MP

/-! All expressions, all tests. -/
namespace MP
open PySem PySem.Spec PyProof.Rows L2

section
variable {X : Cx} {ct : CT} {k : Nat} {fa ca : Str → Option Addr} {Φ : Str → List D → Hd → R D} {hot : Bool} {W : WX} {η : Option (Addr × Str)} {tg : Expr}
theorem pi_revS (C : Cok ct k fa ca Φ hot W η X) {e : Expr} {m : Ex} (h : PE X e (sE X fa ca Φ W η m)) {p pos : Pos} (hg : isGl X.env.scope "reversed" = true) (hb : ct.bt.contains "reversed" = true) (hs : noStar1 e = true) :
    PI X tg (.Call (.Name "reversed" p) [e] [] pos) (semI X.K fa ca W η (evE Φ (.rev m))) := by
  refine piImp (RT.pi_revA (isGl_gl hg) (C.gl.bt _ hb) h (star_eq hs)) fun σ H Q q => ?_
  obtain ⟨ρ, L, α, re, rp, q⟩ := q
  unfold evE at q
  refine ⟨ρ, L, α, re, rp, PostI.first rp.ne q fun d L1 v H1 α1 e0 e1 p1 r1 q1 => ?_⟩
  cases r1 with
  | tup h1 r1 =>
    obtain ⟨w, xs, hi, q1⟩ := q1
    cases hi
    exact ⟨_, _, rfl, .inr ⟨h1, q1 _ _ _ Ext.refl p1 (jok_revT p1 h1 r1)⟩⟩
  | _ => exact q1.elim
theorem pi_iterE (C : Cok ct k fa ca Φ hot W η X) {ce : Expr → Ex} (ih : ∀ e, PE X e (sE X fa ca Φ W η (ce e))) (it : Expr) : PI X tg it (semI X.K fa ca W η (evE Φ (iterE ct X.env.scope ce it))) := by
  unfold iterE
  split
  · rename_i x px as kws p
    split
    · rename_i h
      obtain ⟨h1, h2, h3, rfl⟩ := h
      split
      · rename_i h
        obtain ⟨h4, h5, h6, h7⟩ := h
        obtain rfl := nil_of h5
        exact pi_rngS C ih h1 h3 h4 h6 h7
      · exact pi_bad rfl
    · split
      · rename_i h
        obtain ⟨h1, h2, h3, rfl⟩ := h
        split
        · rename_i a
          split
          · rename_i h
            obtain ⟨h4, h5⟩ := h
            obtain rfl := nil_of h5
            exact pi_revS C (ih a) h1 h3 h4
          · exact pi_bad rfl
        · exact pi_bad rfl
      · exact pi_val (ih _)
  · exact pi_bad rfl
  · exact pi_val (ih _)
theorem fold_ok {it : Expr} {env : PySem.Env} (h : noSet it = true) : ∀ x, foldedSetIterable it env x = pure x := fun x => by
  cases it <;> first | rfl | cases h
theorem iterE_set {sc : Scope} {ce : Expr → Ex} {it : Expr} (h : noSet it = false) : iterE ct sc ce it = .bad := by
  cases it <;> first | rfl | cases h
theorem Cok.blk (C : Cok ct k fa ca Φ false W η X) (s : Shared) (H : Hp) (scope : Scope) (Cc : Addr) (cl : List (Str × Addr)) (fp : List Addr) : Cok ct k fa ca Φ false W0 η (X.blk s H scope (compEnvC scope cl Cc X.env) fp) :=
  ⟨C.nd, takes0, C.calm, C.room, C.units, C.gl, fun a c h => absurd (C.isE a c h).1 Bool.false_ne_true⟩
/-- a comprehension, by its parts -/
theorem lc_parts (C : Cok ct k fa ca Φ false W η X) {n : Nat} (ihE : ∀ (X : Cx) (W : WX), Cok ct k fa ca Φ false W η X → ∀ e, PE X e (sE X fa ca Φ W η (compE ct X.N false n X.env.scope e)))
    (ihT : ∀ (X : Cx) (W : WX), Cok ct k fa ca Φ false W η X → ∀ e, PT X e (sT X fa ca Φ W η (compE ct X.N false n X.env.scope e)))
    {y : Str} {py : Pos} {elt : Expr} {ifs : List Expr} {scope : Scope} {i : Nat} {mc : Ex} (hi : ixOf X.N y = some i) (hb : blkC X.N X.env.scope scope [(y, i)] = true) (hl : isLoc (relS scope X.env.scope) y = true)
    (hc : (ifs = [] ∧ mc = .bl true) ∨ ∃ c, ifs = [c] ∧ mc = compE ct X.N false n (relS scope X.env.scope) c) :
    (∀ (s : Shared) (H : Hp) (Cc : Addr) (cl : List (Str × Addr)) (fp : List Addr), PG (X.blk s H scope (compEnvC scope cl Cc X.env) fp) (.Name y py) (gName i)) ∧
    (∀ (s : Shared) (H : Hp) (Cc : Addr) (cl : List (Str × Addr)) (fp : List Addr), PTs (X.blk s H scope (compEnvC scope cl Cc X.env) fp) ifs (semT X.K fa ca W0 η (evE Φ mc))) ∧
    (∀ (s : Shared) (H : Hp) (Cc : Addr) (cl : List (Str × Addr)) (fp : List Addr), PE (X.blk s H scope (compEnvC scope cl Cc X.env) fp) elt (semE X.K fa ca W0 η (evE Φ (compE ct X.N false n (relS scope X.env.scope) elt)))) := by
  refine ⟨fun s H Cc cl fp => ?_, fun s H Cc cl fp => ?_, fun s H Cc cl fp => ?_⟩
  · exact pg_name (X := X.blk s H scope (compEnvC scope cl Cc X.env) fp) C.nd (ixOf_get hi) (.inl (isLoc_loc hl)) (.inr (isLoc_loc hl))
  · rcases hc with ⟨rfl, rfl⟩ | ⟨c, rfl, rfl⟩
    · refine ⟨fun pins s1 σ H1 Q I q => pts_nil.run pins s1 σ H1 Q I ?_⟩
      obtain ⟨ρ, L, α, re, rp, b, eb, q⟩ := q
      cases eb
      exact q H1 α Ext.refl rp
    · exact pts_one (ihT (X.blk s H scope (compEnvC scope cl Cc X.env) fp) W0 (C.blk s H scope Cc cl fp) c)
  · exact ihE (X.blk s H scope (compEnvC scope cl Cc X.env) fp) W0 (C.blk s H scope Cc cl fp) elt
theorem pt_other {e : Expr} {m : Ex} (h : PE X e (sE X fa ca Φ W η m)) (he : ∀ whole, isTrue e X.env whole = (do let v ← whole; standAt e.pos; holding [v] (truthy v))) : PT X e (sT X fa ca Φ W η m) :=
  ptImp (pt_val h he) fun σ H Q q => semT_val q
theorem pt_cmpS (C : Cok ct k fa ca Φ hot W η X) {op : CmpOp} {a b : Expr} {ma mb : Ex} {pos : Pos} (ha : PE X a (sE X fa ca Φ W η ma)) (hb : PE X b (sE X fa ca Φ W η mb)) : PT X (.Compare a [op] [b] pos) (sT X fa ca Φ W η (cmpE op ma mb b)) := by
  unfold cmpE
  split
  · rename_i o ho
    split
    · rename_i hs
      rw [copOf_to ho]
      exact ptImp (pt_cmpR (op_cmp C.units o) ha hb (noSet_marks hs)) fun σ H Q q => sem2 (fun _ _ _ => cmpop_calm _ _ _ _) (semT_val q)
    · exact pt_bad rfl
  · split
    · split
      · rename_i hn
        unfold isNone at hn
        split at hn
        · refine ptImp (pt_cmp (pc_isN ha) rfl) fun σ H Q q => ?_
          obtain ⟨ρ, L, α, re, rp, q⟩ := semT_val q
          refine ⟨ρ, L, α, re, rp, q.first rp.ne fun d L1 v H1 α1 e0 e1 p1 r1 q1 => ?_⟩
          have q2 := q1 _ H1 α1 Ext.refl p1 (.bl _)
          cases r1 <;> exact q2
        · cases hn
      · exact pt_bad rfl
    · split
      · rename_i hn
        unfold isNone at hn
        split at hn
        · refine ptImp (pt_cmp (pc_notN ha) rfl) fun σ H Q q => ?_
          obtain ⟨ρ, L, α, re, rp, q⟩ := semT_val q
          refine ⟨ρ, L, α, re, rp, q.first rp.ne fun d L1 v H1 α1 e0 e1 p1 r1 q1 => ?_⟩
          have q2 := q1 _ H1 α1 Ext.refl p1 (.bl _)
          cases r1 <;> exact q2
        · cases hn
      · exact pt_bad rfl
    · exact pt_bad rfl
/-- THE RULE for expressions and tests -/
theorem snd_E : ∀ (n : Nat) (hot : Bool) (W : WX) (X : Cx), Cok ct k fa ca Φ hot W η X → (∀ e, PE X e (sE X fa ca Φ W η (compE ct X.N hot n X.env.scope e))) ∧ ∀ e, PT X e (sT X fa ca Φ W η (compE ct X.N hot n X.env.scope e))
  | 0, hot, W, X, C => ⟨fun e => pe_bad rfl, fun e => pt_bad rfl⟩
  | n + 1, hot, W, X, C => by
    have ihE := (snd_E n hot W X C).1
    have ihT := (snd_E n hot W X C).2
    have hE : ∀ e, PE X e (sE X fa ca Φ W η (compE ct X.N hot (n + 1) X.env.scope e)) := fun e => by
      unfold compE
      split
      · split
        · exact peImp pe_non fun σ H Q q => by
            obtain ⟨ρ, L, α, re, rp, q⟩ := q
            exact q _ H α Ext.refl rp .non
        · exact peImp pe_bl fun σ H Q q => by
            obtain ⟨ρ, L, α, re, rp, q⟩ := q
            exact q _ H α Ext.refl rp (.bl _)
        · exact peImp pe_int fun σ H Q q => by
            obtain ⟨ρ, L, α, re, rp, q⟩ := q
            exact q _ H α Ext.refl rp (.int _)
        · exact peImp pe_str fun σ H Q q => by
            obtain ⟨ρ, L, α, re, rp, q⟩ := q
            exact q _ H α Ext.refl rp (.str _)
        · exact pe_bad rfl
      · exact pe_nameS C
      · split
        · rename_i hs
          refine peImp (pe_tup (pa_sem ihE hs)) fun σ H Q q => ?_
          obtain ⟨ρ, L, α, re, rp, q⟩ := q
          unfold evE at q
          refine ⟨ρ, L, α, re, rp, Post.args rp.ne q (fun d L hd => by cases d <;> first | rfl | exact absurd rfl (hd _)) fun ds L1 vs H1 α1 e0 e1 p1 r1 q1 => ?_⟩
          dsimp only at q1
          split at q1
          · rename_i hl
            rw [r1.length] at hl
            exact ⟨limLe hl, fun t ht => q1 _ _ _ (Ext.new ht) (p1.new ht) (.tup (SqT.of upd_same) (r1.ext (Ext.new ht) p1.tl))⟩
          · exact q1.elim
        · exact pe_bad rfl
      · split
        · rename_i hs
          refine peImp (pe_lst (pa_sem ihE hs)) fun σ H Q q => ?_
          obtain ⟨ρ, L, α, re, rp, q⟩ := q
          unfold evE at q
          refine ⟨ρ, L, α, re, rp, Post.args rp.ne q (fun d L hd => by cases d <;> first | rfl | exact absurd rfl (hd _)) fun ds L1 vs H1 α1 e0 e1 p1 r1 q1 => ?_⟩
          have q2 := Post.v (alloc_calm _ _) q1
          have hl := alloc_lim q2
          rw [r1.length] at hl
          exact ⟨limLe hl, alloc_post p1 r1 q2⟩
        · exact pe_bad rfl
      · split
        · rename_i o ho
          rw [bopOf_to ho]
          exact peImp (pe_op (op_bin o) (ihE _) (ihE _)) fun σ H Q q => sem2 (fun _ _ _ => binop_calm _ _ _ _) q
        · exact pe_bad rfl
      · split
        · exact peImp (pe_un (un_negS (fa := fa)) (ihE _)) fun σ H Q q => sem1 (fun x L c L' e => by
            split at e <;> cases e) q
        · refine peImp (pe_not (ihE _)) fun σ H Q q => ?_
          obtain ⟨ρ, L, α, re, rp, q⟩ := q
          unfold evE at q
          refine ⟨ρ, L, α, re, rp, Post.test rp.ne q (fun L1 H1 α1 e0 e1 p1 q1 => ?_) fun L1 H1 α1 e0 e1 p1 q1 => ?_⟩
          · exact ⟨true, rfl, q1 _ H1 α1 Ext.refl p1 (.bl _)⟩
          · exact ⟨false, rfl, q1 _ H1 α1 Ext.refl p1 (.bl _)⟩
        · exact pe_bad rfl
      · exact pe_boolS ihE
      · split
        · exact pe_cmpS C (ihE _) (ihE _)
        · exact pe_bad rfl
      · split
        · split
          · exact pe_slS ihE
          · exact pe_bad rfl
        · rename_i hne
          exact pe_ixS (ihE _) (ihE _) fun lo hi st p e => hne lo hi st p e
      · exact pe_callAny C ihE
      · split
        · exact pe_bad rfl
        · rename_i hh
          have hh' : hot = false := by simpa using hh
          subst hh'
          split
          · rename_i elt scope p gs y py it ifs
            split
            · rename_i i hi
              split
              · rename_i h
                obtain ⟨hb, hl⟩ := h
                by_cases hset : noSet it = true
                · have key : ∀ mc, ((ifs = [] ∧ mc = .bl true) ∨ ∃ c, ifs = [c] ∧ mc = compE ct X.N false n (relS scope X.env.scope) c) →
                      PE X (.ListComp elt [⟨.Name y py, it, ifs, 0⟩] scope p) (sE X fa ca Φ W η (.lc i (iterE ct X.env.scope (compE ct X.N false n X.env.scope) it) mc (compE ct X.N false n (relS scope X.env.scope) elt))) := fun mc hc => by
                    obtain ⟨hg, ht, he⟩ := lc_parts (py := py) (elt := elt) C (fun X W C => (snd_E n false W X C).1) (fun X W C => (snd_E n false W X C).2) hi hb hl hc
                    exact peImp (pe_lc (C.calm rfl) C.nd (pi_iterE C ihE it) (blkOk_by hb) hg ht he (fold_ok hset)) fun σ H Q q => lc_read q
                  split
                  · exact key _ (.inl ⟨rfl, rfl⟩)
                  · exact key _ (.inr ⟨_, rfl, rfl⟩)
                  · exact pe_bad rfl
                · rw [iterE_set (by simpa using hset)]
                  split
                  all_goals first
                    | exact pe_bad rfl
                    | (refine ⟨fun pins s σ H Q I q => ?_⟩
                       obtain ⟨ρ, L, α, re, rp, q⟩ := q
                       exact q.elim)
              · exact pe_bad rfl
            · exact pe_bad rfl
          · exact pe_bad rfl
      · exact pe_bad rfl
    refine ⟨hE, fun e => ?_⟩
    cases e with
    | BoolOp op es pos => exact (pw_boolS ihT).pt
    | UnaryOp op a pos =>
      cases op with
      | Not =>
        refine ptImp (pt_not (ihT a)) fun σ H Q q => ?_
        obtain ⟨ρ, L, α, re, rp, q⟩ := q
        refine ⟨ρ, L, α, re, rp, PostT.test rp.ne q (fun L1 H1 α1 e0 e1 p1 q1 => ?_) fun L1 H1 α1 e0 e1 p1 q1 => ?_⟩
        · obtain ⟨b, eb, q1⟩ := q1
          cases eb
          exact q1 H1 α1 Ext.refl p1
        · obtain ⟨b, eb, q1⟩ := q1
          cases eb
          exact q1 H1 α1 Ext.refl p1
      | _ => exact pt_other (hE _) (fun _ => rfl)
    | IfExp a b c pos => exact pt_bad rfl
    | Compare a ops bs pos =>
      match ops, bs with
      | [op], [b] =>
        exact pt_cmpS C (ihE _) (ihE _)
      | [], _ => exact pt_bad rfl
      | [_], [] => exact pt_bad rfl
      | [_], _ :: _ :: _ => exact pt_bad rfl
      | _ :: _ :: _, [] => exact pt_bad rfl
      | _ :: _ :: _, _ :: _ => exact pt_bad rfl
    | _ => exact pt_other (hE _) (fun _ => rfl)
end
end MP

/-! Statements. -/
namespace MP
open PySem PySem.Spec PyProof.Rows L2

def PostS (K : PySem.W.Frag) (fa ca : Str → Option Addr) (W : WX) (η : Option (Addr × Str)) (o : O) (H : Hp) (α : List Addr) (D : Ends) : Prop := match o with
  | .nx ρ L => ∀ σ' H' α', Ext H α H' α' → REnv K fa η H' α' ρ σ' → RHp K fa H' α' L → D.nx σ' H'
  | .bk ρ L => ∀ σ' H' α', Ext H α H' α' → REnv K fa η H' α' ρ σ' → RHp K fa H' α' L → D.bk σ' H'
  | .ct ρ L => ∀ σ' H' α', Ext H α H' α' → REnv K fa η H' α' ρ σ' → RHp K fa H' α' L → D.ct σ' H'
  | .rt d L => ∀ v H' α', Ext H α H' α' → RHp K fa H' α' L → RV K fa H' α' d v → D.rt v H'
  | .ex c ρ L => ∀ C σ' H' α', ca c = some C → Ext H α H' α' → REnv K fa η H' α' ρ σ' → RHp K fa H' α' L → W (.ref C) none σ' H'
  | .bad => False
def semS (K : PySem.W.Frag) (fa ca : Str → Option Addr) (W : WX) (η : Option (Addr × Str)) (f : Env → Hd → O) : TS := fun D σ H => ∃ ρ L α, REnv K fa η H α ρ σ ∧ RHp K fa H α L ∧ PostS K fa ca W η (f ρ L) H α D
/-- the context of a statement -/
structure Sok (ct : CT) (k : Nat) (fa ca : Str → Option Addr) (Φ : Str → List D → Hd → R D) (hot : Bool) (W : WX) (η : Option (Addr × Str)) (X : Cx) : Prop where
  c : Cok ct k fa ca Φ hot W η X
  po : PassesOwn (model X.prog X.w) X.A X.env X.xe
  stk : X.stack = X.env :: X.outer
  frm : X.env.frame = some X.env.locals
  fnm : ∀ x, X.fn x = true
section
variable {K : PySem.W.Frag} {fa ca : Str → Option Addr} {W : WX} {η : Option (Addr × Str)} {H H' : Hp} {α α' : List Addr} {D : Ends}
theorem PostS.from {o : O} (hn : 0 < α.length) (e : Ext H α H' α') (h : PostS K fa ca W η o H α D) : PostS K fa ca W η o H' α' D := by
  cases o with
  | nx ρ L => exact fun σ H2 α2 e2 => h σ H2 α2 (e.trans hn e2)
  | bk ρ L => exact fun σ H2 α2 e2 => h σ H2 α2 (e.trans hn e2)
  | ct ρ L => exact fun σ H2 α2 e2 => h σ H2 α2 (e.trans hn e2)
  | rt d L => exact fun v H2 α2 e2 => h v H2 α2 (e.trans hn e2)
  | ex c ρ L => exact fun C σ H2 α2 hc e2 => h C σ H2 α2 hc (e.trans hn e2)
  | bad => exact h
/-- a value first -/
theorem PostS.val {L : Hd} {ρ : Env} {σ : L2.St} {r : R MP.D} {f : MP.D → Hd → O} {Q : VK} (re : REnv K fa η H α ρ σ) (rp : RHp K fa H α L) (h : PostS K fa ca W η (r.on ρ f) H α D)
    (k : ∀ d L v H' α', r = .ok d L → Ext H α H' α' → RHp K fa H' α' L → RV K fa H' α' d v → PostS K fa ca W η (f d L) H' α' D → Q v H') : Post K fa ca W σ r H α Q := by
  cases r with
  | ok d L1 => exact fun v H' α' e p rv => k d L1 v H' α' rfl e p rv (PostS.from rp.ne e h)
  | exc c L1 => exact fun C H' α' hc e p => h C σ H' α' hc e (re.ext e rp) p
  | bad => exact h
/-- a test first -/
theorem PostS.test {L : Hd} {ρ : Env} {σ : L2.St} {r : R MP.D} {t f : Hd → O} {Q : Bool → Hp → Prop} (re : REnv K fa η H α ρ σ) (rp : RHp K fa H α L) (h : PostS K fa ca W η (r.on ρ fun d L => ifB d (t L) (f L)) H α D)
    (k1 : ∀ L H' α', Ext H α H' α' → RHp K fa H' α' L → PostS K fa ca W η (t L) H' α' D → Q true H')
    (k0 : ∀ L H' α', Ext H α H' α' → RHp K fa H' α' L → PostS K fa ca W η (f L) H' α' D → Q false H') : PostT K fa ca W σ r H α Q := by
  cases r with
  | ok d L1 =>
    cases d with
    | bl b =>
      refine ⟨b, rfl, fun H' α' e p => ?_⟩
      cases b with
      | true => exact k1 L1 H' α' e p (PostS.from rp.ne e (show PostS K fa ca W η (t L1) H α D from h))
      | false => exact k0 L1 H' α' e p (PostS.from rp.ne e (show PostS K fa ca W η (f L1) H α D from h))
    | _ => exact h.elim
  | exc c L1 => exact fun C H' α' hc e p => h C σ H' α' hc e (re.ext e rp) p
  | bad => exact h
end
section
variable {X : Cx} {ct : CT} {k : Nat} {fa ca : Str → Option Addr} {Φ : Str → List D → Hd → R D} {hot : Bool} {W : WX} {η : Option (Addr × Str)}
abbrev sS (X : Cx) (fa ca : Str → Option Addr) (Φ : Str → List D → Hd → R D) (W : WX) (η : Option (Addr × Str)) (m : Sm) : TS := semS X.K fa ca W η (run Φ m)
theorem psImp {s : Stmt} {t u : TS} (h : PS X s t) (i : ∀ D σ H, u D σ H → t D σ H) : PS X s u := ⟨fun pins s σ H D I q => h.run pins s σ H D I (i D σ H q)⟩
theorem pssImp {s : List Stmt} {t u : TS} (h : PSs X s t) (i : ∀ D σ H, u D σ H → t D σ H) : PSs X s u := ⟨fun pins s σ H D I q => h.run pins s σ H D I (i D σ H q)⟩
theorem ps_bad {s : Stmt} {m : Sm} (h : m = .bad) : PS X s (sS X fa ca Φ W η m) := ⟨fun _ _ _ _ _ _ q => by
  subst h
  obtain ⟨ρ, L, α, _, _, q⟩ := q
  exact q.elim⟩
/-- a block -/
theorem pss_sem {f : Stmt → Sm} (ih : ∀ s, PS X s (sS X fa ca Φ W η (f s))) : ∀ {ss : List Stmt}, PSs X ss (sS X fa ca Φ W η (compB f ss))
  | [] => pssImp pss_nil fun D σ H q => by
    obtain ⟨ρ, L, α, re, rp, q⟩ := q
    exact q σ H α Ext.refl re rp
  | s :: ss => by
    refine pssImp (pss_cons (ih s) (pss_sem ih)) fun D σ H q => ?_
    obtain ⟨ρ, L, α, re, rp, q⟩ := q
    refine ⟨ρ, L, α, re, rp, ?_⟩
    have q' : PostS X.K fa ca W η ((run Φ (f s) ρ L).then fun ρ L => run Φ (compB f ss) ρ L) H α D := q
    cases hr : run Φ (f s) ρ L with
    | nx ρ' L' =>
      rw [hr] at q'
      exact fun σ' H' α' e re' rp' => ⟨ρ', L', α', re', rp', PostS.from rp.ne e q'⟩
    | _ =>
      rw [hr] at q'
      exact q'
theorem swaps_no {e : Expr} {tg : Option Expr} {n : Nat} {env : PySem.Env} (h : noComp e = true) : swapsWith e tg n env = pure false := by
  cases e <;> first | rfl | cases h
theorem swaps_sub {e o i : Expr} {n : Nat} {env : PySem.Env} {p : Pos} : swapsWithSole [.Subscript o i p] e n env = pure false := by
  cases e <;> rfl
theorem stores_sub {e o i : Expr} {env : PySem.Env} {p : Pos} : swappedStores [.Subscript o i p] e env = pure none := rfl
/-- while -/
theorem wh_read {c : Ex} {b : Sm} {D : Ends} {σ : L2.St} {H : Hp} {K : PySem.W.Frag} (q : semS K fa ca W η (run Φ (.wh c b)) D σ H) : tWhile (semT K fa ca W η (evE Φ c)) (semS K fa ca W η (run Φ b)) D σ H := by
  obtain ⟨ρ, L, α, re, rp, q⟩ := q
  unfold run whL at q
  split at q
  · rename_i hex
    refine ⟨fun m σ H => ∃ ρ L α, REnv K fa η H α ρ σ ∧ RHp K fa H α L ∧ PostS K fa ca W η (whN (fun ρ L => evE Φ c ρ L) (fun ρ L => run Φ b ρ L) m ρ L) H α D, ⟨_, ρ, L, α, re, rp, q⟩, ?_⟩
    rintro m σ1 H1 ⟨ρ1, L1, α1, re1, rp1, q1⟩
    cases m with
    | zero => exact q1.elim
    | succ m =>
      refine ⟨ρ1, L1, α1, re1, rp1, PostS.test re1 rp1 q1 (fun L2 H2 α2 e2 p2 q2 => ?_) fun L2 H2 α2 e2 p2 q2 => ?_⟩
      · rw [if_pos rfl]
        refine ⟨fun σ H => ∃ ρ L α, REnv K fa η H α ρ σ ∧ RHp K fa H α L ∧ PostS K fa ca W η (whN (fun ρ L => evE Φ c ρ L) (fun ρ L => run Φ b ρ L) m ρ L) H α D, fun σ' H' h => ⟨m, Nat.lt_succ_self m, h⟩, ?_⟩
        refine ⟨ρ1, L2, α2, re1.ext e2 rp1, p2, ?_⟩
        replace q2 : PostS K fa ca W η ((run Φ b ρ1 L2).turn fun ρ L => whN (fun ρ L => evE Φ c ρ L) (fun ρ L => run Φ b ρ L) m ρ L) H2 α2 D := q2
        cases hr : run Φ b ρ1 L2 with
        | nx ρ' L' =>
          rw [hr] at q2
          exact fun σ' H' α' e re' rp' => ⟨ρ', L', α', re', rp', PostS.from p2.ne e q2⟩
        | ct ρ' L' =>
          rw [hr] at q2
          exact fun σ' H' α' e re' rp' => ⟨ρ', L', α', re', rp', PostS.from p2.ne e q2⟩
        | _ =>
          rw [hr] at q2
          exact q2
      · rw [if_neg Bool.false_ne_true]
        exact q2 σ1 H2 α2 Ext.refl (re1.ext e2 rp1) p2
  · exact q.elim
open Classical in
/-- for -/
theorem for_read {s : Nat} {it : Ex} {b : Sm} {D : Ends} {σ : L2.St} {H : Hp} {K : PySem.W.Frag} (q : semS K fa ca W η (run Φ (.for_ s it b)) D σ H) : tFor (semI K fa ca W η (evE Φ it)) (gName s) (semS K fa ca W η (run Φ b)) D σ H := by
  obtain ⟨ρ, L, α, re, rp, q⟩ := q
  unfold run at q
  refine ⟨ρ, L, α, re, rp, ?_⟩
  cases hr : evE Φ it ρ L with
  | exc c L1 =>
    rw [hr] at q
    exact fun C H' α' hc e p => q C σ H' α' hc e (re.ext e rp) p
  | bad =>
    rw [hr] at q
    exact q
  | ok d L1 =>
    rw [hr, R.on_ok] at q
    cases hi : items d L1 with
    | none =>
      rw [hi] at q
      exact q.elim
    | some wx =>
      obtain ⟨w, xs⟩ := wx
      rw [hi] at q
      refine ⟨w, xs, hi, fun J H1 α1 e1 p1 jok => ?_⟩
      have q1 := PostS.from rp.ne e1 q
      have re1 := re.ext e1 rp
      refine ⟨fun i m σ2 H2 => m = xs.length - i ∧ i ≤ xs.length ∧ ∃ ρ2 L2 α2, REnv K fa η H2 α2 ρ2 σ2 ∧ RHp K fa H2 α2 L2 ∧ Ext H1 α1 H2 α2 ∧ PostS K fa ca W η (forGo (fun ρ L => run Φ b ρ L) s w xs (xs.drop i) ρ2 L2) H2 α2 D,
        ⟨xs.length, by simp, Nat.zero_le _, ρ, L1, α1, re1, p1, Ext.refl, q1⟩, ?_⟩
      rintro i m σ2 H2 ⟨rfl, hle, ρ2, L2, α2, re2, p2, e2, q2⟩
      by_cases hlt : i < xs.length
      · have hdrop : xs.drop i = xs[i] :: xs.drop (i + 1) := List.drop_eq_getElem_cons hlt
        rw [hdrop] at q2
        unfold forGo at q2
        by_cases hs : seen w xs L2
        · rw [if_pos hs] at q2
          refine .inr ⟨jok.go i H2 α2 L2 p2 e2 hs hlt, fun σ3 H3 => ∃ ρ3 L3 α3, REnv K fa η H3 α3 ρ3 σ3 ∧ RHp K fa H3 α3 L3 ∧ Ext H1 α1 H3 α3 ∧ PostS K fa ca W η (forGo (fun ρ L => run Φ b ρ L) s w xs (xs.drop (i + 1)) ρ3 L3) H3 α3 D,
            fun σ3 H3 h => ⟨xs.length - (i + 1), by omega, rfl, hlt, h⟩, fun x H3 hy => ?_⟩
          obtain ⟨rfl, d0, hd0, rx⟩ := jok.yld i H2 α2 L2 x H3 p2 e2 hs hlt hy
          rw [List.getElem?_eq_getElem hlt] at hd0
          cases hd0
          refine ⟨ρ2.set s (some xs[i]), L2, α2, re2.set rx, p2, ?_⟩
          replace q2 : PostS K fa ca W η ((run Φ b (ρ2.set s (some xs[i])) L2).turn fun ρ L => forGo (fun ρ L => run Φ b ρ L) s w xs (xs.drop (i + 1)) ρ L) H3 α2 D := q2
          cases hr2 : run Φ b (ρ2.set s (some xs[i])) L2 with
          | nx ρ' L' =>
            rw [hr2] at q2
            exact fun σ' H' α' e re' rp' => ⟨ρ', L', α', re', rp', e2.trans p1.ne e, PostS.from p2.ne e q2⟩
          | ct ρ' L' =>
            rw [hr2] at q2
            exact fun σ' H' α' e re' rp' => ⟨ρ', L', α', re', rp', e2.trans p1.ne e, PostS.from p2.ne e q2⟩
          | _ =>
            rw [hr2] at q2
            exact q2
        · rw [if_neg hs] at q2
          exact q2.elim
      · have hi2 : i = xs.length := by omega
        rw [hi2, List.drop_length] at q2
        unfold forGo at q2
        by_cases hs : seen w xs L2
        · rw [if_pos hs] at q2
          exact .inl ⟨jok.stop i H2 α2 L2 p2 e2 hs (by omega), q2 σ2 H2 α2 Ext.refl re2 p2⟩
        · rw [if_neg hs] at q2
          exact q2.elim
end
end MP

/-! All statements. -/
namespace MP
open PySem PySem.Spec PyProof.Rows L2

section
variable {X : Cx} {ct : CT} {k : Nat} {fa ca : Str → Option Addr} {Φ : Str → List D → Hd → R D} {hot : Bool} {W : WX} {η : Option (Addr × Str)}
theorem Sok.tr (S : Sok ct k fa ca Φ false W η X) {pn : List (Addr × Obj)} {xe : Value → Shared → Prop} {W' : WX} (tk : Takes (X.tr pn xe) W') (po : PassesOwn (model X.prog X.w) X.A X.env xe) : Sok ct k fa ca Φ false W' η (X.tr pn xe) :=
  ⟨⟨S.c.nd, tk, S.c.calm, S.c.room, S.c.units, S.c.gl, fun a c h => absurd (S.c.isE a c h).1 Bool.false_ne_true⟩, po, S.stk, S.frm, S.fnm⟩
theorem Sok.su (S : Sok ct k fa ca Φ false W η X) {a : Addr} {oe : Obj} {C : Addr} {c : Str} {pn : List (Addr × Obj)} (hc : ca c = some C) (hz : Zc (.ref C) none oe) (hf : ∃ vs, oe.data = .fields vs) :
    Sok ct k fa ca Φ true W0 (some (a, c)) (X.suite a ((a, oe) :: pn)) :=
  ⟨⟨S.c.nd, takes0, fun h => absurd h (by decide), fun h => absurd h (by decide), S.c.units, S.c.gl, fun a' c' h => by
    cases h
    exact ⟨rfl, C, hc, call_isE (S.c.gl.rs c C hc).2.2.2.2.2 hz hf⟩⟩, PassesOwn.never, S.stk, S.frm, S.fnm⟩
theorem REnv.eta {K : PySem.W.Frag} {H : Hp} {α : List Addr} {ρ : Env} {σ : L2.St} {η' : Option (Addr × Str)} (h : REnv K fa none H α ρ σ) : REnv K fa η' H α ρ σ := ⟨h.1, h.2.1, fun i c e => by
  obtain ⟨a, z, _⟩ := h.2.2 i c e
  cases z⟩
theorem REnv.setExc {K : PySem.W.Frag} {H : Hp} {α : List Addr} {ρ : Env} {σ : L2.St} {a : Addr} {c : Str} {i : Nat} (h : REnv K fa none H α ρ σ) : REnv K fa (some (a, c)) H α (ρ.set i (some (.exc c))) (σ.set i (some (.ref a))) := by
  refine ⟨by simp [h.1], fun j e h1 h2 => ?_, fun j c' h1 => ?_⟩
  · by_cases hj : i = j
    · subst hj
      by_cases hl : i < ρ.length
      · rw [List.getElem?_set_self hl] at h1
        cases h1
        exact absurd rfl (h2 c)
      · rw [List.getElem?_eq_none (by simpa using hl)] at h1
        cases h1
    · rw [List.getElem?_set_ne hj] at h1 ⊢
      exact h.2.1 j e h1 h2
  · by_cases hj : i = j
    · subst hj
      by_cases hl : i < ρ.length
      · rw [List.getElem?_set_self hl] at h1
        cases h1
        exact ⟨a, rfl, List.getElem?_set_self (by rw [← h.1]; exact hl)⟩
      · rw [List.getElem?_eq_none (by simpa using hl)] at h1
        cases h1
    · rw [List.getElem?_set_ne hj] at h1 ⊢
      obtain ⟨b, z, _⟩ := h.2.2 j c' h1
      cases z
/-- what a suite does with an exception -/
def suN (X : Cx) (fa ca : Str → Option Addr) (Φ : Str → List D → Hd → R D) (m : Sm) : Addr → Value → Option Addr → TS := fun a cls d D σ H => ∃ c C, cls = .ref C ∧ d = none ∧ ca c = some C ∧ semS X.K fa ca W0 none (run Φ m) D σ H
def suA (X : Cx) (fa ca : Str → Option Addr) (Φ : Str → List D → Hd → R D) (m : Sm) : Addr → Value → Option Addr → TS := fun a cls d D σ H => ∃ c C, cls = .ref C ∧ d = none ∧ ca c = some C ∧ semS X.K fa ca W0 (some (a, c)) (run Φ m) D σ H
theorem eta_none (S : Sok ct k fa ca Φ false W η X) : η = none := by
  cases η with
  | none => rfl
  | some p => exact absurd (S.c.isE p.1 p.2 rfl).1 Bool.false_ne_true
theorem Sok.suN (S : Sok ct k fa ca Φ false W η X) {a : Addr} {oe : Obj} {pn : List (Addr × Obj)} : Sok ct k fa ca Φ true W0 none (X.suite a ((a, oe) :: pn)) :=
  ⟨⟨S.c.nd, takes0, fun h => absurd h (by decide), fun h => absurd h (by decide), S.c.units, S.c.gl, fun a' c' h => by cases h⟩, PassesOwn.never, S.stk, S.frm, S.fnm⟩
theorem names_of (S : Sok ct k fa ca Φ false W η X) {c : Str} (hg : isGl X.env.scope c = true) (ho : odd c = false) (hc : ct.cls.contains c = true) (hv : c ≠ "ValueError") : ∃ C, clsV X.mg c = some (.ref C) ∧ Names X c (.ref C) := by
  obtain ⟨C, hC⟩ := S.c.gl.cl c hc
  refine ⟨C, ?_, isGl_gl hg, odd_d ho, .inl hC⟩
  unfold clsV
  rw [if_neg hv]
  exact hC
theorem ps_tryN (S : Sok ct k fa ca Φ false W η X) {b : List Stmt} {s0 : Stmt} {su : List Stmt} {c : Str} {np p pos : Pos} {mb mh : Sm} (hg : isGl X.env.scope c = true) (ho : odd c = false) (hc : ct.cls.contains c = true) (hv : c ≠ "ValueError")
    (ihb : ∀ (W : WX) (pn : List (Addr × Obj)) (xe : Value → Shared → Prop), Sok ct k fa ca Φ false W η (X.tr pn xe) → PSs (X.tr pn xe) b (sS X fa ca Φ W η mb))
    (ihs : ∀ (a : Addr) (oe : Obj) (pn : List (Addr × Obj)), Sok ct k fa ca Φ true W0 none (X.suite a ((a, oe) :: pn)) → PSs (X.suite a ((a, oe) :: pn)) (s0 :: su) (sS X fa ca Φ W0 none mh)) :
    PS X (.Try b [.ExceptHandler (some (.Name c np)) none (s0 :: su) p] [] [] pos) (sS X fa ca Φ W η (.try_ mb c none mh)) := by
  obtain ⟨Cc, hCv, hN⟩ := names_of S hg ho hc hv
  have en := eta_none S
  subst en
  refine psImp (ps_try_only (ts := suN X fa ca Φ mh) S.stk S.frm hN S.c.tk (fun W' pn xe tk po => ihb W' pn xe (S.tr tk po)) (fun a oe cls d pn hz hf => ⟨fun pins s σ H D I q => ?_⟩)) fun D σ H q => ?_
  · obtain ⟨c', C', rfl, rfl, hc', q⟩ := q
    exact (ihs a oe pn S.suN).run pins s σ H D I q
  · obtain ⟨ρ, L, α, re, rp, q⟩ := q
    refine ⟨ρ, L, α, re, rp, ?_⟩
    unfold run at q
    cases hr : run Φ mb ρ L with
    | ex c' ρ' L' =>
      rw [hr] at q
      intro C' σ' H' α' hc' e re' rp'
      obtain ⟨u, hu, _, hx⟩ := S.c.gl.kit c' C' c hc' (.inl hc)
      rw [hCv] at hu
      cases hu
      refine ⟨_, hx, fun hs a na => ?_, fun hs => ?_⟩
      · dsimp only at q
        rw [if_pos hs] at q
        refine ⟨c', C', rfl, rfl, hc', ρ', L', α', re', rp', ?_⟩
        have q' := PostS.from rp.ne e q
        cases hr2 : run Φ mh ρ' L' with
        | ex c2 ρ2 L2 =>
          rw [hr2] at q'
          exact q'.elim
        | _ =>
          rw [hr2] at q'
          exact q'
      · dsimp only at q
        rw [if_neg (by rw [hs]; exact Bool.false_ne_true)] at q
        exact q C' σ' H' α' hc' e re' rp'
    | _ =>
      rw [hr] at q
      exact q
theorem ps_tryA (S : Sok ct k fa ca Φ false W η X) {b : List Stmt} {s0 : Stmt} {su : List Stmt} {c n : Str} {i : Nat} {np p pos : Pos} {mb mh : Sm} (hg : isGl X.env.scope c = true) (ho : odd c = false) (hc : ct.cls.contains c = true) (hv : c ≠ "ValueError")
    (hi : X.N[i]? = some n) (hl : isLoc X.env.scope n = true)
    (ihb : ∀ (W : WX) (pn : List (Addr × Obj)) (xe : Value → Shared → Prop), Sok ct k fa ca Φ false W η (X.tr pn xe) → PSs (X.tr pn xe) b (sS X fa ca Φ W η mb))
    (ihs : ∀ (a : Addr) (oe : Obj) (pn : List (Addr × Obj)) (c : Str), Sok ct k fa ca Φ true W0 (some (a, c)) (X.suite a ((a, oe) :: pn)) → PSs (X.suite a ((a, oe) :: pn)) (s0 :: su) (sS X fa ca Φ W0 (some (a, c)) mh)) :
    PS X (.Try b [.ExceptHandler (some (.Name c np)) (some n) (s0 :: su) p] [] [] pos) (sS X fa ca Φ W η (.try_ mb c (some i) mh)) := by
  obtain ⟨Cc, hCv, hN⟩ := names_of S hg ho hc hv
  have en := eta_none S
  subst en
  refine psImp (ps_try_as (ts := suA X fa ca Φ mh) S.stk S.frm S.c.nd hi (isLoc_loc hl) hN S.c.tk (fun W' pn xe tk po => ihb W' pn xe (S.tr tk po)) (fun a oe cls d pn hz hf => ⟨fun pins s σ H D I q => ?_⟩)) fun D σ H q => ?_
  · obtain ⟨c', C', rfl, rfl, hc', q⟩ := q
    exact (ihs a oe pn c' (S.su hc' hz hf)).run pins s σ H D I q
  · obtain ⟨ρ, L, α, re, rp, q⟩ := q
    refine ⟨ρ, L, α, re, rp, ?_⟩
    unfold run at q
    cases hr : run Φ mb ρ L with
    | ex c' ρ' L' =>
      rw [hr] at q
      intro C' σ' H' α' hc' e re' rp'
      obtain ⟨u, hu, _, hx⟩ := S.c.gl.kit c' C' c hc' (.inl hc)
      rw [hCv] at hu
      cases hu
      refine ⟨_, hx, fun hs a na => ?_, fun hs => ?_⟩
      · dsimp only at q
        rw [if_pos hs] at q
        refine ⟨c', C', rfl, rfl, hc', ρ'.set i (some (.exc c')), L', α', re'.setExc, rp', ?_⟩
        have q' := PostS.from rp.ne e q
        cases hr2 : run Φ mh (ρ'.set i (some (.exc c'))) L' with
        | rt d2 L2 =>
          rw [hr2] at q'
          exact q'
        | _ =>
          rw [hr2] at q'
          exact q'.elim
      · dsimp only at q
        rw [if_neg (by rw [hs]; exact Bool.false_ne_true)] at q
        exact q C' σ' H' α' hc' e re' rp'
    | _ =>
      rw [hr] at q
      exact q
theorem excBaseV : True := trivial
theorem ps_raiseS (S : Sok ct k fa ca Φ false W η X) {e : Expr} {pos : Pos} : PS X (.Raise (some e) none pos) (sS X fa ca Φ W η (raiseE ct X.env.scope e)) := by
  unfold raiseE
  split
  · rename_i c pc m j pm p
    split
    · rename_i h
      obtain ⟨h1, h2, h3⟩ := h
      obtain ⟨C, hC⟩ := S.c.gl.rsd c h3
      obtain ⟨g, xI, kp, bI, tI, _⟩ := S.c.gl.rs c C hC
      refine psImp (ps_raise (S.c.calm rfl) S.c.tk (pmk_own PySem.F.excBase_ValueError xI g kp (raises_own bI tI) (isGl_gl h1) (odd_d h2))) fun D σ H q => ?_
      obtain ⟨ρ, L, α, re, rp, q⟩ := q
      exact q C σ H α hC Ext.refl re rp
    · exact ps_bad rfl
  · exact ps_bad rfl
theorem augOf_spec {o : Operator} {b : Bop} (h : augOf o = some b) : (o = .Add ∧ b = .add) ∨ (o = .Sub ∧ b = .sub) := by
  cases o <;> cases h
  · exact .inl ⟨rfl, rfl⟩
  · exact .inr ⟨rfl, rfl⟩
theorem sto_eq {sc : Scope} {x : Str} {px : Pos} {e : Expr} (h : compSto sc x px e = true) : ∃ elt g scope p, e = .ListComp elt [g] scope p ∧ isLoc sc x = true ∧ (px.line == p.line) = true ∧ (scope.names.any fun (n, k) => n == x && (k == .local || k == .cell)) = false := by
  unfold compSto at h
  split at h
  · rename_i elt a b c d scope p
    simp only [Bool.and_eq_true, Bool.not_eq_true'] at h
    exact ⟨elt, ⟨a, b, c, d⟩, scope, p, rfl, h.1.1, h.1.2, h.2⟩
  · cases h
/-- a comprehension stored at once -/
theorem ps_setLcS (S : Sok ct k fa ca Φ false W η X) {x : Str} {px spos : Pos} {elt : Expr} {g : Comprehension} {scope : Scope} {p : Pos} {i : Nat} (hi : ixOf X.N x = some i) (hl : isLoc X.env.scope x = true) (hln : (px.line == p.line) = true)
    (ha : (scope.names.any fun (n, k) => n == x && (k == .local || k == .cell)) = false) : PS X (.Assign [.Name x px] (.ListComp elt [g] scope p) spos) (sS X fa ca Φ W η (.set i (compE ct X.N false DEPTH X.env.scope (.ListComp elt [g] scope p)))) := by
  show PS X _ (sS X fa ca Φ W η (.set i (compE ct X.N false (59 + 1) X.env.scope (.ListComp elt [g] scope p))))
  have bad : ∀ {m : Ex}, m = .bad → PS X (.Assign [.Name x px] (.ListComp elt [g] scope p) spos) (sS X fa ca Φ W η (.set i m)) := fun h => ⟨fun _ _ _ _ _ _ q => by
    subst h
    obtain ⟨ρ, L, α, _, _, q⟩ := q
    exact q.elim⟩
  unfold compE
  dsimp only
  rw [if_neg (by decide)]
  split
  · rename_i y py it ifs heq
    cases heq
    split
    · rename_i j hj
      split
      · rename_i h
        obtain ⟨hb, hl2⟩ := h
        by_cases hset : noSet it = true
        · have C := S.c
          have key : ∀ mc, ((ifs = [] ∧ mc = .bl true) ∨ ∃ c, ifs = [c] ∧ mc = compE ct X.N false 59 (relS scope X.env.scope) c) →
              PS X (.Assign [.Name x px] (.ListComp elt [⟨.Name y py, it, ifs, 0⟩] scope p) spos) (sS X fa ca Φ W η (.set i (.lc j (iterE ct X.env.scope (compE ct X.N false 59 X.env.scope) it) mc (compE ct X.N false 59 (relS scope X.env.scope) elt)))) := fun mc hc => by
            obtain ⟨hg, ht, he⟩ := lc_parts (py := py) (elt := elt) C (fun X W C => (snd_E 59 false W X C).1) (fun X W C => (snd_E 59 false W X C).2) hj hb hl2 hc
            have ihE := (snd_E 59 false W X C).1
            have hsw := sw_true (elt := elt) (gs := [⟨.Name y py, it, ifs, 0⟩]) (scope := scope) (pos := p) (py := px) (y := x) (l := spos.line) (env := X.env)
            refine ⟨fun pins s σ H D I q => ?_⟩
            refine (ps_setLc (C.calm rfl) C.nd (ixOf_get hi) (isLoc_loc hl) (sw_true I.ok.kind (isLoc_loc hl) hln ha) (pi_iterE C ihE it) (blkOk_by hb) hg ht he (fold_ok hset)).run pins s σ H D I ?_
            refine lc_read ?_
            obtain ⟨ρ, L, α, re, rp, q⟩ := q
            refine ⟨ρ, L, α, re, rp, PostS.val re rp q fun d L1 v H1 α1 e0 e1 p1 r1 q1 => ?_⟩
            exact q1 _ H1 α1 Ext.refl ((re.ext e1 rp).set r1) p1
          split
          · exact key _ (.inl ⟨rfl, rfl⟩)
          · exact key _ (.inr ⟨_, rfl, rfl⟩)
          · exact bad rfl
        · rw [iterE_set (by simpa using hset)]
          split
          all_goals first
            | exact bad rfl
            | (refine ⟨fun pins s σ H D I q => ?_⟩
               obtain ⟨ρ, L, α, re, rp, q⟩ := q
               exact q.elim)
      · exact bad rfl
    · exact bad rfl
  · exact bad rfl
theorem ps_setixS (S : Sok ct k fa ca Φ hot W η X) {o i e : Expr} {p q : Pos} {mo mi me : Ex} (hs : noSl i = true) (ho : PE X o (sE X fa ca Φ W η mo)) (hi : PE X i (sE X fa ca Φ W η mi)) (he : PE X e (sE X fa ca Φ W η me)) :
    PS X (.Assign [.Subscript o i p] e q) (sS X fa ca Φ W η (.setix mo mi me)) := by
  refine psImp (ps_asg he (pg_sub ho hi set_list (fun v => by cases i <;> first | rfl | cases hs)) swaps_sub rfl rfl) fun D σ H q => ?_
  obtain ⟨ρ, L, α, re, rp, q⟩ := q
  unfold run at q
  refine ⟨ρ, L, α, re, rp, PostS.val re rp q fun d L1 v H1 α1 e0 e1 p1 r1 q1 => ?_⟩
  have re1 := re.ext e1 rp
  refine ⟨ρ, L1, α1, re1, p1, PostS.val re1 p1 q1 fun d2 L2 v2 H2 α2 e0 e2 p2 r2 q2 => ?_⟩
  have re2 := re1.ext e2 p1
  refine ⟨ρ, L2, α2, re2, p2, PostS.val re2 p2 q2 fun d3 L3 v3 H3 α3 e0 e3 p3 r3 q3 => ?_⟩
  have re3 := re2.ext e3 p2
  have r1' := r1.ext (e2.trans p1.ne e3) p1.tl
  have r2' := r2.ext e3 p2.tl
  split at q3
  · rename_i n j
    cases r2' with
    | ref h1 =>
      cases r3
      split at q3
      · exact q3.elim
      · rename_i hn
        split at q3
        · rename_i xs hx
          split at q3
          · rename_i pl hp
            obtain ⟨vs, rs, hH⟩ := p3.mut hn h1 hx
            obtain ⟨p', e'⟩ := p3.set hn h1 (rs.set pl r1')
            exact ⟨_, _, _, pl, rfl, rfl, hH, by rw [← rs.length]; exact hp, q3 σ _ α3 e' (re3.ext e' p3) p'⟩
          · exact q3.elim
        · exact q3.elim
  · exact q3.elim
theorem ps_augS (S : Sok ct k fa ca Φ hot W η X) {x : Str} {px q : Pos} {e : Expr} {op : Operator} {b : Bop} {i : Nat} {me : Ex} (hi : X.N[i]? = some x) (hx : isSto X.env.scope x = true) (hb : augOf op = some b) (he : PE X e (sE X fa ca Φ W η me)) :
    PS X (.AugAssign (.Name x px) op e q) (sS X fa ca Φ W η (.aug i b me)) := by
  have go : ∀ (f : Int → Int → Int), PIp X op (ipI f) → (∀ (a y : Int), augop b a (.int y) = some (f a y)) → (∀ (a : Int) (d : D), (∀ y, d ≠ .int y) → augop b a d = none) → PS X (.AugAssign (.Name x px) op e q) (sS X fa ca Φ W η (.aug i b me)) := fun f hp hf hn => by
    refine psImp (ps_aug S.c.nd hi (isSto_loc hx) he hp (.inl (S.fnm x))) fun D σ H q => ?_
    obtain ⟨ρ, L, α, re, rp, q⟩ := q
    unfold run at q
    split at q
    · rename_i a ha
      obtain ⟨v, hv, rv⟩ := re.2.1 i _ ha fun c z => by cases z
      cases rv
      refine ⟨_, hv, ρ, L, α, re, rp, PostS.val re rp q fun d L1 v H1 α1 e0 e1 p1 r1 q1 => ?_⟩
      by_cases hd : ∃ y, d = .int y
      · obtain ⟨y, rfl⟩ := hd
        rw [hf a y] at q1
        cases r1
        exact ⟨a, y, rfl, rfl, q1 _ H1 α1 Ext.refl ((re.ext e1 rp).set (.int _)) p1⟩
      · rw [hn a d fun y e => hd ⟨y, e⟩] at q1
        exact q1.elim
    · exact q.elim
  rcases augOf_spec hb with ⟨rfl, rfl⟩ | ⟨rfl, rfl⟩
  · exact go _ ip_add (fun a y => rfl) fun a d h => by cases d <;> first | rfl | exact absurd rfl (h _)
  · exact go _ ip_sub (fun a y => rfl) fun a d h => by cases d <;> first | rfl | exact absurd rfl (h _)
end
end MP

/-! Statements, all; defs; a law's end. -/
namespace MP
open PySem PySem.Spec PyProof.Rows L2

section
variable {X : Cx} {ct : CT} {k : Nat} {fa ca : Str → Option Addr} {Φ : Str → List D → Hd → R D} {hot : Bool} {W : WX} {η : Option (Addr × Str)}
/-- THE RULE for statements -/
theorem snd_S : ∀ (n : Nat) (hot : Bool) (W : WX) (η : Option (Addr × Str)) (X : Cx), Sok ct k fa ca Φ hot W η X → ∀ s, PS X s (sS X fa ca Φ W η (compS ct X.N hot n X.env.scope s))
  | 0, hot, W, η, X, S, s => ps_bad rfl
  | n + 1, hot, W, η, X, S, s => by
    have E := (snd_E (η := η) DEPTH hot W X S.c).1
    have T := (snd_E (η := η) DEPTH hot W X S.c).2
    have B : ∀ ss, PSs X ss (sS X fa ca Φ W η (compB (compS ct X.N hot n X.env.scope) ss)) := fun ss => pss_sem (snd_S n hot W η X S)
    unfold compS
    split
    · exact psImp ps_pass fun D σ H q => by
        obtain ⟨ρ, L, α, re, rp, q⟩ := q
        exact q σ H α Ext.refl re rp
    · split
      · rename_i hn
        refine psImp (ps_expr (E _) (swaps_no hn)) fun D σ H q => ?_
        obtain ⟨ρ, L, α, re, rp, q⟩ := q
        unfold run at q
        exact ⟨ρ, L, α, re, rp, PostS.val re rp q fun d L1 v H1 α1 e0 e1 p1 r1 q1 => q1 σ H1 α1 Ext.refl (re.ext e1 rp) p1⟩
      · exact ps_bad rfl
    · split
      · split
        · rename_i h
          obtain ⟨h1, h2, h3⟩ := h
          split
          · rename_i i hi
            rcases h3 with h3 | h3
            · refine psImp (ps_set S.c.nd (ixOf_get hi) (isSto_loc h2) (E _) (swaps_no h3) (.inl (S.fnm _))) fun D σ H q => ?_
              obtain ⟨ρ, L, α, re, rp, q⟩ := q
              unfold run at q
              exact ⟨ρ, L, α, re, rp, PostS.val re rp q fun d L1 v H1 α1 e0 e1 p1 r1 q1 => q1 _ H1 α1 Ext.refl ((re.ext e1 rp).set r1) p1⟩
            · obtain ⟨elt, g, scope, p, rfl, hl, hln, ha⟩ := sto_eq h3
              cases hot with
              | false => exact ps_setLcS S hi hl hln ha
              | true => exact ⟨fun _ _ _ _ _ _ q => by
                  obtain ⟨ρ, L, α, _, _, q⟩ := q
                  exact q.elim⟩
          · exact ps_bad rfl
        · exact ps_bad rfl
      · split
        · rename_i hs
          exact ps_setixS S hs (E _) (E _) (E _)
        · exact ps_bad rfl
      · exact ps_bad rfl
    · split
      · split
        · rename_i h
          obtain ⟨h1, h2⟩ := h
          split
          · rename_i i b hi hb
            exact ps_augS S (ixOf_get hi) h2 hb (E _)
          · exact ps_bad rfl
        · exact ps_bad rfl
      · exact ps_bad rfl
    · split
      · refine psImp (ps_ret (E _)) fun D σ H q => ?_
        obtain ⟨ρ, L, α, re, rp, q⟩ := q
        unfold run at q
        exact ⟨ρ, L, α, re, rp, PostS.val re rp q fun d L1 v H1 α1 e0 e1 p1 r1 q1 => q1 _ H1 α1 Ext.refl p1 r1⟩
      · exact psImp ps_retN fun D σ H q => by
          obtain ⟨ρ, L, α, re, rp, q⟩ := q
          exact q _ H α Ext.refl rp .non
    · refine psImp (ps_if (T _) (B _) (B _)) fun D σ H q => ?_
      obtain ⟨ρ, L, α, re, rp, q⟩ := q
      refine ⟨ρ, L, α, re, rp, PostS.test re rp q (fun L1 H1 α1 e1 p1 q1 => ?_) fun L1 H1 α1 e1 p1 q1 => ?_⟩
      · rw [if_pos rfl]
        exact ⟨ρ, L1, α1, re.ext e1 rp, p1, q1⟩
      · rw [if_neg Bool.false_ne_true]
        exact ⟨ρ, L1, α1, re.ext e1 rp, p1, q1⟩
    · split
      · rename_i h
        obtain ⟨rfl, h2⟩ := h
        obtain rfl := nil_of h2
        exact psImp (ps_while S.po (T _) (B _)) fun D σ H q => wh_read q
      · exact ps_bad rfl
    · split
      · rename_i h
        obtain ⟨rfl, h2⟩ := h
        obtain rfl := nil_of h2
        split
        · split
          · rename_i h
            obtain ⟨h1, h2, h3⟩ := h
            split
            · rename_i i hi
              exact psImp (ps_for S.po (S.c.calm rfl) (pi_iterE S.c E _) (pg_name S.c.nd (ixOf_get hi) (isSto_loc h2) (.inl (S.fnm _))) (B _) (fold_ok h3)) fun D σ H q => for_read q
            · exact ps_bad rfl
          · exact ps_bad rfl
        · exact ps_bad rfl
      · exact ps_bad rfl
    · split
      · rename_i h
        subst h
        split
        · exact ps_raiseS S
        · exact ps_bad rfl
      · exact ps_bad rfl
    · exact psImp ps_break fun D σ H q => by
        obtain ⟨ρ, L, α, re, rp, q⟩ := q
        exact q σ H α Ext.refl re rp
    · exact psImp ps_continue fun D σ H q => by
        obtain ⟨ρ, L, α, re, rp, q⟩ := q
        exact q σ H α Ext.refl re rp
    · split
      · rename_i h
        obtain ⟨rfl, h2, h3⟩ := h
        obtain rfl := nil_of h2
        obtain rfl := nil_of h3
        split
        · split
          · rename_i h
            obtain ⟨h4, h5, h6, h7⟩ := h
            split
            · exact ps_tryN S h4 h5 h6 h7 (fun W' pn xe S' => pss_sem (snd_S n false W' η (X.tr pn xe) S')) fun a oe pn S' => pss_sem (snd_S n true W0 none _ S')
            · split
              · rename_i h
                obtain ⟨h8, h9⟩ := h
                split
                · rename_i i hi
                  exact ps_tryA S h4 h5 h6 h7 (ixOf_get hi) h9 (fun W' pn xe S' => pss_sem (snd_S n false W' η (X.tr pn xe) S')) fun a oe pn c S' => pss_sem (snd_S n true W0 (some (a, c)) _ S')
                · exact ps_bad rfl
              · exact ps_bad rfl
          · exact ps_bad rfl
        · exact ps_bad rfl
      · exact ps_bad rfl
    · exact ps_bad rfl
end

/-! ### defs -/
section
variable {P : Program} {w : World} {K : PySem.W.Frag} {mg : Str → Option Value} {base : Heap} {ct : CT} {k : Nat} {fa ca : Str → Option Addr} {Φ : Str → List D → Hd → R D}
theorem env_start {H : Hp} {α : List Addr} {N : List Str} {ds : List D} {vs : List V} (r : RVs K fa H α ds vs) : REnv K fa none H α (ds.map some ++ List.replicate (N.length - ds.length) none) (start N vs) := by
  have hl := r.length
  unfold L2.start
  have get : ∀ {i : Nat} {d : D}, (ds.map some ++ List.replicate (N.length - ds.length) none)[i]? = some (some d) → ds[i]? = some d := fun {i d} h => by
    by_cases hi : i < ds.length
    · rw [List.getElem?_append_left (by simpa using hi), List.getElem?_map] at h
      cases q : ds[i]? with
      | none =>
        rw [q] at h
        cases h
      | some e =>
        rw [q] at h
        cases h
        rfl
    · rw [List.getElem?_append_right (by simpa using hi), List.getElem?_replicate] at h
      split at h <;> cases h
  refine ⟨by simp [hl], fun i d h _ => ?_, fun i c h => ?_⟩
  · obtain ⟨v, hv, rv⟩ := r.get (get h)
    refine ⟨v, ?_, rv⟩
    have hi : i < vs.length := (List.getElem?_eq_some_iff.mp hv).1
    rw [List.getElem?_append_left (by simpa using hi), List.getElem?_map, hv]
    rfl
  · obtain ⟨v, hv, rv⟩ := r.get (get h)
    cases rv
theorem fn_ok (G : Glb ct P w K mg base k fa ca Φ) {x qual : Str} {st : Stmt} {f : Addr} {fdt : FuncData} {N ps : List Str} {fd : Fd} (F : Fun K x qual st f fdt) (S : FnScope N ps (defScope st)) (h1 : fd.np = ps.length) (h2 : fd.n = N.length)
    (h3 : fd.body = compB (compS ct N false DEPTH (defScope st)) (defBody st)) : FnOk P w K mg base (L2.CX P w) (k + 1) f fdt ps (spF K fa ca ps.length (runF Φ fd)) := by
  refine F.okX S (fun vs H Q E h => ?_) (fun cdv A outer s H vs Q E hr h => ?_)
  · obtain ⟨ds, L, α, hl, r, _⟩ := h
    rw [← r.length, hl]
  · obtain ⟨ds, L, α, hl, r, rp, q⟩ := h
    have hS : Sok ct k fa ca Φ false (fun cls d _ H => E cls d H) none (cxOf (L2.CX P w) P w K mg base N qual (defScope st) f cdv A outer s H E) :=
      ⟨⟨S.nd, takes_of rfl rfl rfl rfl, fun _ => rfl, fun _ => hr, hr.units, G, fun a c h => by cases h⟩, passes_of rfl, rfl, rfl, fun _ => rfl⟩
    refine ⟨_, pss_sem (snd_S DEPTH false _ none _ hS), ds.map some ++ List.replicate (N.length - ds.length) none, L, α, env_start r, rp, ?_⟩
    unfold runF at q
    rw [if_pos (hl.trans h1.symm), h2, h3] at q
    show PostS K fa ca _ none (run Φ (compB (compS ct N false DEPTH (defScope st)) (defBody st)) (ds.map some ++ List.replicate (N.length - ds.length) none) L) H α _
    cases hr2 : run Φ (compB (compS ct N false DEPTH (defScope st)) (defBody st)) (ds.map some ++ List.replicate (N.length - ds.length) none) L with
    | nx ρ' L' =>
      rw [hr2] at q
      exact fun σ' H' α' e _ rp' => q _ H' α' e rp' .non
    | rt d L' =>
      rw [hr2] at q
      exact q
    | ex c ρ' L' =>
      rw [hr2] at q
      exact fun C σ' H' α' hc e _ rp' => q C H' α' hc e rp'
    | bk ρ' L' =>
      rw [hr2] at q
      exact q.elim
    | ct ρ' L' =>
      rw [hr2] at q
      exact q.elim
    | bad =>
      rw [hr2] at q
      exact q.elim
end

/-! ### a program -/
/-- where the text's names stand, by the written part -/
def faOf (ct : CT) (K : PySem.W.Frag) : Str → Option Addr := fun f => if ct.fns.contains f = true then (match PySem.W.nsIn K mainGlobals f with
  | some (some (.ref a)) => some a
  | _ => none) else none
def caOf (ct : CT) (K : PySem.W.Frag) : Str → Option Addr := fun f => if ct.rs.contains f = true then (match PySem.W.nsIn K mainGlobals f with
  | some (some (.ref a)) => some a
  | _ => none) else none
/-- a def of the program -/
structure DefK (ct : CT) (K : PySem.W.Frag) (T : Str → Option Fd) (x : Str) : Prop where
  ex : ∃ (ad : Addr) (fdt : FuncData) (N ps : List Str) (st : Stmt) (fd : Fd), PySem.W.nsIn K mainGlobals x = some (some (.ref ad)) ∧ Fun K x x st ad fdt ∧ Binds K fdt ps [] ∧ FnScope N ps (defScope st) ∧ T x = some fd ∧ fd.np = ps.length ∧ fd.n = N.length ∧
    fd.body = compB (compS ct N false DEPTH (defScope st)) (defBody st)
theorem defK_mk {ct : CT} {K : PySem.W.Frag} {T : Str → Option Fd} {x : Str} {st : Stmt} {N ps : List Str} {fd : Fd} {ad : Addr} {oc : Value} {od an : Option Addr} {osl : Array (Option Value)} {kV doc pm cdv ct' : Value}
    (S : FnScope N ps (defScope st)) (hT : T x = some fd) (h1 : fd.np = ps.length) (h2 : fd.n = N.length) (h3 : fd.body = compB (compS ct N false DEPTH (defScope st)) (defBody st))
    (hb : ∀ (kV doc pm : Value) (an : Option Addr) (cdv ct : Value) (us : List Value), us.length = ps.length → bindArgs (PySem.W.fnOf x x (defArgs st) (defBody st) (defScope st) .none kV doc pm an cdv ct) ⟨us, []⟩ = pure (ps.zip us))
    (a : PySem.W.nsIn K mainGlobals x = some (some (.ref ad))) (l : K.lookup ad = some ⟨oc, od, .func (PySem.W.fnOf x x (defArgs st) (defBody st) (defScope st) .none kV doc pm an cdv ct'), osl⟩) (c : PySem.W.codeIn K cdv x = true) (kp : PySem.W.keepIn K (.ref ad) = true) : DefK ct K T x := by
  have F := fun_mk (st := st) l c kp
  exact ⟨ad, _, N, ps, st, fd, a, F, F.binds hb, S, hT, h1, h2, h3⟩
/-- a constant of the program -/
structure CoK (ct : CT) (K : PySem.W.Frag) (fa : Str → Option Addr) (x : Str) (e : Ex) : Prop where
  ex : ∃ d u v, lit e = some d ∧ PySem.W.nsIn K mainGlobals x = some (some u) ∧ RelV v u ∧ ∀ H α, RV K fa H α d v
theorem co_pair {ct : CT} {K : PySem.W.Frag} {fa : Str → Option Addr} {x : Str} {i j : Int} {a : Addr} {od : Option Addr} {t1 t2} {n : Nat} {osl : Array (Option Value)} (hn : PySem.W.nsIn K mainGlobals x = some (some (.ref a))) (hl : K.lookup a = some ⟨.type "tuple", od, .seq #[.int i t1, .int j t2] n, osl⟩) : CoK ct K fa x (.tup (.cons (.int i) (.cons (.int j) .nil))) := by
  refine ⟨.tup [.int i, .int j], .ref a, .ref a, rfl, hn, rfl, fun H α => ?_⟩
  refine .tup (vs := [.int i, .int j]) (.inr ⟨_, _, _, hl, rfl, rfl, ?_, ?_⟩) (.cons (.int i) (.cons (.int j) .nil))
  · show 2 ≤ _
    decide
  · exact .cons ⟨_, rfl⟩ (.cons ⟨_, rfl⟩ .nil)
/-- a class that is raised -/
structure RsK (K : PySem.W.Frag) (c : Str) (C : Addr) : Prop where
  ns : PySem.W.nsIn K mainGlobals c = some (some (.ref C))
  ex : PySem.W.excIn K C [.type "ValueError", .type "Exception", .type "BaseException", .type "object"] "ValueError.__new__" = true
  kp : PySem.W.keepIn K (.ref C) = true
  sb : PySem.W.subIn K (.ref C) (.type "BaseException") = some true
  ty : PySem.W.typeIn K (.ref C) = some (.type "type")
  ec : ExcC K C
def clsK (K : PySem.W.Frag) (c : Str) : Option Value := if c = "ValueError" then some (.type "ValueError") else match PySem.W.nsIn K mainGlobals c with
  | some v => v
  | none => none
theorem kit_own {K : PySem.W.Frag} {c c' : Str} {C U : Addr} {b : Bool} {x} (a : PySem.W.nsIn K mainGlobals c = some (some (.ref C))) (a' : PySem.W.nsIn K mainGlobals c' = some (some (.ref U))) (hv : c' ≠ "ValueError") (hb : b = isSub c c') (h1 : PySem.W.clsIn K U = some x) (h2 : PySem.W.typeIn K (.ref U) = some (.type "type")) (h3 : PySem.W.subIn K (.ref C) (.ref U) = some b) (h4 : PySem.W.subIn K (.ref U) (.type "BaseException") = some true) (hn : b = true ∨ C ≠ U) : ∃ C u, PySem.W.nsIn K mainGlobals c = some (some (.ref C)) ∧ clsK K c' = some u ∧ PySem.W.kitOne K (.ref C) u = some (isSub c c') ∧ PySem.W.exmOne K (.ref C) u = some (isSub c c') := by
  subst hb
  have hk : PySem.W.kitCls K (.ref C) (.ref U) = some (isSub c c') := by
    unfold PySem.W.kitCls
    simp only [h1, h2, Option.isSome_some, Bool.true_and, beq_self_eq_true, if_true]
    exact h3
  refine ⟨C, .ref U, a, ?_, ?_, ?_⟩
  · unfold clsK
    rw [if_neg hv, a']
  · unfold PySem.W.kitOne
    split
    · rename_i he
      have e2 : (Value.ref C) = .ref U := by simpa using he
      have e3 : C = U := by cases e2; rfl
      rcases hn with h | h
      · rw [h]
      · exact absurd e3 h
    · exact hk
  · unfold PySem.W.exmOne
    rw [h4]
    exact hk
theorem kit_val {K : PySem.W.Frag} {c : Str} {C : Addr} {b : Bool} (a : PySem.W.nsIn K mainGlobals c = some (some (.ref C))) (hb : b = isSub c "ValueError") (h0 : PySem.W.kitMeta "ValueError" = true) (h3 : PySem.W.subIn K (.ref C) (.type "ValueError") = some b) (h4 : PySem.W.subIn K (.type "ValueError") (.type "BaseException") = some true) : ∃ C u, PySem.W.nsIn K mainGlobals c = some (some (.ref C)) ∧ clsK K "ValueError" = some u ∧ PySem.W.kitOne K (.ref C) u = some (isSub c "ValueError") ∧ PySem.W.exmOne K (.ref C) u = some (isSub c "ValueError") := by
  subst hb
  have hk : PySem.W.kitCls K (.ref C) (.type "ValueError") = some (isSub c "ValueError") := by
    unfold PySem.W.kitCls
    simp only [h0, if_true]
    exact h3
  refine ⟨C, .type "ValueError", a, if_pos rfl, ?_, ?_⟩
  · unfold PySem.W.kitOne
    split
    · rename_i he
      exact absurd he (by simp)
    · exact hk
  · unfold PySem.W.exmOne
    rw [h4]
    exact hk
def KitP (K : PySem.W.Frag) (c c' : Str) : Prop := ∃ C u, PySem.W.nsIn K mainGlobals c = some (some (.ref C)) ∧ clsK K c' = some u ∧ PySem.W.kitOne K (.ref C) u = some (isSub c c') ∧ PySem.W.exmOne K (.ref C) u = some (isSub c c')
theorem cl_mk {K : PySem.W.Frag} {c : Str} {C : Addr} (a : PySem.W.nsIn K mainGlobals c = some (some (.ref C))) : ∃ C, PySem.W.nsIn K mainGlobals c = some (some (.ref C)) := ⟨C, a⟩
structure ProgK (ct : CT) (K : PySem.W.Frag) (T : Str → Option Fd) : Prop where
  fn : ∀ f ∈ ct.fns, DefK ct K T f
  co : ∀ p ∈ ct.cst, CoK ct K (faOf ct K) p.1 p.2
  bt : ∀ x ∈ ct.bt, PySem.W.nsIn K mainGlobals x = some none
  cl : ∀ c ∈ ct.cls, ∃ C, PySem.W.nsIn K mainGlobals c = some (some (.ref C))
  rs : ∀ c ∈ ct.rs, ∃ C, RsK K c C
  kit : ∀ c ∈ ct.rs, ∀ c', c' ∈ ct.cls ∨ c' = "ValueError" → KitP K c c'
theorem lookup_mem {α : Type} : ∀ {l : List (Str × α)} {x : Str} {e : α}, l.lookup x = some e → (x, e) ∈ l
  | [], _, _, h => by cases h
  | (y, d) :: r, x, e, h => by
    rw [List.lookup_cons] at h
    split at h
    · rename_i hxy
      cases h
      have e1 : x = y := by simpa using hxy
      rw [e1]
      exact List.mem_cons_self
    · exact List.mem_cons_of_mem _ (lookup_mem h)
section
variable {P : Program} {w : World} {K : PySem.W.Frag} {mg : Str → Option Value} {base h : Heap} {ct : CT} {T : Str → Option Fd}
theorem mem_of_contains {l : List Str} {x : Str} (h : l.contains x = true) : x ∈ l := by simpa using h
theorem faOf_some {f : Str} {ad : Addr} (hf : ct.fns.contains f = true) (a : PySem.W.nsIn K mainGlobals f = some (some (.ref ad))) : faOf ct K f = some ad := by
  unfold faOf
  rw [if_pos hf, a]
theorem faOf_in {f : Str} {ad : Addr} (h : faOf ct K f = some ad) : ct.fns.contains f = true := by
  unfold faOf at h
  split at h
  · assumption
  · cases h
theorem caOf_some {f : Str} {ad : Addr} (hf : ct.rs.contains f = true) (a : PySem.W.nsIn K mainGlobals f = some (some (.ref ad))) : caOf ct K f = some ad := by
  unfold caOf
  rw [if_pos hf, a]
theorem caOf_in {f : Str} {ad : Addr} (h : caOf ct K f = some ad) : ct.rs.contains f = true ∧ PySem.W.nsIn K mainGlobals f = some (some (.ref ad)) := by
  unfold caOf at h
  split at h
  · rename_i hf
    split at h
    · rename_i ha
      cases h
      exact ⟨hf, ha⟩
    · cases h
  · cases h
theorem glb_of (PK : ProgK ct K T) (X : K.In h) (G : h.Ns mainGlobals mg) {k : Nat} {Φ : Str → List D → Hd → R D} (hfn : ∀ f, ct.fns.contains f = true → FnK P w K mg base k (faOf ct K) (caOf ct K) (Φ f) f) : Glb ct P w K mg base k (faOf ct K) (caOf ct K) Φ := by
  refine ⟨hfn, fun f ad => faOf_in, fun x e he => ?_, fun x hx => ?_, fun c hc => ?_, fun c C c' hC hc' => ?_, fun c hc => ?_, fun c C hC => ?_⟩
  · obtain ⟨d, u, v, h1, h2, h3, h4⟩ := (PK.co _ (lookup_mem he)).ex
    exact ⟨d, u, v, h1, PySem.W.mg_of X G h2, h3, h4⟩
  · exact PySem.W.mg_none_of X G (PK.bt x (mem_of_contains hx))
  · obtain ⟨C, hC⟩ := PK.cl c (mem_of_contains hc)
    exact ⟨C, PySem.W.mg_of X G hC⟩
  · obtain ⟨h1, h2⟩ := caOf_in hC
    have hc2 : c' ∈ ct.cls ∨ c' = ("ValueError" : Str) := by
      rcases hc' with h | h
      · exact .inl (mem_of_contains h)
      · exact .inr h
    obtain ⟨C', u, h3, h4, h5, h6⟩ := PK.kit c (mem_of_contains h1) c' hc2
    rw [h2] at h3
    cases h3
    refine ⟨u, ?_, h5, h6⟩
    unfold clsK at h4
    unfold clsV
    split at h4
    · rename_i hv
      rw [if_pos hv]
      exact h4
    · rename_i hv
      rw [if_neg hv]
      split at h4
      · rename_i v hn
        subst h4
        exact PySem.W.mg_of X G hn
      · cases h4
  · obtain ⟨C, hR⟩ := PK.rs c (mem_of_contains hc)
    exact ⟨C, caOf_some hc hR.ns⟩
  · obtain ⟨h1, h2⟩ := caOf_in hC
    obtain ⟨C', hR⟩ := PK.rs c (mem_of_contains h1)
    have e := hR.ns
    rw [h2] at e
    cases e
    exact ⟨PySem.W.mg_of X G h2, hR.ex, hR.kp, hR.sb, hR.ty, hR.ec⟩
theorem runF_len {Φ : Str → List D → Hd → R D} {fd : Fd} {ds : List D} {L : Hd} (h : ds.length ≠ fd.np) : runF Φ fd ds L = .bad := by
  unfold runF
  rw [if_neg h]
theorem fnK_all (PK : ProgK ct K T) (X : K.In h) (G : h.Ns mainGlobals mg) : ∀ (k : Nat) (f : Str), ct.fns.contains f = true → FnK P w K mg base k (faOf ct K) (caOf ct K) (runT T k f) f
  | 0, f, hf => by
    obtain ⟨ad, fdt, N, ps, st, fd, a, F, hb, S, hT, h1, h2, h3⟩ := (PK.fn f (mem_of_contains hf)).ex
    refine ⟨ad, fdt, ps, faOf_some hf a, PySem.W.mg_of X G a, F.kp, hb, fun ds L _ => rfl, fun vs H Q E q => ?_, fun A outer s H args us vs Q E _ _ _ _ q => ?_⟩
    · obtain ⟨ds, L, α, _, _, _, q⟩ := q
      exact q.elim
    · obtain ⟨ds, L, α, _, _, _, q⟩ := q
      exact q.elim
  | k + 1, f, hf => by
    obtain ⟨ad, fdt, N, ps, st, fd, a, F, hb, S, hT, h1, h2, h3⟩ := (PK.fn f (mem_of_contains hf)).ex
    have e : runT T (k + 1) f = runF (runT T k) fd := by
      funext ds L
      show (match T f with | some fd => runF (runT T k) fd ds L | none => R.bad) = _
      rw [hT]
    rw [e]
    refine ⟨ad, fdt, ps, faOf_some hf a, PySem.W.mg_of X G a, F.kp, hb, fun ds L hl => runF_len (by rw [h1]; exact hl), ?_⟩
    exact fn_ok (glb_of PK X G (fnK_all PK X G k)) F S h1 h2 h3
/-- the law's own def -/
theorem law_F (PK : ProgK ct K T) (X : K.In h) (G : h.Ns mainGlobals mg) {n : Nat} {fa ad : Addr} {x : Str} {st : Stmt} {N : List Str} {fd : Fd} {oc : Value} {od an : Option Addr} {osl : Array (Option Value)} {kV doc pm cdv ct' : Value}
    (hfa : mg "law" = some (.ref fa)) (S : FnScope N [x] (defScope st)) (hT : T "law" = some fd) (h1 : fd.np = 1) (h2 : fd.n = N.length) (h3 : fd.body = compB (compS ct N false DEPTH (defScope st)) (defBody st))
    (hb : ∀ (kV doc pm : Value) (an : Option Addr) (cdv ct : Value) (s : Shared) (u : Value), BindsTo s (PySem.W.fnOf "law" "law" (defArgs st) (defBody st) (defScope st) .none kV doc pm an cdv ct) ⟨[u], []⟩ [(x, u)])
    (a : PySem.W.nsIn K mainGlobals "law" = some (some (.ref ad))) (l : K.lookup ad = some ⟨oc, od, .func (PySem.W.fnOf "law" "law" (defArgs st) (defBody st) (defScope st) .none kV doc pm an cdv ct'), osl⟩) (c : PySem.W.codeIn K cdv "law" = true) (kp : PySem.W.keepIn K (.ref ad) = true) :
    ∃ fdt : FuncData, (∀ (s : Shared) (u : Value), BindsTo s fdt ⟨[u], []⟩ [(x, u)]) ∧ ∀ base : Heap, K.In base → base.Ns mainGlobals mg → FnOk P w K mg base (L2.CX P w) (n + 1) fa fdt [x] (spF K (faOf ct K) (caOf ct K) 1 (runT T (n + 1) "law")) := by
  have e := hfa.symm.trans (PySem.W.mg_of X G a)
  cases e
  refine ⟨_, hb kV doc pm an cdv ct', fun base _ _ => ?_⟩
  have e : runT T (n + 1) "law" = runF (runT T n) fd := by
    funext ds L
    show (match T "law" with | some fd => runF (runT T n) fd ds L | none => R.bad) = _
    rw [hT]
  rw [e]
  exact fn_ok (ps := [x]) (glb_of PK X G (fnK_all PK X G n)) (fun_mk (st := st) l c kp) S h1 h2 h3
theorem law_sp {ca : Str → Option Addr} {fa : Str → Option Addr} {H : Hp} {a : Addr} {ns : List Int} {φ : List D → Hd → R D} (hO : Only H) (hS : SqL K H a (ns.map V.int)) (hr : ∃ L', φ [.ref 0] [.lst (ns.map D.int)] = .ok (.bl true) L') :
    spF K fa ca 1 φ [.ref a] H (fun v _ => v = .bl true) (fun _ _ _ => False) := by
  obtain ⟨L', hr⟩ := hr
  refine ⟨[.ref 0], [.lst (ns.map D.int)], [a], rfl, .cons (.ref rfl) .nil, ⟨rfl, by simp, by simp, fun b xs h1 h2 => ?_, fun n b xs h1 h2 => by simp at h1⟩, ?_⟩
  · cases h1
    cases h2
    refine ⟨ns.map V.int, RVs.ofInts ns, ?_⟩
    rcases hS with (hS | ⟨o, hS⟩) | hS
    · rcases hO a with z | ⟨o, xs, z⟩
      · rw [hS] at z
        cases z
      · rw [hS] at z
        cases z
    · exact .inl ⟨o, hS⟩
    · exact .inr hS
  · rw [hr]
    intro v H' α' _ _ r
    cases r
    rfl
theorem law_noX {w : World} {H : Hp} {s : Shared} {e : Value} {s' : Shared} : L2.CX P w [] H s (fun _ _ _ => False) e s' → False := fun h => by
  obtain ⟨_, _, _, _, _, _, _, _, _, _, _, _, z⟩ := h
  exact z
end
end MP

/-! How MP's runs are reckoned. -/
namespace MP
open PySem PySem.Spec PyProof.Rows L2

theorem onBl_bl (b : Bool) (t f : R D) : onBl (.bl b) t f = if b = true then t else f := by cases b <;> rfl
theorem ifB_bl (b : Bool) (t f : O) : ifB (.bl b) t f = if b = true then t else f := by cases b <;> rfl
theorem O.then_nx (ρ : Env) (L : Hd) (f : Env → Hd → O) : (O.nx ρ L).then f = f ρ L := rfl
theorem O.then_rt (d : D) (L : Hd) (f : Env → Hd → O) : (O.rt d L).then f = .rt d L := rfl
theorem O.then_ex (c : Str) (ρ : Env) (L : Hd) (f : Env → Hd → O) : (O.ex c ρ L).then f = .ex c ρ L := rfl
theorem O.then_bk (ρ : Env) (L : Hd) (f : Env → Hd → O) : (O.bk ρ L).then f = .bk ρ L := rfl
theorem O.then_ct (ρ : Env) (L : Hd) (f : Env → Hd → O) : (O.ct ρ L).then f = .ct ρ L := rfl
theorem O.then_bad (f : Env → Hd → O) : O.bad.then f = .bad := rfl
theorem O.turn_nx (ρ : Env) (L : Hd) (f : Env → Hd → O) : (O.nx ρ L).turn f = f ρ L := rfl
theorem O.turn_ct (ρ : Env) (L : Hd) (f : Env → Hd → O) : (O.ct ρ L).turn f = f ρ L := rfl
theorem O.turn_bk (ρ : Env) (L : Hd) (f : Env → Hd → O) : (O.bk ρ L).turn f = .nx ρ L := rfl
theorem O.turn_rt (d : D) (L : Hd) (f : Env → Hd → O) : (O.rt d L).turn f = .rt d L := rfl
theorem O.turn_ex (c : Str) (ρ : Env) (L : Hd) (f : Env → Hd → O) : (O.ex c ρ L).turn f = .ex c ρ L := rfl
theorem onPart_int (i : Int) (f : Option Int → R D) : onPart (.int i) f = f (some i) := rfl
theorem onPart_abs (x : Str) (f : Option Int → R D) : onPart (.exc x) f = f none := rfl
theorem eqop_int (i j : Int) (L : Hd) : eqop (.int i) (.int j) L id = .ok (.bl (decide (i = j))) L := by
  have e : PyData.eqv (.int i) (.int j) = decide (i = j) := by
    unfold PyData.eqv
    exact Bool.beq_eq_decide_eq i j
  show (if SeqAt.shaped (.int i) = true ∧ SeqAt.shaped (.int j) = true then R.ok (D.bl (id (PyData.eqv (.int i) (.int j)))) L else .bad) = _
  rw [if_pos ⟨rfl, rfl⟩, e]
  rfl
theorem neop_int (i j : Int) (L : Hd) : eqop (.int i) (.int j) L not = .ok (.bl (!decide (i = j))) L := by
  have e : PyData.eqv (.int i) (.int j) = decide (i = j) := by
    unfold PyData.eqv
    exact Bool.beq_eq_decide_eq i j
  show (if SeqAt.shaped (.int i) = true ∧ SeqAt.shaped (.int j) = true then R.ok (D.bl (not (PyData.eqv (.int i) (.int j)))) L else .bad) = _
  rw [if_pos ⟨rfl, rfl⟩, e]
theorem eqop_bl (i j : Bool) (L : Hd) : eqop (.bl i) (.bl j) L id = .ok (.bl (i == j)) L := by
  cases i <;> cases j <;> rfl
theorem neop_bl (i j : Bool) (L : Hd) : eqop (.bl i) (.bl j) L not = .ok (.bl (!(i == j))) L := by
  cases i <;> cases j <;> rfl
theorem lim1 : (1 ≤ LIM) = True := by decide
theorem lim2 : (2 ≤ LIM) = True := by decide
theorem lim3 : (3 ≤ LIM) = True := by decide
theorem lim4 : (4 ≤ LIM) = True := by decide
theorem lim5 : (5 ≤ LIM) = True := by decide
theorem runT_succ {T : Str → Option Fd} {k : Nat} {f : Str} {fd : Fd} (h : T f = some fd) : runT T (k + 1) f = runF (runT T k) fd := by
  funext ds L
  show (match T f with | some fd => runF (runT T k) fd ds L | none => R.bad) = _
  rw [h]

/-! ### the turns of MP, one by one -/
noncomputable def whW (Φ : Str → List D → Hd → R D) (c : Ex) (b : Sm) (ρ : Env) (L : Hd) : O := whL (fun ρ L => evE Φ c ρ L) (fun ρ L => run Φ b ρ L) ρ L
noncomputable def forW (Φ : Str → List D → Hd → R D) (s : Nat) (b : Sm) (w : Option Nat) (all xs : List D) (ρ : Env) (L : Hd) : O := forGo (fun ρ L => run Φ b ρ L) s w all xs ρ L
noncomputable def lcW (Φ : Str → List D → Hd → R D) (s : Nat) (c e : Ex) (ρ : Env) (w : Option Nat) (all xs : List D) (L : Hd) : R (List D) := lcGo (fun x L => evE Φ c (ρ.set s (some x)) L) (fun x L => evE Φ e (ρ.set s (some x)) L) w all xs L
section
variable {Φ : Str → List D → Hd → R D} {ρ : Env} {L : Hd}
theorem x_bad : evE Φ .bad ρ L = .bad := rfl
theorem x_non : evE Φ .non ρ L = .ok .non L := rfl
theorem x_bl {b : Bool} : evE Φ (.bl b) ρ L = .ok (.bl b) L := rfl
theorem x_int {i : Int} : evE Φ (.int i) ρ L = .ok (.int i) L := rfl
theorem x_str {x : Str} : evE Φ (.str x) ρ L = .ok (.str x) L := rfl
theorem x_v {i : Nat} : evE Φ (.v i) ρ L = getV ρ[i]? L := rfl
theorem x_k {x : Str} {e : Ex} : evE Φ (.k x e) ρ L = evE Φ e [] L := rfl
theorem x_f {x : Str} : evE Φ (.f x) ρ L = .ok (.fn x) L := rfl
theorem x_nil : evE Φ .nil ρ L = .ok (.tup []) L := rfl
theorem x_absent : evE Φ .absent ρ L = .ok (.exc ⟨#[]⟩) L := rfl
def consOp (x y : D) (L : Hd) : R D := match y with
  | .tup ys => .ok (.tup (x :: ys)) L
  | _ => .bad
def tupOp (x : D) (L : Hd) : R D := match x with
  | .tup xs => if xs.length ≤ LIM then .ok (.tup xs) L else .bad
  | _ => .bad
def lstOp (x : D) (L : Hd) : R D := match x with
  | .tup xs => alloc xs L
  | _ => .bad
def negOp (x : D) (L : Hd) : R D := match x with
  | .int i => .ok (.int (-i)) L
  | _ => .bad
def onTup (x : D) (f : List D → R D) : R D := match x with
  | .tup xs => f xs
  | _ => .bad
def isNon (x : D) : Bool := match x with
  | .non => true
  | _ => false
def okOnly (r : R D) : R D := match r with
  | .ok d L => .ok d L
  | _ => .bad
def onFn (o : Option (Option D)) (f : Str → R D) : R D := match o with
  | some (some (.fn g)) => f g
  | _ => .bad
def onExc (o : Option (Option D)) (f : Str → R D) : R D := match o with
  | some (some (.exc g)) => f g
  | _ => .bad
theorem x_cons {a b : Ex} : evE Φ (.cons a b) ρ L = (evE Φ a ρ L).bind fun x L => (evE Φ b ρ L).bind fun y L => consOp x y L := rfl
theorem x_tup {a : Ex} : evE Φ (.tup a) ρ L = (evE Φ a ρ L).bind tupOp := rfl
theorem x_lst {a : Ex} : evE Φ (.lst a) ρ L = (evE Φ a ρ L).bind lstOp := rfl
theorem x_bin {o : Bop} {a b : Ex} : evE Φ (.bin o a b) ρ L = (evE Φ a ρ L).bind fun x L => (evE Φ b ρ L).bind fun y L => binop o x y L := rfl
theorem x_neg {a : Ex} : evE Φ (.neg a) ρ L = (evE Φ a ρ L).bind negOp := rfl
theorem x_not {a : Ex} : evE Φ (.not a) ρ L = (evE Φ a ρ L).bind fun x L => onBl x (.ok (.bl false) L) (.ok (.bl true) L) := rfl
theorem x_and {a b : Ex} : evE Φ (.and a b) ρ L = (evE Φ a ρ L).bind fun x L => onBl x (evE Φ b ρ L) (.ok (.bl false) L) := rfl
theorem x_or {a b : Ex} : evE Φ (.or a b) ρ L = (evE Φ a ρ L).bind fun x L => onBl x (.ok (.bl true) L) (evE Φ b ρ L) := rfl
theorem x_cmp {o : Cop} {a b : Ex} : evE Φ (.cmp o a b) ρ L = (evE Φ a ρ L).bind fun x L => (evE Φ b ρ L).bind fun y L => cmpop o x y L := rfl
theorem x_isn {a : Ex} : evE Φ (.isn a) ρ L = (evE Φ a ρ L).bind fun x L => .ok (.bl (isNon x)) L := rfl
theorem x_notn {a : Ex} : evE Φ (.notn a) ρ L = (evE Φ a ρ L).bind fun x L => .ok (.bl (!isNon x)) L := by
  show (evE Φ a ρ L).bind _ = _
  congr
  funext x L
  cases x <;> rfl
theorem x_ix {a i : Ex} : evE Φ (.ix a i) ρ L = (evE Φ a ρ L).bind fun x L => (evE Φ i ρ L).bind fun y L => ixop x y L := rfl
theorem x_sl {a lo hi : Ex} : evE Φ (.sl a lo hi) ρ L = (evE Φ a ρ L).bind fun x L => (evE Φ lo ρ L).bind fun l L => onPart l fun l => (evE Φ hi ρ L).bind fun u L => onPart u fun u => slop x l u L := rfl
theorem x_call {f : Str} {as : Ex} : evE Φ (.call f as) ρ L = (evE Φ as ρ L).bind fun d L => callOn Φ f d L := rfl
theorem x_callv {i : Nat} {as : Ex} : evE Φ (.callv i as) ρ L = onFn ρ[i]? fun f => (evE Φ as ρ L).bind fun d L => okOnly (callOn Φ f d L) := by
  have e : evE Φ (.callv i as) ρ L = (match ρ[i]? with
    | some (some (.fn f)) => (evE Φ as ρ L).bind fun d L => (match callOn Φ f d L with
      | .ok d L => .ok d L
      | _ => .bad)
    | _ => .bad) := rfl
  rw [e]
  generalize ρ[i]? = o
  rcases o with _ | _ | d
  · rfl
  · rfl
  · cases d <;> rfl
theorem x_bi {b : Bi} {as : Ex} : evE Φ (.bi b as) ρ L = (evE Φ as ρ L).bind fun d L => onTup d fun ds => biop b ds L := rfl
theorem x_isi {a : Ex} {t : Ty} : evE Φ (.isi a t) ρ L = (evE Φ a ρ L).bind fun x L => tyop x t L := rfl
theorem x_ise {i : Nat} {c : Str} : evE Φ (.ise i c) ρ L = onExc ρ[i]? fun a => .ok (.bl (isSub a c)) L := by
  have e : evE Φ (.ise i c) ρ L = (match ρ[i]? with
    | some (some (.exc a)) => .ok (.bl (isSub a c)) L
    | _ => .bad) := rfl
  rw [e]
  generalize ρ[i]? = o
  rcases o with _ | _ | d
  · rfl
  · rfl
  · cases d <;> rfl
theorem x_me {m : Me} {o as : Ex} : evE Φ (.me m o as) ρ L = (evE Φ o ρ L).bind fun x L => if recv m x = true then (evE Φ as ρ L).bind fun d L => onTup d fun ds => meop m x ds L else .bad := rfl
def lcOn (o : Option (Option Nat × List D)) (f : Option Nat → List D → R (List D)) : R D := match o with
  | some (w, xs) => (f w xs).bind fun ys L => alloc ys L
  | none => .bad
theorem x_lc {s : Nat} {it c e : Ex} : evE Φ (.lc s it c e) ρ L = (evE Φ it ρ L).bind fun d L => lcOn (items d L) fun w xs => lcW Φ s c e ρ w xs xs L := by
  have e : evE Φ (.lc s it c e) ρ L = (evE Φ it ρ L).bind fun d L => (match items d L with
    | some (w, xs) => (lcGo (fun x L => evE Φ c (ρ.set s (some x)) L) (fun x L => evE Φ e (ρ.set s (some x)) L) w xs xs L).bind fun ys L => alloc ys L
    | none => .bad) := rfl
  rw [e]
  have h : ∀ (f g : D → Hd → R D), (∀ d L, f d L = g d L) → (evE Φ it ρ L).bind f = (evE Φ it ρ L).bind g := fun f g h => by
    rw [show f = g from funext fun d => funext fun L => h d L]
  exact h _ _ fun d L => by cases items d L <;> rfl
theorem x_rng {as : Ex} : evE Φ (.rng as) ρ L = (evE Φ as ρ L).bind fun d L => onTup d fun ds => rngop ds L := rfl
theorem x_rev {a : Ex} : evE Φ (.rev a) ρ L = (evE Φ a ρ L).bind fun d L => revop d L := rfl
theorem s_bad : run Φ .bad ρ L = .bad := rfl
theorem s_pass : run Φ .pass ρ L = .nx ρ L := rfl
theorem s_seq {a b : Sm} : run Φ (.seq a b) ρ L = (run Φ a ρ L).then fun ρ L => run Φ b ρ L := rfl
theorem s_set {i : Nat} {e : Ex} : run Φ (.set i e) ρ L = (evE Φ e ρ L).on ρ fun d L => .nx (ρ.set i (some d)) L := rfl
def setixOp (ρ : Env) (y x k : D) (L : Hd) : O := match x, k with
  | .ref n, .int j => if n = 0 then .bad else (match getL L n with
    | some xs => (match L2.ixN xs.length j with
      | some p => .nx ρ (setL L n (xs.set p y))
      | none => .bad)
    | none => .bad)
  | _, _ => .bad
theorem s_setix {a i e : Ex} : run Φ (.setix a i e) ρ L = (evE Φ e ρ L).on ρ fun y L => (evE Φ a ρ L).on ρ fun x L => (evE Φ i ρ L).on ρ fun k L => setixOp ρ y x k L := rfl
def onInt (o : Option (Option D)) (f : Int → O) : O := match o with
  | some (some (.int x)) => f x
  | _ => .bad
def augNx (o : Option Int) (f : Int → O) : O := match o with
  | some z => f z
  | none => .bad
theorem s_aug {i : Nat} {o : Bop} {e : Ex} : run Φ (.aug i o e) ρ L = onInt ρ[i]? fun x => (evE Φ e ρ L).on ρ fun y L => augNx (augop o x y) fun z => .nx (ρ.set i (some (.int z))) L := by
  have he0 : run Φ (.aug i o e) ρ L = (match ρ[i]? with
    | some (some (.int x)) => (evE Φ e ρ L).on ρ fun y L => (match augop o x y with
      | some z => .nx (ρ.set i (some (.int z))) L
      | none => .bad)
    | _ => .bad) := rfl
  rw [he0]
  generalize ρ[i]? = q
  rcases q with _ | _ | d
  · rfl
  · rfl
  · cases d with
    | int x =>
      have h : ∀ (f g : D → Hd → O), (∀ d L, f d L = g d L) → (evE Φ e ρ L).on ρ f = (evE Φ e ρ L).on ρ g := fun f g h => by
        rw [show f = g from funext fun d => funext fun L => h d L]
      exact h _ _ fun y L => by cases augop o x y <;> rfl
    | _ => rfl
theorem s_ex {e : Ex} : run Φ (.ex e) ρ L = (evE Φ e ρ L).on ρ fun _ L => .nx ρ L := rfl
theorem s_ite {c : Ex} {a b : Sm} : run Φ (.ite c a b) ρ L = (evE Φ c ρ L).on ρ fun d L => ifB d (run Φ a ρ L) (run Φ b ρ L) := rfl
theorem s_wh {c : Ex} {b : Sm} : run Φ (.wh c b) ρ L = whW Φ c b ρ L := rfl
def forOn (o : Option (Option Nat × List D)) (f : Option Nat → List D → O) : O := match o with
  | some (w, xs) => f w xs
  | none => .bad
theorem s_for {s : Nat} {it : Ex} {b : Sm} : run Φ (.for_ s it b) ρ L = (evE Φ it ρ L).on ρ fun d L => forOn (items d L) fun w xs => forW Φ s b w xs xs ρ L := by
  have e : run Φ (.for_ s it b) ρ L = (evE Φ it ρ L).on ρ fun d L => (match items d L with
    | some (w, xs) => forGo (fun ρ L => run Φ b ρ L) s w xs xs ρ L
    | none => .bad) := rfl
  rw [e]
  have h : ∀ (f g : D → Hd → O), (∀ d L, f d L = g d L) → (evE Φ it ρ L).on ρ f = (evE Φ it ρ L).on ρ g := fun f g h => by
    rw [show f = g from funext fun d => funext fun L => h d L]
  exact h _ _ fun d L => by cases items d L <;> rfl
theorem s_ret {e : Ex} : run Φ (.ret e) ρ L = (evE Φ e ρ L).on ρ fun d L => .rt d L := rfl
theorem s_retn : run Φ .retn ρ L = .rt .non L := rfl
theorem s_brk : run Φ .brk ρ L = .bk ρ L := rfl
theorem s_cnt : run Φ .cnt ρ L = .ct ρ L := rfl
theorem s_raise {c : Str} : run Φ (.raise c) ρ L = .ex c ρ L := rfl
def tryN (o : O) (c : Str) (h : Env → Hd → O) : O := match o with
  | .ex c' ρ' L' => if isSub c' c = true then (match h ρ' L' with
    | .ex _ _ _ => .bad
    | o => o) else .ex c' ρ' L'
  | o => o
def tryA (o : O) (c : Str) (i : Nat) (h : Env → Hd → O) : O := match o with
  | .ex c' ρ' L' => if isSub c' c = true then (match h (ρ'.set i (some (.exc c'))) L' with
    | .rt d L2 => .rt d L2
    | _ => .bad) else .ex c' ρ' L'
  | o => o
theorem s_tryN {b h : Sm} {c : Str} : run Φ (.try_ b c none h) ρ L = tryN (run Φ b ρ L) c fun ρ L => run Φ h ρ L := by
  have e : run Φ (.try_ b c none h) ρ L = (match run Φ b ρ L with
    | .ex c' ρ' L' => if isSub c' c = true then (match run Φ h ρ' L' with
      | .ex _ _ _ => .bad
      | o => o) else .ex c' ρ' L'
    | o => o) := rfl
  rw [e]
  generalize run Φ b ρ L = o
  cases o <;> rfl
theorem s_tryA {b h : Sm} {c : Str} {i : Nat} : run Φ (.try_ b c (some i) h) ρ L = tryA (run Φ b ρ L) c i fun ρ L => run Φ h ρ L := by
  have e : run Φ (.try_ b c (some i) h) ρ L = (match run Φ b ρ L with
    | .ex c' ρ' L' => if isSub c' c = true then (match run Φ h (ρ'.set i (some (.exc c'))) L' with
      | .rt d L2 => .rt d L2
      | _ => .bad) else .ex c' ρ' L'
    | o => o) := rfl
  rw [e]
  generalize run Φ b ρ L = o
  cases o <;> rfl
theorem consOp_t {x : D} {ys : List D} : consOp x (.tup ys) L = .ok (.tup (x :: ys)) L := rfl
theorem tupOp_t {xs : List D} : tupOp (.tup xs) L = if xs.length ≤ LIM then .ok (.tup xs) L else .bad := rfl
theorem lstOp_t {xs : List D} : lstOp (.tup xs) L = alloc xs L := rfl
theorem negOp_i {i : Int} : negOp (.int i) L = .ok (.int (-i)) L := rfl
theorem onTup_t {xs : List D} {f : List D → R D} : onTup (.tup xs) f = f xs := rfl
theorem callOn_t {f : Str} {ds : List D} : callOn Φ f (.tup ds) L = Φ f ds L := rfl
theorem getV_int {i : Int} : getV (some (some (.int i))) L = .ok (.int i) L := rfl
theorem getV_bl {i : Bool} : getV (some (some (.bl i))) L = .ok (.bl i) L := rfl
theorem getV_str {i : Str} : getV (some (some (.str i))) L = .ok (.str i) L := rfl
theorem getV_tup {i : List D} : getV (some (some (.tup i))) L = .ok (.tup i) L := rfl
theorem getV_ref {i : Nat} : getV (some (some (.ref i))) L = .ok (.ref i) L := rfl
theorem getV_fn {i : Str} : getV (some (some (.fn i))) L = .ok (.fn i) L := rfl
theorem getV_non : getV (some (some .non)) L = .ok .non L := rfl
theorem onFn_f {g : Str} {f : Str → R D} : onFn (some (some (.fn g))) f = f g := rfl
theorem onExc_f {g : Str} {f : Str → R D} : onExc (some (some (.exc g))) f = f g := rfl
theorem onInt_i {x : Int} {f : Int → O} : onInt (some (some (.int x))) f = f x := rfl
theorem augNx_s {z : Int} {f : Int → O} : augNx (some z) f = f z := rfl
theorem augop_a {x y : Int} : augop .add x (.int y) = some (x + y) := rfl
theorem augop_s {x y : Int} : augop .sub x (.int y) = some (x - y) := rfl
theorem okOnly_ok {d : D} : okOnly (.ok d L) = .ok d L := rfl
theorem b_add {i j : Int} : binop .add (.int i) (.int j) L = .ok (.int (i + j)) L := rfl
theorem b_sub {i j : Int} : binop .sub (.int i) (.int j) L = .ok (.int (i - j)) L := rfl
theorem b_mul {i j : Int} : binop .mul (.int i) (.int j) L = if mulOk i j then .ok (.int (i * j)) L else .bad := rfl
theorem b_fdiv {i j : Int} : binop .fdiv (.int i) (.int j) L = if divOk i j then .ok (.int (i.fdiv j)) L else .bad := rfl
theorem b_mod {i j : Int} : binop .mod (.int i) (.int j) L = if j ≠ 0 then .ok (.int (i.fmod j)) L else .bad := rfl
theorem b_pow {i j : Int} : binop .pow (.int i) (.int j) L = if powOk i j then .ok (.int (i ^ j.toNat)) L else .bad := rfl
theorem b_addt {a b : List D} : binop .add (.tup a) (.tup b) L = if a.length + b.length ≤ LIM then .ok (.tup (a ++ b)) L else .bad := rfl
theorem c_lt {i j : Int} : cmpop .lt (.int i) (.int j) L = .ok (.bl (decide (i < j))) L := rfl
theorem c_le {i j : Int} : cmpop .le (.int i) (.int j) L = .ok (.bl (decide (i ≤ j))) L := rfl
theorem c_gt {i j : Int} : cmpop .gt (.int i) (.int j) L = .ok (.bl (decide (j < i))) L := rfl
theorem c_ge {i j : Int} : cmpop .ge (.int i) (.int j) L = .ok (.bl (decide (j ≤ i))) L := rfl
theorem c_eq {x y : D} : cmpop .eq x y L = eqop x y L id := by cases x <;> cases y <;> rfl
theorem c_ne {x y : D} : cmpop .ne x y L = eqop x y L not := by cases x <;> cases y <;> rfl
theorem ix_t {xs : List D} {i : Int} {v : D} (h : L2.atI xs i = some v) : ixop (.tup xs) (.int i) L = .ok v L := by
  show (match L2.atI xs i with | some v => R.ok v L | none => .bad) = _
  rw [h]
theorem ix_l {n : Nat} {xs : List D} {i : Int} {v : D} (hx : getL L n = some xs) (h : L2.atI xs i = some v) : ixop (.ref n) (.int i) L = .ok v L := by
  show (match getL L n with | some xs => (match L2.atI xs i with | some v => R.ok v L | none => .bad) | none => .bad) = _
  rw [hx]
  show (match L2.atI xs i with | some v => R.ok v L | none => .bad) = _
  rw [h]
theorem ix_2_0 {a b : D} : ixop (.tup [a, b]) (.int 0) L = .ok a L := rfl
theorem ix_2_1 {a b : D} : ixop (.tup [a, b]) (.int 1) L = .ok b L := rfl
theorem ix_3_0 {a b c : D} : ixop (.tup [a, b, c]) (.int 0) L = .ok a L := rfl
theorem ix_3_1 {a b c : D} : ixop (.tup [a, b, c]) (.int 1) L = .ok b L := rfl
theorem ix_3_2 {a b c : D} : ixop (.tup [a, b, c]) (.int 2) L = .ok c L := rfl
theorem bi_abs {i : Int} : biop .abs [.int i] L = .ok (.int (if i < 0 then -i else i)) L := rfl
theorem bi_lent {xs : List D} : biop .len [.tup xs] L = .ok (.int xs.length) L := rfl
theorem bi_lenl {n : Nat} {xs : List D} (hx : getL L n = some xs) : biop .len [.ref n] L = .ok (.int xs.length) L := by
  show (match getL L n with | some xs => R.ok (D.int xs.length) L | none => .bad) = _
  rw [hx]
theorem bi_max {i j : Int} : biop .max [.int i, .int j] L = .ok (.int (if j > i then j else i)) L := rfl
theorem bi_min {i j : Int} : biop .min [.int i, .int j] L = .ok (.int (if j < i then j else i)) L := rfl
theorem bi_int {i : Int} : biop .int [.int i] L = .ok (.int i) L := rfl
theorem bi_intb {k : Bool} : biop .int [.bl k] L = .ok (.int (if k then 1 else 0)) L := rfl
theorem bi_listt {xs : List D} : biop .list [.tup xs] L = alloc xs L := rfl
theorem bi_listl {n : Nat} {xs : List D} (hx : getL L n = some xs) : biop .list [.ref n] L = alloc xs L := by
  show (match getL L n with | some xs => alloc xs L | none => .bad) = _
  rw [hx]
theorem bi_tupt {xs : List D} : biop .tuple [.tup xs] L = .ok (.tup xs) L := rfl
theorem bi_tupl {n : Nat} {xs : List D} (hx : getL L n = some xs) : biop .tuple [.ref n] L = .ok (.tup xs) L := by
  show (match getL L n with | some xs => R.ok (D.tup xs) L | none => .bad) = _
  rw [hx]
theorem ty_non {t : Ty} : tyop .non t L = .ok (.bl false) L := rfl
theorem ty_bl {b : Bool} {t : Ty} : tyop (.bl b) t L = .ok (.bl (t == .bool || t == .int)) L := rfl
theorem ty_int {i : Int} {t : Ty} : tyop (.int i) t L = .ok (.bl (t == .int)) L := rfl
theorem ty_str {i : Str} {t : Ty} : tyop (.str i) t L = .ok (.bl (t == .str)) L := rfl
theorem ty_tup {i : List D} {t : Ty} : tyop (.tup i) t L = .ok (.bl (t == .tuple)) L := rfl
theorem tb1 : (Ty.int == Ty.int) = true := rfl
theorem tb2 : (Ty.bool == Ty.bool) = true := rfl
theorem tb3 : (Ty.tuple == Ty.tuple) = true := rfl
theorem tb4 : (Ty.list == Ty.list) = true := rfl
theorem tb5 : (Ty.str == Ty.str) = true := rfl
theorem tn1 : (Ty.int == Ty.bool) = false := rfl
theorem tn2 : (Ty.bool == Ty.int) = false := rfl
theorem tn3 : (Ty.tuple == Ty.int) = false := rfl
theorem tn4 : (Ty.tuple == Ty.bool) = false := rfl
theorem tn5 : (Ty.int == Ty.tuple) = false := rfl
theorem tn6 : (Ty.bool == Ty.tuple) = false := rfl
theorem isNon_non : isNon .non = true := rfl
theorem isNon_tup {x : List D} : isNon (.tup x) = false := rfl
theorem isNon_int {x : Int} : isNon (.int x) = false := rfl
theorem isNon_ref {x : Nat} : isNon (.ref x) = false := rfl
theorem items_t {xs : List D} : items (.tup xs) L = some (none, xs) := rfl
theorem items_l {n : Nat} {xs : List D} (hx : getL L n = some xs) : items (.ref n) L = some (some n, xs) := by
  show (getL L n).map (fun xs => (some n, xs)) = _
  rw [hx]
  rfl
theorem forOn_s {w : Option Nat} {xs : List D} {f : Option Nat → List D → O} : forOn (some (w, xs)) f = f w xs := rfl
theorem lcOn_s {w : Option Nat} {xs : List D} {f : Option Nat → List D → R (List D)} : lcOn (some (w, xs)) f = (f w xs).bind fun ys L => alloc ys L := rfl
theorem alloc_ok {xs : List D} (h : xs.length ≤ LIM) : alloc xs L = .ok (.ref L.length) (L ++ [.lst xs]) := if_pos h
theorem forW_nil {s : Nat} {b : Sm} {w : Option Nat} {all : List D} (h : seen w all L) : forW Φ s b w all [] ρ L = .nx ρ L := if_pos h
theorem forW_cons {s : Nat} {b : Sm} {w : Option Nat} {all xs : List D} {x : D} (h : seen w all L) : forW Φ s b w all (x :: xs) ρ L = (run Φ b (ρ.set s (some x)) L).turn fun ρ L => forW Φ s b w all xs ρ L := if_pos h
theorem fw_nil_n {s : Nat} {b : Sm} {all : List D} : forW Φ s b none all [] ρ L = .nx ρ L := forW_nil trivial
theorem fw_cons_n {s : Nat} {b : Sm} {all xs : List D} {x : D} : forW Φ s b none all (x :: xs) ρ L = (run Φ b (ρ.set s (some x)) L).turn fun ρ L => forW Φ s b none all xs ρ L := forW_cons trivial
theorem fw_nil_s {s n : Nat} {b : Sm} {all : List D} (h : getL L n = some all) : forW Φ s b (some n) all [] ρ L = .nx ρ L := forW_nil h
theorem fw_cons_s {s n : Nat} {b : Sm} {all xs : List D} {x : D} (h : getL L n = some all) : forW Φ s b (some n) all (x :: xs) ρ L = (run Φ b (ρ.set s (some x)) L).turn fun ρ L => forW Φ s b (some n) all xs ρ L := forW_cons h
theorem seen_none {all : List D} : seen none all L := trivial
end

/-! ### while -/
theorem whN_mono {c : Env → Hd → R D} {b : Env → Hd → O} : ∀ {n : Nat} {ρ : Env} {L : Hd}, whN c b n ρ L ≠ .bad → whN c b (n + 1) ρ L = whN c b n ρ L
  | 0, _, _, h => absurd rfl h
  | n + 1, ρ, L, h => by
    unfold whN at h ⊢
    cases hc : c ρ L with
    | ok d L1 =>
      rw [hc] at h
      simp only [R.on_ok] at h ⊢
      cases d with
      | bl t =>
        cases t with
        | false => rfl
        | true =>
          simp only [ifB] at h ⊢
          cases hb : b ρ L1 with
          | nx ρ' L' =>
            rw [hb] at h
            exact whN_mono h
          | ct ρ' L' =>
            rw [hb] at h
            exact whN_mono h
          | _ => rfl
      | _ => exact absurd rfl h
    | _ => rfl
theorem whN_le {c : Env → Hd → R D} {b : Env → Hd → O} {n m : Nat} {ρ : Env} {L : Hd} (h : whN c b n ρ L ≠ .bad) (hm : n ≤ m) : whN c b m ρ L = whN c b n ρ L := by
  induction hm with
  | refl => rfl
  | step hm ih => rw [whN_mono (by rw [ih]; exact h), ih]
theorem whL_of {c : Env → Hd → R D} {b : Env → Hd → O} {n : Nat} {ρ : Env} {L : Hd} (h : whN c b n ρ L ≠ .bad) : whL c b ρ L = whN c b n ρ L := by
  unfold whL
  have hex : ∃ n, whN c b n ρ L ≠ .bad := ⟨n, h⟩
  rw [dif_pos hex]
  have h2 := Classical.choose_spec hex
  by_cases hle : n ≤ Classical.choose hex
  · exact whN_le h hle
  · exact (whN_le h2 (by omega)).symm
theorem whL_bad {c : Env → Hd → R D} {b : Env → Hd → O} {ρ : Env} {L : Hd} (h : whL c b ρ L = .bad) (n : Nat) : whN c b n ρ L = .bad := by
  cases q : whN c b n ρ L with
  | bad => rfl
  | _ =>
    have h2 : whN c b n ρ L ≠ .bad := by rw [q]; exact fun z => by cases z
    rw [whL_of h2, q] at h
    cases h
/-- a while is its first turn, and itself -/
theorem whL_step (c : Env → Hd → R D) (b : Env → Hd → O) (ρ : Env) (L : Hd) : whL c b ρ L = (c ρ L).on ρ fun d L => ifB d ((b ρ L).turn fun ρ L => whL c b ρ L) (.nx ρ L) := by
  by_cases hex : ∃ n, whN c b n ρ L ≠ .bad
  · obtain ⟨n, h⟩ := hex
    rw [whL_of h]
    cases n with
    | zero => exact absurd rfl h
    | succ n =>
      unfold whN at h ⊢
      cases hc : c ρ L with
      | ok d L1 =>
        rw [hc] at h
        simp only [R.on_ok] at h ⊢
        cases d with
        | bl t =>
          cases t with
          | false => rfl
          | true =>
            simp only [ifB] at h ⊢
            cases hb : b ρ L1 with
            | nx ρ' L' =>
              rw [hb] at h
              exact (whL_of h).symm
            | ct ρ' L' =>
              rw [hb] at h
              exact (whL_of h).symm
            | _ => rfl
        | _ => rfl
      | _ => rfl
  · have hb : whL c b ρ L = .bad := by
      unfold whL
      rw [dif_neg hex]
    rw [hb]
    symm
    have all : ∀ n, whN c b n ρ L = .bad := whL_bad hb
    cases hc : c ρ L with
    | ok d L1 =>
      simp only [R.on_ok]
      cases d with
      | bl t =>
        cases t with
        | false =>
          have := all 1
          unfold whN at this
          rw [hc] at this
          exact this
        | true =>
          simp only [ifB]
          cases hb2 : b ρ L1 with
          | nx ρ' L' =>
            have : ∀ n, whN c b n ρ' L' = .bad := fun n => by
              have := all (n + 1)
              unfold whN at this
              rw [hc] at this
              simp only [R.on_ok, ifB] at this
              rw [hb2] at this
              exact this
            show whL c b ρ' L' = .bad
            unfold whL
            rw [dif_neg (fun ⟨n, z⟩ => z (this n))]
          | ct ρ' L' =>
            have : ∀ n, whN c b n ρ' L' = .bad := fun n => by
              have := all (n + 1)
              unfold whN at this
              rw [hc] at this
              simp only [R.on_ok, ifB] at this
              rw [hb2] at this
              exact this
            show whL c b ρ' L' = .bad
            unfold whL
            rw [dif_neg (fun ⟨n, z⟩ => z (this n))]
          | bad => rfl
          | _ =>
            have := all 1
            unfold whN at this
            rw [hc] at this
            simp only [R.on_ok, ifB] at this
            rw [hb2] at this
            exact this
      | _ =>
        have := all 1
        unfold whN at this
        rw [hc] at this
        exact this
    | exc c' L1 =>
      have := all 1
      unfold whN at this
      rw [hc] at this
      exact this
    | bad => rfl
theorem whW_step {Φ : Str → List D → Hd → R D} {c : Ex} {b : Sm} {ρ : Env} {L : Hd} : whW Φ c b ρ L = (evE Φ c ρ L).on ρ fun d L => ifB d ((run Φ b ρ L).turn fun ρ L => whW Φ c b ρ L) (.nx ρ L) := whL_step _ _ ρ L
def ofO (o : O) : R D := match o with
  | .nx _ L => .ok .non L
  | .rt d L => .ok d L
  | .ex c _ L => .exc c L
  | _ => .bad
theorem runF_mk {Φ : Str → List D → Hd → R D} {np n : Nat} {b : Sm} {ds : List D} {L : Hd} : runF Φ ⟨np, n, b⟩ ds L = if ds.length = np then ofO (run Φ b (ds.map some ++ List.replicate (n - ds.length) none) L) else .bad := rfl
theorem ofO_nx {ρ : Env} {L : Hd} : ofO (.nx ρ L) = .ok .non L := rfl
theorem ofO_rt {d : D} {L : Hd} : ofO (.rt d L) = .ok d L := rfl
theorem ofO_ex {c : Str} {ρ : Env} {L : Hd} : ofO (.ex c ρ L) = .exc c L := rfl
theorem items_r {n : Nat} {L : Hd} : items (.ref n) L = (getL L n).map fun xs => (some n, xs) := rfl
/-- a body's first rows, and the rest -/
def takeS : Nat → Sm → Sm
  | 0, _ => .pass
  | n + 1, .seq a b => .seq a (takeS n b)
  | _ + 1, s => s
def dropS : Nat → Sm → Sm
  | 0, s => s
  | n + 1, .seq _ b => dropS n b
  | _ + 1, _ => .pass
theorem takeS_0 {s : Sm} : takeS 0 s = .pass := rfl
theorem takeS_s {n : Nat} {a b : Sm} : takeS (n + 1) (.seq a b) = .seq a (takeS n b) := rfl
theorem dropS_0 {s : Sm} : dropS 0 s = s := rfl
theorem dropS_s {n : Nat} {a b : Sm} : dropS (n + 1) (.seq a b) = dropS n b := rfl
theorem then_nx (o : O) : (o.then fun ρ L => .nx ρ L) = o := by cases o <;> rfl
theorem then_then (o : O) (f g : Env → Hd → O) : (o.then f).then g = o.then fun ρ L => (f ρ L).then g := by cases o <;> rfl
theorem run_cut (Φ : Str → List D → Hd → R D) : ∀ (n : Nat) (s : Sm) (ρ : Env) (L : Hd), run Φ s ρ L = (run Φ (takeS n s) ρ L).then fun ρ L => run Φ (dropS n s) ρ L
  | 0, s, ρ, L => rfl
  | n + 1, s, ρ, L => by
    cases s with
    | seq a b =>
      rw [takeS_s, dropS_s, s_seq, s_seq, then_then]
      rw [show (fun ρ L => run Φ b ρ L) = (fun ρ L => (run Φ (takeS n b) ρ L).then fun ρ L => run Φ (dropS n b) ρ L) from funext fun ρ => funext fun L => run_cut Φ n b ρ L]
    | _ => exact (then_nx _).symm
theorem runF_cut {Φ : Str → List D → Hd → R D} {fd : Fd} (k : Nat) {ds : List D} {L : Hd} (h : ds.length = fd.np) : runF Φ fd ds L = ofO ((run Φ (takeS k fd.body) (ds.map some ++ List.replicate (fd.n - ds.length) none) L).then fun ρ L => run Φ (dropS k fd.body) ρ L) := by
  rw [← run_cut]
  exact if_pos h
/-! ### lists on the heap -/
def onL (o : Option (List D)) (f : List D → R D) : R D := match o with
  | some xs => f xs
  | none => .bad
theorem onL_s {xs : List D} {f : List D → R D} : onL (some xs) f = f xs := rfl
def onLo (o : Option (List D)) (f : List D → O) : O := match o with
  | some xs => f xs
  | none => .bad
theorem onLo_s {xs : List D} {f : List D → O} : onLo (some xs) f = f xs := rfl
def atV (o : Option D) (L : Hd) : R D := match o with
  | some v => .ok v L
  | none => .bad
theorem atV_s {v : D} {L : Hd} : atV (some v) L = .ok v L := rfl
def onV (o : Option D) (f : D → R D) : R D := match o with
  | some y => f y
  | none => .bad
theorem onV_s {y : D} {f : D → R D} : onV (some y) f = f y := rfl
section
variable {L M : Hd} {xs ys : List D} {n : Nat} {x y : D} {i : Int}
theorem lr_len : biop .len [.ref n] L = onL (getL L n) fun xs => .ok (.int xs.length) L := by
  show (match getL L n with | some xs => R.ok (D.int xs.length) L | none => .bad) = _
  cases getL L n <;> rfl
theorem lr_list : biop .list [.ref n] L = onL (getL L n) fun xs => alloc xs L := by
  show (match getL L n with | some xs => alloc xs L | none => .bad) = _
  cases getL L n <;> rfl
theorem lr_tuple : biop .tuple [.ref n] L = onL (getL L n) fun xs => .ok (.tup xs) L := by
  show (match getL L n with | some xs => R.ok (D.tup xs) L | none => .bad) = _
  cases getL L n <;> rfl
theorem ix_t' : ixop (.tup xs) (.int i) L = atV (L2.atI xs i) L := by
  show (match L2.atI xs i with | some v => R.ok v L | none => .bad) = _
  cases L2.atI xs i <;> rfl
theorem ix_r' : ixop (.ref n) (.int i) L = onL (getL L n) fun xs => atV (L2.atI xs i) L := by
  show (match getL L n with | some xs => (match L2.atI xs i with | some v => R.ok v L | none => .bad) | none => .bad) = _
  cases getL L n with
  | none => rfl
  | some xs =>
    show (match L2.atI xs i with | some v => R.ok v L | none => .bad) = atV (L2.atI xs i) L
    cases L2.atI xs i <;> rfl
theorem me_app : meop .append (.ref n) [y] L = if n = 0 then .bad else onL (getL L n) fun xs => if xs.length < LIM then .ok .non (setL L n (xs ++ [y])) else .bad := by
  show (if n = 0 then R.bad else (match getL L n with | some xs => if xs.length < LIM then R.ok D.non (setL L n (xs ++ [y])) else .bad | none => .bad)) = _
  cases getL L n <;> rfl
theorem me_pop : meop .pop (.ref n) [] L = if n = 0 then .bad else onL (getL L n) fun xs => onV xs[xs.length - 1]? fun y => .ok y (setL L n xs.dropLast) := by
  show (if n = 0 then R.bad else (match getL L n with | some xs => (match xs[xs.length - 1]? with | some y => R.ok y (setL L n xs.dropLast) | none => .bad) | none => .bad)) = _
  cases getL L n with
  | none => rfl
  | some xs =>
    show (if n = 0 then R.bad else (match xs[xs.length - 1]? with | some y => R.ok y (setL L n xs.dropLast) | none => .bad)) = (if n = 0 then R.bad else onV xs[xs.length - 1]? fun y => .ok y (setL L n xs.dropLast))
    cases xs[xs.length - 1]? <;> rfl
theorem me_rev : meop .reverse (.ref n) [] L = if n = 0 then .bad else onL (getL L n) fun xs => .ok .non (setL L n xs.reverse) := by
  show (if n = 0 then R.bad else (match getL L n with | some xs => R.ok D.non (setL L n xs.reverse) | none => .bad)) = _
  cases getL L n <;> rfl
theorem sl_r' {lo hi : Option Int} : slop (.ref n) lo hi L = onL (getL L n) fun xs => alloc (cut xs lo hi) L := by
  show (match getL L n with | some xs => alloc (cut xs lo hi) L | none => .bad) = _
  cases getL L n <;> rfl
theorem sl_t' {lo hi : Option Int} : slop (.tup xs) lo hi L = .ok (.tup (cut xs lo hi)) L := rfl
theorem recv_app : recv .append (.ref n) = true := rfl
theorem recv_pop : recv .pop (.ref n) = true := rfl
theorem recv_popAt : recv .popAt (.ref n) = true := rfl
theorem recv_clear : recv .clear (.ref n) = true := rfl
theorem recv_rev : recv .reverse (.ref n) = true := rfl
theorem recv_ins : recv .insert (.ref n) = true := rfl
theorem getL_at0 : getL (L ++ .lst xs :: M) L.length = some xs := by
  unfold getL
  rw [List.getElem?_append_right (Nat.le_refl _), Nat.sub_self]
  rfl
theorem getL_at1 {c : Cell} : getL (L ++ c :: .lst xs :: M) (L.length + 1) = some xs := by
  unfold getL
  rw [List.getElem?_append_right (by omega), Nat.add_sub_cancel_left]
  rfl
theorem getL_at2 {c d : Cell} : getL (L ++ c :: d :: .lst xs :: M) (L.length + 2) = some xs := by
  unfold getL
  rw [List.getElem?_append_right (by omega), Nat.add_sub_cancel_left]
  rfl
theorem getL_at3 {c d e : Cell} : getL (L ++ c :: d :: e :: .lst xs :: M) (L.length + 3) = some xs := by
  unfold getL
  rw [List.getElem?_append_right (by omega), Nat.add_sub_cancel_left]
  rfl
theorem setL_at0 {c : Cell} : setL (L ++ c :: M) L.length ys = L ++ .lst ys :: M := by
  unfold setL
  rw [List.set_append_right _ _ (Nat.le_refl _), Nat.sub_self]
  rfl
theorem setL_at1 {c d : Cell} : setL (L ++ c :: d :: M) (L.length + 1) ys = L ++ c :: .lst ys :: M := by
  unfold setL
  rw [List.set_append_right _ _ (by omega), Nat.add_sub_cancel_left]
  rfl
theorem setL_at2 {c d e : Cell} : setL (L ++ c :: d :: e :: M) (L.length + 2) ys = L ++ c :: d :: .lst ys :: M := by
  unfold setL
  rw [List.set_append_right _ _ (by omega), Nat.add_sub_cancel_left]
  rfl
theorem getL_0 {xs : List D} {L : Hd} : getL (.lst xs :: L) 0 = some xs := (rfl)
theorem getL_1 {c : Cell} {xs : List D} {L : Hd} : getL (c :: .lst xs :: L) 1 = some xs := (rfl)
theorem getL_2 {c d : Cell} {xs : List D} {L : Hd} : getL (c :: d :: .lst xs :: L) 2 = some xs := (rfl)
theorem getL_3 {c d e : Cell} {xs : List D} {L : Hd} : getL (c :: d :: e :: .lst xs :: L) 3 = some xs := (rfl)
theorem getL_4 {c d e f : Cell} {xs : List D} {L : Hd} : getL (c :: d :: e :: f :: .lst xs :: L) 4 = some xs := (rfl)
theorem setL_1 {c d : Cell} : setL (c :: d :: M) 1 ys = c :: .lst ys :: M := rfl
theorem setL_2 {c d e : Cell} : setL (c :: d :: e :: M) 2 ys = c :: d :: .lst ys :: M := rfl
theorem setL_3 {c d e f : Cell} : setL (c :: d :: e :: f :: M) 3 ys = c :: d :: e :: .lst ys :: M := rfl
theorem atI_0 {a : D} : L2.atI (a :: xs) 0 = some a := by
  unfold L2.atI L2.ixN
  simp
theorem atI_nat {k : Nat} (h : k < xs.length) : L2.atI xs (k : Int) = xs[k]? := by
  unfold L2.atI L2.ixN
  rw [if_pos (by omega), if_pos (by omega)]
  rfl
theorem atI_1 {a b : D} : L2.atI (a :: b :: xs) 1 = some b := (atI_nat (k := 1) (by simp)).trans rfl
theorem atI_2 {a b c : D} : L2.atI (a :: b :: c :: xs) 2 = some c := (atI_nat (k := 2) (by simp)).trans rfl
theorem atI_m1 {a : D} : L2.atI (xs ++ [a]) (-1) = some a := by
  unfold L2.atI L2.ixN
  rw [if_neg (by decide), if_pos (by simp; omega)]
  have e : (-1 + ((xs ++ [a]).length : Int)).toNat = xs.length := by simp; omega
  show (xs ++ [a])[(-1 + ((xs ++ [a]).length : Int)).toNat]? = _
  rw [e]
  simp
end
end MP

namespace Q
open PySem PySem.Spec PyProof.Rows L2 MP
/- is_whole: 0:thing -/
def F_is_whole : Fd := ⟨1, 1,
  (.seq (.ret (.and (.isi (.v 0) .int) (.not (.isi (.v 0) .bool))))
  .pass)⟩
/- divisor: 0:one 1:other 2:rest -/
def C_divisor_1 : Ex := (.cmp .gt (.v 1) (.int 0))
theorem UC_divisor_1 {Φ : Str → List D → Hd → R D} {ρ : MP.Env} {L : Hd} : evE Φ C_divisor_1 ρ L = evE Φ (.cmp .gt (.v 1) (.int 0)) ρ L := rfl
def B_divisor_1 : Sm := (.seq (.set 2 (.bin .mod (.v 0) (.v 1)))
  (.seq (.set 0 (.v 1))
  (.seq (.set 1 (.v 2))
  .pass)))
theorem UB_divisor_1 {Φ : Str → List D → Hd → R D} {ρ : MP.Env} {L : Hd} : MP.run Φ B_divisor_1 ρ L = MP.run Φ (.seq (.set 2 (.bin .mod (.v 0) (.v 1)))
  (.seq (.set 0 (.v 1))
  (.seq (.set 1 (.v 2))
  .pass))) ρ L := rfl
def F_divisor : Fd := ⟨2, 3,
  (.seq (.set 0 (.bi .abs (.cons (.v 0) .nil)))
  (.seq (.set 1 (.bi .abs (.cons (.v 1) .nil)))
  (.seq (.wh C_divisor_1 B_divisor_1)
  (.seq (.ret (.v 0))
  .pass))))⟩
/- ratio: 0:top 1:bottom 2:many -/
def F_ratio : Fd := ⟨2, 3,
  (.seq (.ite (.or (.not (.call "is_whole" (.cons (.v 0) .nil))) (.or (.not (.call "is_whole" (.cons (.v 1) .nil))) (.cmp .eq (.v 1) (.int 0))))
    (.seq (.raise "NoRatio")
    .pass)
    .pass)
  (.seq (.ite (.cmp .eq (.v 1) (.int 1))
    (.seq (.ret (.tup (.cons (.v 0) (.cons (.int 1) .nil))))
    .pass)
    .pass)
  (.seq (.set 2 (.call "divisor" (.cons (.v 0) (.cons (.v 1) .nil))))
  (.seq (.ite (.cmp .lt (.v 1) (.int 0))
    (.seq (.set 2 (.neg (.v 2)))
    .pass)
    .pass)
  (.seq (.ret (.tup (.cons (.bin .fdiv (.v 0) (.v 2)) (.cons (.bin .fdiv (.v 1) (.v 2)) .nil))))
  .pass)))))⟩
/- minus: 0:one 1:other -/
def F_minus : Fd := ⟨2, 2,
  (.seq (.ite (.cmp .eq (.ix (.v 0) (.int 1)) (.ix (.v 1) (.int 1)))
    (.seq (.ret (.call "ratio" (.cons (.bin .sub (.ix (.v 0) (.int 0)) (.ix (.v 1) (.int 0))) (.cons (.ix (.v 0) (.int 1)) .nil))))
    .pass)
    .pass)
  (.seq (.ret (.call "ratio" (.cons (.bin .sub (.bin .mul (.ix (.v 0) (.int 0)) (.ix (.v 1) (.int 1))) (.bin .mul (.ix (.v 1) (.int 0)) (.ix (.v 0) (.int 1)))) (.cons (.bin .mul (.ix (.v 0) (.int 1)) (.ix (.v 1) (.int 1))) .nil))))
  .pass))⟩
/- over: 0:one 1:other -/
def F_over : Fd := ⟨2, 2,
  (.seq (.ite (.cmp .eq (.ix (.v 1) (.int 0)) (.int 0))
    (.seq (.raise "NoRatio")
    .pass)
    .pass)
  (.seq (.ret (.call "ratio" (.cons (.bin .mul (.ix (.v 0) (.int 0)) (.ix (.v 1) (.int 1))) (.cons (.bin .mul (.ix (.v 0) (.int 1)) (.ix (.v 1) (.int 0))) .nil))))
  .pass))⟩
/- under: 0:one 1:other -/
def F_under : Fd := ⟨2, 2,
  (.seq (.ret (.cmp .lt (.bin .mul (.ix (.v 0) (.int 0)) (.ix (.v 1) (.int 1))) (.bin .mul (.ix (.v 1) (.int 0)) (.ix (.v 0) (.int 1)))))
  .pass)⟩
/- slope_between: 0:one 1:other -/
def F_slope_between : Fd := ⟨2, 2,
  (.seq (.ret (.call "over" (.cons (.call "minus" (.cons (.ix (.v 1) (.int 1)) (.cons (.ix (.v 0) (.int 1)) .nil))) (.cons (.call "minus" (.cons (.ix (.v 1) (.int 0)) (.cons (.ix (.v 0) (.int 0)) .nil))) .nil))))
  .pass)⟩
/- slopes_of: 0:corners 1:last 2:slopes 3:k -/
def B_slopes_of_1 : Sm := (.seq (.ex (.me .append (.v 2) (.cons (.call "slope_between" (.cons (.ix (.v 0) (.bin .sub (.v 3) (.int 1))) (.cons (.ix (.v 0) (.v 3)) .nil))) .nil)))
  .pass)
theorem UB_slopes_of_1 {Φ : Str → List D → Hd → R D} {ρ : MP.Env} {L : Hd} : MP.run Φ B_slopes_of_1 ρ L = MP.run Φ (.seq (.ex (.me .append (.v 2) (.cons (.call "slope_between" (.cons (.ix (.v 0) (.bin .sub (.v 3) (.int 1))) (.cons (.ix (.v 0) (.v 3)) .nil))) .nil)))
  .pass) ρ L := rfl
def F_slopes_of : Fd := ⟨2, 4,
  (.seq (.set 2 (.lst .nil))
  (.seq (.for_ 3 (.rng (.cons (.int 1) (.cons (.bi .len (.cons (.v 0) .nil)) .nil))) B_slopes_of_1)
  (.seq (.ex (.me .append (.v 2) (.cons (.v 1) .nil)))
  (.seq (.ret (.v 2))
  .pass))))⟩
/- folded: 0:corners 1:last 2:slopes 3:kept 4:k -/
def B_folded_1 : Sm := (.seq (.ite (.cmp .ne (.ix (.v 2) (.bin .sub (.v 4) (.int 1))) (.ix (.v 2) (.v 4)))
    (.seq (.ex (.me .append (.v 3) (.cons (.ix (.v 0) (.v 4)) .nil)))
    .pass)
    .pass)
  .pass)
theorem UB_folded_1 {Φ : Str → List D → Hd → R D} {ρ : MP.Env} {L : Hd} : MP.run Φ B_folded_1 ρ L = MP.run Φ (.seq (.ite (.cmp .ne (.ix (.v 2) (.bin .sub (.v 4) (.int 1))) (.ix (.v 2) (.v 4)))
    (.seq (.ex (.me .append (.v 3) (.cons (.ix (.v 0) (.v 4)) .nil)))
    .pass)
    .pass)
  .pass) ρ L := rfl
def F_folded : Fd := ⟨2, 5,
  (.seq (.set 2 (.call "slopes_of" (.cons (.v 0) (.cons (.v 1) .nil))))
  (.seq (.set 3 (.lst (.cons (.ix (.v 0) (.int 0)) .nil)))
  (.seq (.for_ 4 (.rng (.cons (.int 1) (.cons (.bi .len (.cons (.v 0) .nil)) .nil))) B_folded_1)
  (.seq (.ret (.v 3))
  .pass))))⟩
/- made: 0:corners 1:last -/
def F_made : Fd := ⟨2, 2,
  (.seq (.ret (.tup (.cons (.bi .tuple (.cons (.call "folded" (.cons (.v 0) (.cons (.v 1) .nil))) .nil)) (.cons (.v 1) .nil))))
  .pass)⟩
/- curve: 0:corners 1:last 2:k -/
def B_curve_1 : Sm := (.seq (.ite (.not (.call "under" (.cons (.ix (.ix (.v 0) (.bin .sub (.v 2) (.int 1))) (.int 0)) (.cons (.ix (.ix (.v 0) (.v 2)) (.int 0)) .nil))))
    (.seq (.raise "NoCurve")
    .pass)
    .pass)
  (.seq (.ite (.call "under" (.cons (.ix (.ix (.v 0) (.v 2)) (.int 1)) (.cons (.ix (.ix (.v 0) (.bin .sub (.v 2) (.int 1))) (.int 1)) .nil)))
    (.seq (.raise "NoCurve")
    .pass)
    .pass)
  .pass))
theorem UB_curve_1 {Φ : Str → List D → Hd → R D} {ρ : MP.Env} {L : Hd} : MP.run Φ B_curve_1 ρ L = MP.run Φ (.seq (.ite (.not (.call "under" (.cons (.ix (.ix (.v 0) (.bin .sub (.v 2) (.int 1))) (.int 0)) (.cons (.ix (.ix (.v 0) (.v 2)) (.int 0)) .nil))))
    (.seq (.raise "NoCurve")
    .pass)
    .pass)
  (.seq (.ite (.call "under" (.cons (.ix (.ix (.v 0) (.v 2)) (.int 1)) (.cons (.ix (.ix (.v 0) (.bin .sub (.v 2) (.int 1))) (.int 1)) .nil)))
    (.seq (.raise "NoCurve")
    .pass)
    .pass)
  .pass)) ρ L := rfl
def F_curve : Fd := ⟨2, 3,
  (.seq (.ite (.or (.cmp .eq (.bi .len (.cons (.v 0) .nil)) (.int 0)) (.call "under" (.cons (.v 1) (.cons (.k "NOUGHT" (.tup (.cons (.int 0) (.cons (.int 1) .nil)))) .nil))))
    (.seq (.raise "NoCurve")
    .pass)
    .pass)
  (.seq (.ite (.or (.cmp .ne (.ix (.ix (.v 0) (.int 0)) (.int 0)) (.k "NOUGHT" (.tup (.cons (.int 0) (.cons (.int 1) .nil))))) (.call "under" (.cons (.ix (.ix (.v 0) (.int 0)) (.int 1)) (.cons (.k "NOUGHT" (.tup (.cons (.int 0) (.cons (.int 1) .nil)))) .nil))))
    (.seq (.raise "NoCurve")
    .pass)
    .pass)
  (.seq (.for_ 2 (.rng (.cons (.int 1) (.cons (.bi .len (.cons (.v 0) .nil)) .nil))) B_curve_1)
  (.seq (.ret (.call "made" (.cons (.v 0) (.cons (.v 1) .nil))))
  .pass))))⟩
/- heap: 0:value 1:slope -/
def F_heap : Fd := ⟨2, 2,
  (.seq (.ite (.or (.call "under" (.cons (.v 0) (.cons (.k "NOUGHT" (.tup (.cons (.int 0) (.cons (.int 1) .nil)))) .nil))) (.call "under" (.cons (.v 1) (.cons (.k "NOUGHT" (.tup (.cons (.int 0) (.cons (.int 1) .nil)))) .nil))))
    (.seq (.raise "NoCurve")
    .pass)
    .pass)
  (.seq (.ret (.tup (.cons (.tup (.cons (.tup (.cons (.k "NOUGHT" (.tup (.cons (.int 0) (.cons (.int 1) .nil)))) (.cons (.v 0) .nil))) .nil)) (.cons (.v 1) .nil))))
  .pass))⟩
/- late: 0:time 1:slope -/
def F_late : Fd := ⟨2, 2,
  (.seq (.ite (.or (.call "under" (.cons (.v 0) (.cons (.k "NOUGHT" (.tup (.cons (.int 0) (.cons (.int 1) .nil)))) .nil))) (.call "under" (.cons (.v 1) (.cons (.k "NOUGHT" (.tup (.cons (.int 0) (.cons (.int 1) .nil)))) .nil))))
    (.seq (.raise "NoCurve")
    .pass)
    .pass)
  (.seq (.ite (.cmp .eq (.v 0) (.k "NOUGHT" (.tup (.cons (.int 0) (.cons (.int 1) .nil)))))
    (.seq (.ret (.call "heap" (.cons (.k "NOUGHT" (.tup (.cons (.int 0) (.cons (.int 1) .nil)))) (.cons (.v 1) .nil))))
    .pass)
    .pass)
  (.seq (.ret (.call "made" (.cons (.lst (.cons (.tup (.cons (.k "NOUGHT" (.tup (.cons (.int 0) (.cons (.int 1) .nil)))) (.cons (.k "NOUGHT" (.tup (.cons (.int 0) (.cons (.int 1) .nil)))) .nil))) (.cons (.tup (.cons (.v 0) (.cons (.k "NOUGHT" (.tup (.cons (.int 0) (.cons (.int 1) .nil)))) .nil))) .nil))) (.cons (.v 1) .nil))))
  .pass)))⟩
/- _law_cell_at: 0:_law_script 1:_law_k -/
def F__law_cell_at : Fd := ⟨2, 2,
  (.seq (.ite (.cmp .lt (.v 1) (.bi .len (.cons (.v 0) .nil)))
    (.seq (.ret (.ix (.v 0) (.v 1)))
    .pass)
    .pass)
  (.seq (.ret (.int 0))
  .pass))⟩
/- _law_lowest: 0:_law_top 1:_law_bottom 2:_law_one 3:_law_other 4:_law_rest -/
def C__law_lowest_1 : Ex := (.cmp .ne (.v 3) (.int 0))
theorem UC__law_lowest_1 {Φ : Str → List D → Hd → R D} {ρ : MP.Env} {L : Hd} : evE Φ C__law_lowest_1 ρ L = evE Φ (.cmp .ne (.v 3) (.int 0)) ρ L := rfl
def B__law_lowest_1 : Sm := (.seq (.set 4 (.bin .mod (.v 2) (.v 3)))
  (.seq (.set 2 (.v 3))
  (.seq (.set 3 (.v 4))
  .pass)))
theorem UB__law_lowest_1 {Φ : Str → List D → Hd → R D} {ρ : MP.Env} {L : Hd} : MP.run Φ B__law_lowest_1 ρ L = MP.run Φ (.seq (.set 4 (.bin .mod (.v 2) (.v 3)))
  (.seq (.set 2 (.v 3))
  (.seq (.set 3 (.v 4))
  .pass))) ρ L := rfl
def F__law_lowest : Fd := ⟨2, 5,
  (.seq (.set 2 (.bi .abs (.cons (.v 0) .nil)))
  (.seq (.set 3 (.v 1))
  (.seq (.wh C__law_lowest_1 B__law_lowest_1)
  (.seq (.ret (.tup (.cons (.bin .fdiv (.v 0) (.v 2)) (.cons (.bin .fdiv (.v 1) (.v 2)) .nil))))
  .pass))))⟩
/- _law_minus: 0:_law_one 1:_law_other -/
def F__law_minus : Fd := ⟨2, 2,
  (.seq (.ret (.tup (.cons (.bin .sub (.bin .mul (.ix (.v 0) (.int 0)) (.ix (.v 1) (.int 1))) (.bin .mul (.ix (.v 1) (.int 0)) (.ix (.v 0) (.int 1)))) (.cons (.bin .mul (.ix (.v 0) (.int 1)) (.ix (.v 1) (.int 1))) .nil))))
  .pass)⟩
/- _law_corners_by: 0:_law_cells 1:_law_start 2:_law_low 3:_law_high 4:_law_at 5:_law_value 6:_law_gap 7:_law_rise 8:_law_corners 9:_law_k 10:_law_kind -/
def B__law_corners_by_1 : Sm := (.seq (.set 10 (.bin .mod (.ix (.v 0) (.v 9)) (.int 4)))
  (.seq (.ite (.cmp .ne (.v 10) (.int 1))
    (.seq (.set 6 (.bin .add (.int 1) (.bin .mod (.bin .fdiv (.ix (.v 0) (.v 9)) (.int 4)) (.bin .pow (.int 10) (.int 28)))))
    (.seq (.set 7 (.bin .mod (.ix (.v 0) (.bin .add (.v 9) (.int 1))) (.bin .pow (.int 10) (.int 28))))
    .pass))
    .pass)
  (.seq (.ite (.cmp .eq (.v 10) (.int 0))
    (.seq (.set 7 (.int 0))
    .pass)
    .pass)
  (.seq (.set 4 (.bin .add (.v 4) (.v 6)))
  (.seq (.set 5 (.bin .add (.v 5) (.v 7)))
  (.seq (.ex (.me .append (.v 8) (.cons (.tup (.cons (.call "_law_lowest" (.cons (.v 4) (.cons (.v 2) .nil))) (.cons (.call "_law_lowest" (.cons (.v 5) (.cons (.v 3) .nil))) .nil))) .nil)))
  .pass))))))
theorem UB__law_corners_by_1 {Φ : Str → List D → Hd → R D} {ρ : MP.Env} {L : Hd} : MP.run Φ B__law_corners_by_1 ρ L = MP.run Φ (.seq (.set 10 (.bin .mod (.ix (.v 0) (.v 9)) (.int 4)))
  (.seq (.ite (.cmp .ne (.v 10) (.int 1))
    (.seq (.set 6 (.bin .add (.int 1) (.bin .mod (.bin .fdiv (.ix (.v 0) (.v 9)) (.int 4)) (.bin .pow (.int 10) (.int 28)))))
    (.seq (.set 7 (.bin .mod (.ix (.v 0) (.bin .add (.v 9) (.int 1))) (.bin .pow (.int 10) (.int 28))))
    .pass))
    .pass)
  (.seq (.ite (.cmp .eq (.v 10) (.int 0))
    (.seq (.set 7 (.int 0))
    .pass)
    .pass)
  (.seq (.set 4 (.bin .add (.v 4) (.v 6)))
  (.seq (.set 5 (.bin .add (.v 5) (.v 7)))
  (.seq (.ex (.me .append (.v 8) (.cons (.tup (.cons (.call "_law_lowest" (.cons (.v 4) (.cons (.v 2) .nil))) (.cons (.call "_law_lowest" (.cons (.v 5) (.cons (.v 3) .nil))) .nil))) .nil)))
  .pass)))))) ρ L := rfl
def F__law_corners_by : Fd := ⟨4, 11,
  (.seq (.set 4 (.int 0))
  (.seq (.set 5 (.v 1))
  (.seq (.set 6 (.int 1))
  (.seq (.set 7 (.int 0))
  (.seq (.set 8 (.lst (.cons (.tup (.cons (.tup (.cons (.int 0) (.cons (.int 1) .nil))) (.cons (.call "_law_lowest" (.cons (.v 5) (.cons (.v 3) .nil))) .nil))) .nil)))
  (.seq (.for_ 9 (.rng (.cons (.int 0) (.cons (.bin .sub (.bi .len (.cons (.v 0) .nil)) (.int 1)) (.cons (.int 2) .nil)))) B__law_corners_by_1)
  (.seq (.ret (.v 8))
  .pass)))))))⟩
/- _law_last_by: 0:_law_cell 1:_law_other 2:_law_corners 3:_law_rise 4:_law_span -/
def F__law_last_by : Fd := ⟨3, 5,
  (.seq (.ite (.cmp .eq (.bin .mod (.v 0) (.int 3)) (.int 1))
    (.seq (.ret (.tup (.cons (.int 0) (.cons (.int 1) .nil))))
    .pass)
    .pass)
  (.seq (.ite (.and (.cmp .eq (.bin .mod (.v 0) (.int 3)) (.int 0)) (.cmp .gt (.bi .len (.cons (.v 2) .nil)) (.int 1)))
    (.seq (.set 3 (.call "_law_minus" (.cons (.ix (.ix (.v 2) (.neg (.int 1))) (.int 1)) (.cons (.ix (.ix (.v 2) (.neg (.int 2))) (.int 1)) .nil))))
    (.seq (.set 4 (.call "_law_minus" (.cons (.ix (.ix (.v 2) (.neg (.int 1))) (.int 0)) (.cons (.ix (.ix (.v 2) (.neg (.int 2))) (.int 0)) .nil))))
    (.seq (.ret (.call "_law_lowest" (.cons (.bin .mul (.ix (.v 3) (.int 0)) (.ix (.v 4) (.int 1))) (.cons (.bin .mul (.ix (.v 3) (.int 1)) (.ix (.v 4) (.int 0))) .nil))))
    .pass)))
    .pass)
  (.seq (.ret (.call "_law_lowest" (.cons (.bin .mod (.bin .fdiv (.v 0) (.int 3)) (.bin .pow (.int 10) (.int 59))) (.cons (.bi .max (.cons (.int 1) (.cons (.bin .mod (.v 1) (.bin .pow (.int 10) (.int 59))) .nil))) .nil))))
  .pass)))⟩
/- _law_many_cells: 0:_law_script 1:_law_begin 2:_law_seed 3:_law_many 4:_law_k -/
def C__law_many_cells_1 : Ex := (.bl true)
theorem UC__law_many_cells_1 {Φ : Str → List D → Hd → R D} {ρ : MP.Env} {L : Hd} : evE Φ C__law_many_cells_1 ρ L = evE Φ (.bl true) ρ L := rfl
def E__law_many_cells_1 : Ex := (.bin .mod (.bin .mul (.bin .mod (.bin .mul (.bin .add (.bin .add (.v 3) (.bin .mul (.v 4) (.v 4))) (.int 7)) (.int 48271)) (.int 1000003)) (.int 69621)) (.int 999983))
theorem UE__law_many_cells_1 {Φ : Str → List D → Hd → R D} {ρ : MP.Env} {L : Hd} : evE Φ E__law_many_cells_1 ρ L = evE Φ (.bin .mod (.bin .mul (.bin .mod (.bin .mul (.bin .add (.bin .add (.v 3) (.bin .mul (.v 4) (.v 4))) (.int 7)) (.int 48271)) (.int 1000003)) (.int 69621)) (.int 999983)) ρ L := rfl
def F__law_many_cells : Fd := ⟨3, 5,
  (.seq (.ite (.cmp .ne (.bin .mod (.v 2) (.int 4)) (.int 1))
    (.seq (.ret (.sl (.v 0) (.v 1) (.bin .add (.v 1) (.int 118))))
    .pass)
    .pass)
  (.seq (.set 3 (.bin .mod (.bin .fdiv (.v 2) (.int 4)) (.bin .pow (.int 10) (.int 30))))
  (.seq (.ret (.lc 4 (.rng (.cons (.bin .mul (.int 2) (.bin .mod (.v 3) (.int 60))) .nil)) C__law_many_cells_1 E__law_many_cells_1))
  .pass)))⟩
/- _law_spoiled: 0:_law_corners 1:_law_way 2:_law_cell 3:_law_rows 4:_law_off 5:_law_k 6:_law_ahead 7:_law_less -/
def F__law_spoiled : Fd := ⟨3, 8,
  (.seq (.ite (.cmp .eq (.v 1) (.int 1))
    (.seq (.ret (.lst .nil))
    .pass)
    .pass)
  (.seq (.set 3 (.bi .list (.cons (.v 0) .nil)))
  (.seq (.ite (.cmp .eq (.v 1) (.int 2))
    (.seq (.set 4 (.bin .add (.int 1) (.bin .mod (.bin .fdiv (.v 2) (.int 2)) (.bin .pow (.int 10) (.int 28)))))
    (.seq (.ite (.cmp .eq (.bin .mod (.v 2) (.int 2)) (.int 1))
      (.seq (.set 4 (.neg (.v 4)))
      .pass)
      .pass)
    (.seq (.setix (.v 3) (.int 0) (.tup (.cons (.call "_law_lowest" (.cons (.v 4) (.cons (.bin .add (.int 1) (.bin .mod (.v 2) (.int 7))) .nil))) (.cons (.ix (.ix (.v 3) (.int 0)) (.int 1)) .nil))))
    .pass)))
    .pass)
  (.seq (.ite (.or (.cmp .eq (.v 1) (.int 3)) (.cmp .eq (.v 1) (.int 4)))
    (.seq (.set 5 (.bin .add (.int 1) (.bin .mod (.v 2) (.bi .max (.cons (.int 1) (.cons (.bin .sub (.bi .len (.cons (.v 3) .nil)) (.int 1)) .nil))))))
    (.seq (.ite (.cmp .eq (.v 5) (.bi .len (.cons (.v 3) .nil)))
      (.seq (.ex (.me .append (.v 3) (.cons (.ix (.v 3) (.int 0)) .nil)))
      .pass)
      .pass)
    (.seq (.set 6 (.ix (.v 3) (.bin .sub (.v 5) (.int 1))))
    (.seq (.set 7 (.bin .mod (.bin .fdiv (.v 2) (.int 60)) (.bin .pow (.int 10) (.int 20))))
    (.seq (.ite (.cmp .eq (.v 1) (.int 3))
      (.seq (.setix (.v 3) (.v 5) (.tup (.cons (.call "_law_lowest" (.cons (.bin .sub (.ix (.ix (.v 6) (.int 0)) (.int 0)) (.bin .mul (.v 7) (.ix (.ix (.v 6) (.int 0)) (.int 1)))) (.cons (.ix (.ix (.v 6) (.int 0)) (.int 1)) .nil))) (.cons (.ix (.ix (.v 3) (.v 5)) (.int 1)) .nil))))
      .pass)
      (.seq (.setix (.v 3) (.v 5) (.tup (.cons (.ix (.ix (.v 3) (.v 5)) (.int 0)) (.cons (.call "_law_lowest" (.cons (.bin .sub (.ix (.ix (.v 6) (.int 1)) (.int 0)) (.bin .mul (.bin .add (.int 1) (.v 7)) (.ix (.ix (.v 6) (.int 1)) (.int 1)))) (.cons (.ix (.ix (.v 6) (.int 1)) (.int 1)) .nil))) .nil))))
      .pass))
    .pass)))))
    .pass)
  (.seq (.ite (.cmp .eq (.v 1) (.int 5))
    (.seq (.setix (.v 3) (.int 0) (.tup (.cons (.ix (.ix (.v 3) (.int 0)) (.int 0)) (.cons (.tup (.cons (.bin .sub (.neg (.int 1)) (.bin .mod (.v 2) (.bin .pow (.int 10) (.int 20)))) (.cons (.int 1) .nil))) .nil))))
    .pass)
    .pass)
  (.seq (.ret (.v 3))
  .pass))))))⟩
/- _law_refused: 0:_law_corners 1:_law_last -/
def F__law_refused : Fd := ⟨2, 2,
  (.seq (.try_ (.seq (.ex (.call "curve" (.cons (.v 0) (.cons (.v 1) .nil))))
    .pass) "NoCurve" none
    (.seq (.ret (.bl true))
    .pass))
  (.seq (.ret (.bl false))
  .pass))⟩
/- _law_refused_by_any: 0:_law_corners 1:_law_last 2:e -/
def F__law_refused_by_any : Fd := ⟨2, 3,
  (.seq (.try_ (.seq (.ex (.call "curve" (.cons (.v 0) (.cons (.v 1) .nil))))
    .pass) "CurveError" (some 2)
    (.seq (.ite (.or (.ise 2 "NoRatio") (.or (.ise 2 "NoTime") (.or (.ise 2 "NoWay") (.ise 2 "NoHouse"))))
      (.seq (.ret (.bl false))
      .pass)
      .pass)
    (.seq (.ite (.or (.ise 2 "NoText") (.or (.ise 2 "NoName") (.or (.ise 2 "NoEnd") (.ise 2 "NoRow"))))
      (.seq (.ret (.bl false))
      .pass)
      .pass)
    (.seq (.ret (.ise 2 "ValueError"))
    .pass))))
  (.seq (.ret (.bl false))
  .pass))⟩
/- _law_heap_refused: 0:_law_value 1:_law_slope -/
def F__law_heap_refused : Fd := ⟨2, 2,
  (.seq (.try_ (.seq (.ex (.call "heap" (.cons (.v 0) (.cons (.v 1) .nil))))
    .pass) "NoCurve" none
    (.seq (.ret (.bl true))
    .pass))
  (.seq (.ret (.bl false))
  .pass))⟩
/- _law_late_refused: 0:_law_time 1:_law_slope -/
def F__law_late_refused : Fd := ⟨2, 2,
  (.seq (.try_ (.seq (.ex (.call "late" (.cons (.v 0) (.cons (.v 1) .nil))))
    .pass) "NoCurve" none
    (.seq (.ret (.bl true))
    .pass))
  (.seq (.ret (.bl false))
  .pass))⟩
/- law: 0:_law_script 1:_law_low 2:_law_high 3:_law_way 4:_law_cells 5:_law_corners 6:_law_last 7:_law_wrong 8:_law_rows 9:_law_one 10:_law_other 11:_law_side 12:_law_bad -/
def F_law : Fd := ⟨1, 13,
  (.seq (.set 1 (.bin .add (.int 1) (.bin .mod (.call "_law_cell_at" (.cons (.v 0) (.cons (.int 0) .nil))) (.bin .pow (.int 10) (.int 28)))))
  (.seq (.set 2 (.bin .add (.int 1) (.bin .mod (.call "_law_cell_at" (.cons (.v 0) (.cons (.int 1) .nil))) (.bin .pow (.int 10) (.int 28)))))
  (.seq (.set 3 (.bin .mod (.call "_law_cell_at" (.cons (.v 0) (.cons (.int 2) .nil))) (.int 7)))
  (.seq (.set 4 (.call "_law_many_cells" (.cons (.v 0) (.cons (.int 7) (.cons (.call "_law_cell_at" (.cons (.v 0) (.cons (.int 6) .nil))) .nil)))))
  (.seq (.set 5 (.call "_law_corners_by" (.cons (.v 4) (.cons (.bin .mod (.call "_law_cell_at" (.cons (.v 0) (.cons (.int 3) .nil))) (.bin .pow (.int 10) (.int 28))) (.cons (.v 1) (.cons (.v 2) .nil))))))
  (.seq (.set 6 (.call "_law_last_by" (.cons (.call "_law_cell_at" (.cons (.v 0) (.cons (.int 4) .nil))) (.cons (.bin .add (.int 1) (.v 1)) (.cons (.v 5) .nil)))))
  (.seq (.set 7 (.v 6))
  (.seq (.ite (.cmp .eq (.v 3) (.int 6))
    (.seq (.set 7 (.call "_law_lowest" (.cons (.bin .sub (.neg (.int 1)) (.bin .mod (.call "_law_cell_at" (.cons (.v 0) (.cons (.int 5) .nil))) (.bin .pow (.int 10) (.int 30)))) (.cons (.v 1) .nil))))
    .pass)
    .pass)
  (.seq (.set 8 (.call "_law_spoiled" (.cons (.v 5) (.cons (.v 3) (.cons (.call "_law_cell_at" (.cons (.v 0) (.cons (.int 5) .nil))) .nil)))))
  (.seq (.ite (.cmp .ne (.call "_law_refused" (.cons (.bi .list (.cons (.v 8) .nil)) (.cons (.v 7) .nil))) (.cmp .ne (.v 3) (.int 0)))
    (.seq (.ret (.bl false))
    .pass)
    .pass)
  (.seq (.ite (.and (.cmp .ne (.v 3) (.int 0)) (.not (.call "_law_refused_by_any" (.cons (.bi .list (.cons (.v 8) .nil)) (.cons (.v 7) .nil)))))
    (.seq (.ret (.bl false))
    .pass)
    .pass)
  (.seq (.ite (.call "_law_refused" (.cons (.bi .list (.cons (.v 5) .nil)) (.cons (.v 6) .nil)))
    (.seq (.ret (.bl false))
    .pass)
    .pass)
  (.seq (.set 9 (.call "_law_lowest" (.cons (.bin .mod (.call "_law_cell_at" (.cons (.v 0) (.cons (.int 3) .nil))) (.bin .pow (.int 10) (.int 30))) (.cons (.v 2) .nil))))
  (.seq (.set 10 (.call "_law_lowest" (.cons (.bin .mod (.call "_law_cell_at" (.cons (.v 0) (.cons (.int 5) .nil))) (.bin .pow (.int 10) (.int 30))) (.cons (.v 1) .nil))))
  (.seq (.set 11 (.bin .mod (.bin .fdiv (.call "_law_cell_at" (.cons (.v 0) (.cons (.int 4) .nil))) (.int 3)) (.int 4)))
  (.seq (.ite (.cmp .eq (.v 11) (.int 1))
    (.seq (.set 9 (.call "_law_lowest" (.cons (.bin .sub (.neg (.int 1)) (.bin .mod (.call "_law_cell_at" (.cons (.v 0) (.cons (.int 3) .nil))) (.bin .pow (.int 10) (.int 30)))) (.cons (.v 2) .nil))))
    .pass)
    .pass)
  (.seq (.ite (.cmp .eq (.v 11) (.int 2))
    (.seq (.set 10 (.call "_law_lowest" (.cons (.bin .sub (.neg (.int 1)) (.bin .mod (.call "_law_cell_at" (.cons (.v 0) (.cons (.int 5) .nil))) (.bin .pow (.int 10) (.int 30)))) (.cons (.v 1) .nil))))
    .pass)
    .pass)
  (.seq (.set 12 (.or (.cmp .eq (.v 11) (.int 1)) (.cmp .eq (.v 11) (.int 2))))
  (.seq (.ret (.and (.cmp .eq (.call "_law_heap_refused" (.cons (.v 9) (.cons (.v 10) .nil))) (.v 12)) (.cmp .eq (.call "_law_late_refused" (.cons (.v 9) (.cons (.v 10) .nil))) (.v 12))))
  .pass)))))))))))))))))))⟩

def tab0 : List (Str × Fd) := [("is_whole", F_is_whole), ("divisor", F_divisor), ("ratio", F_ratio), ("minus", F_minus), ("over", F_over), ("under", F_under), ("slope_between", F_slope_between), ("slopes_of", F_slopes_of), ("folded", F_folded), ("made", F_made), ("curve", F_curve), ("heap", F_heap), ("late", F_late), ("_law_cell_at", F__law_cell_at), ("_law_lowest", F__law_lowest), ("_law_minus", F__law_minus), ("_law_corners_by", F__law_corners_by), ("_law_last_by", F__law_last_by), ("_law_many_cells", F__law_many_cells), ("_law_spoiled", F__law_spoiled)]
def tab1 : List (Str × Fd) := [("_law_refused", F__law_refused), ("_law_refused_by_any", F__law_refused_by_any), ("_law_heap_refused", F__law_heap_refused), ("_law_late_refused", F__law_late_refused), ("law", F_law)]
def tab : List (Str × Fd) := tab0 ++ tab1
def T : Str → Option Fd := fun x => tab.lookup x
theorem T_is_whole : T "is_whole" = some F_is_whole := by decide +kernel
theorem T_divisor : T "divisor" = some F_divisor := by decide +kernel
theorem T_ratio : T "ratio" = some F_ratio := by decide +kernel
theorem T_minus : T "minus" = some F_minus := by decide +kernel
theorem T_over : T "over" = some F_over := by decide +kernel
theorem T_under : T "under" = some F_under := by decide +kernel
theorem T_slope_between : T "slope_between" = some F_slope_between := by decide +kernel
theorem T_slopes_of : T "slopes_of" = some F_slopes_of := by decide +kernel
theorem T_folded : T "folded" = some F_folded := by decide +kernel
theorem T_made : T "made" = some F_made := by decide +kernel
theorem T_curve : T "curve" = some F_curve := by decide +kernel
theorem T_heap : T "heap" = some F_heap := by decide +kernel
theorem T_late : T "late" = some F_late := by decide +kernel
theorem T__law_cell_at : T "_law_cell_at" = some F__law_cell_at := by decide +kernel
theorem T__law_lowest : T "_law_lowest" = some F__law_lowest := by decide +kernel
theorem T__law_minus : T "_law_minus" = some F__law_minus := by decide +kernel
theorem T__law_corners_by : T "_law_corners_by" = some F__law_corners_by := by decide +kernel
theorem T__law_last_by : T "_law_last_by" = some F__law_last_by := by decide +kernel
theorem T__law_many_cells : T "_law_many_cells" = some F__law_many_cells := by decide +kernel
theorem T__law_spoiled : T "_law_spoiled" = some F__law_spoiled := by decide +kernel
theorem T__law_refused : T "_law_refused" = some F__law_refused := by decide +kernel
theorem T__law_refused_by_any : T "_law_refused_by_any" = some F__law_refused_by_any := by decide +kernel
theorem T__law_heap_refused : T "_law_heap_refused" = some F__law_heap_refused := by decide +kernel
theorem T__law_late_refused : T "_law_late_refused" = some F__law_late_refused := by decide +kernel
theorem T_law : T "law" = some F_law := by decide +kernel

end Q
namespace Q
open PySem MP
/-! ### sizes -/
theorem BIG_ex : ∃ n : Nat, n = 13500 := ⟨_, rfl⟩
noncomputable def BIG : Nat := Classical.choose BIG_ex
theorem BIG_eq : BIG = 13500 := Classical.choose_spec BIG_ex
theorem SZ_ex : ∃ n : Nat, n = 6700 := ⟨_, rfl⟩
noncomputable def SZ : Nat := Classical.choose SZ_ex
theorem SZ_eq : SZ = 6700 := Classical.choose_spec SZ_ex
theorem z1 : SZ ≤ BIG := by rw [SZ_eq, BIG_eq]; decide
theorem z2 : SZ + 1 ≤ BIG := by rw [SZ_eq, BIG_eq]; decide
theorem z3 : SZ + SZ ≤ BIG := by rw [SZ_eq, BIG_eq]; decide
theorem z4 : SZ + SZ + 1 ≤ BIG := by rw [SZ_eq, BIG_eq]; decide
theorem zm : SZ + SZ ≤ 1000000 := by rw [SZ_eq]; decide
theorem log2_lt_of' {n k : Nat} (h : n < 2 ^ k) (h0 : n ≠ 0) : n.log2 < k := (Nat.log2_lt h0).mpr h
theorem divOk_of {i j : Int} (hj : j ≠ 0) (hi : i.natAbs < 2 ^ BIG) : divOk i j := by
  refine ⟨hj, ?_⟩
  unfold Builtin.divisionGoesByPylong
  have hx : (if i == 0 then 0 else i.natAbs.log2 / 30 + 1) ≤ 450 := by
    by_cases h0 : i = 0
    · subst h0
      decide
    · rw [if_neg (by simpa using h0)]
      have := log2_lt_of' hi (by omega)
      rw [BIG_eq] at this
      omega
  simp only [Bool.and_eq_false_iff, decide_eq_false_iff_not, Nat.not_lt]
  by_cases hy : (if j == 0 then 0 else j.natAbs.log2 / 30 + 1) > 300
  · right
    omega
  · left
    omega
theorem mulOk_of {i j : Int} {a b : Nat} (hi : i.natAbs < 2 ^ a) (hj : j.natAbs < 2 ^ b) (h : a + b ≤ 1000000) : mulOk i j := by
  by_cases h0 : i = 0
  · subst h0
    left
    decide
  by_cases h1 : j = 0
  · subst h1
    right
    left
    decide
  right
  right
  have := log2_lt_of' hi (by omega)
  have := log2_lt_of' hj (by omega)
  omega
theorem mulOk_small {i j : Int} (h : j.natAbs < 2 ^ 64) : mulOk i j := by
  right
  left
  omega
theorem mulOk_small' {i j : Int} (h : i.natAbs < 2 ^ 64) : mulOk i j := by
  left
  omega

theorem getL_e {xs : List D} {L : Hd} : getL (L ++ [.lst xs]) L.length = some xs := by
  unfold getL
  rw [List.getElem?_append_right (Nat.le_refl _), Nat.sub_self]
  rfl
theorem seen_s {n : Nat} {xs : List D} {L : Hd} : seen (some n) xs L = (getL L n = some xs) := (rfl)
theorem alloc_e {xs : List D} {L : Hd} : alloc xs L = if xs.length ≤ LIM then .ok (.ref L.length) (L ++ [.lst xs]) else .bad := rfl

/-- a script's number -/
def cell (ns : List Int) (k : Int) : Int := ns.getD k.toNat 0
/-- the script on the heap -/
abbrev SC (ns : List Int) (L : Hd) : Hd := .lst (ns.map D.int) :: L
theorem atI_map (ns : List Int) (k : Int) (h0 : 0 ≤ k) (h : k < ns.length) : L2.atI (ns.map D.int) k = some (.int (cell ns k)) := by
  have hk : k.toNat < ns.length := by omega
  unfold L2.atI
  rw [show L2.ixN (ns.map D.int).length k = some k.toNat from by
    unfold L2.ixN
    rw [if_pos h0, if_pos (by simpa using h)]]
  show (ns.map D.int)[k.toNat]? = _
  rw [List.getElem?_map, List.getElem?_eq_getElem hk]
  unfold cell
  rw [List.getD_eq_getElem?_getD, List.getElem?_eq_getElem hk]
  rfl
def sg (c m : Int) : Int := if c % 2 = 1 then -(c / 2 % m) else c / 2 % m
theorem sg_abs (c m : Int) (h : 0 < m) : (sg c m).natAbs < m.natAbs := by
  have h1 := Int.emod_nonneg (c / 2) (b := m) (by omega)
  have h2 := Int.emod_lt_of_pos (c / 2) h
  unfold sg
  split <;> omega
theorem fdiv2 (c : Int) : c.fdiv 2 = c / 2 := Int.fdiv_eq_ediv_of_nonneg _ (by omega)
theorem divOk2 (c : Int) : divOk c 2 := ⟨by decide, by
  unfold Builtin.divisionGoesByPylong
  simp only [Bool.and_eq_false_iff, decide_eq_false_iff_not, Nat.not_lt]
  left
  decide⟩
theorem fmp (a : Int) {b : Int} (h : 0 < b) : a.fmod b = a % b := Int.fmod_eq_emod_of_nonneg _ (by omega)
theorem p10_4 {L : Hd} : binop .pow (.int 10) (.int 4) L = .ok (.int 10000) L := rfl
theorem p10_6 {L : Hd} : binop .pow (.int 10) (.int 6) L = .ok (.int 1000000) L := rfl
theorem p10_9 {L : Hd} : binop .pow (.int 10) (.int 9) L = .ok (.int 1000000000) L := rfl
theorem p10_12 {L : Hd} : binop .pow (.int 10) (.int 12) L = .ok (.int 1000000000000) L := rfl
theorem p10_18 {L : Hd} : binop .pow (.int 10) (.int 18) L = .ok (.int 1000000000000000000) L := rfl
theorem p10_20 {L : Hd} : binop .pow (.int 10) (.int 20) L = .ok (.int 100000000000000000000) L := rfl
theorem p10_28 {L : Hd} : binop .pow (.int 10) (.int 28) L = .ok (.int 10000000000000000000000000000) L := rfl
theorem p10_30 {L : Hd} : binop .pow (.int 10) (.int 30) L = .ok (.int 1000000000000000000000000000000) L := rfl
theorem p10_40 {L : Hd} : binop .pow (.int 10) (.int 40) L = .ok (.int 10000000000000000000000000000000000000000) L := rfl
theorem p10_44 {L : Hd} : binop .pow (.int 10) (.int 44) L = .ok (.int 100000000000000000000000000000000000000000000) L := rfl
theorem p10_50 {L : Hd} : binop .pow (.int 10) (.int 50) L = .ok (.int 100000000000000000000000000000000000000000000000000) L := rfl
theorem p10_57 {L : Hd} : binop .pow (.int 10) (.int 57) L = .ok (.int 1000000000000000000000000000000000000000000000000000000000) L := rfl
theorem p10_58 {L : Hd} : binop .pow (.int 10) (.int 58) L = .ok (.int 10000000000000000000000000000000000000000000000000000000000) L := rfl
theorem p10_59 {L : Hd} : binop .pow (.int 10) (.int 59) L = .ok (.int 100000000000000000000000000000000000000000000000000000000000) L := rfl
theorem p10_60 {L : Hd} : binop .pow (.int 10) (.int 60) L = .ok (.int 1000000000000000000000000000000000000000000000000000000000000) L := rfl
theorem abs_nat (a : Int) : (if a < 0 then -a else a) = ((a.natAbs : Nat) : Int) := by
  split <;> omega
end Q

namespace Q
open PySem MP
/-! ### the divisor -/
theorem gcd_loop {Φ : Str → List D → Hd → R D} {L : Hd} : ∀ (n : Nat) (a b : Nat) (r : Option D), b ≤ n → ∃ r', whW Φ C_divisor_1 B_divisor_1 [some (.int a), some (.int b), r] L = .nx [some (.int (Nat.gcd a b)), some (.int 0), r'] L
  | n, a, 0, r, _ => by
    rw [whW_step]
    simp only [UC_divisor_1, UB_divisor_1, runF_mk, ofO_nx, ofO_rt, ofO_ex, x_non, x_bl, x_int, x_str, x_v, x_k, x_f, x_nil, x_absent, x_cons, x_tup, x_lst, x_bin, x_neg, x_not, x_and, x_or, x_cmp, x_isn, x_notn, x_ix, x_sl, x_call, x_callv, x_bi, x_isi, x_ise, x_me, x_lc, x_rng, x_rev, s_pass, s_seq, s_set, s_setix, s_aug, s_ex, s_ite, s_wh, s_for, s_ret, s_retn, s_brk, s_cnt, s_raise, s_tryN, s_tryA, consOp_t, tupOp_t, lstOp_t, negOp_i, onTup_t, callOn_t, getV_int, getV_bl, getV_str, getV_tup, getV_ref, getV_fn, getV_non, onFn_f, onExc_f, onInt_i, augNx_s, augop_a, augop_s, okOnly_ok, b_add, b_sub, b_mul, b_fdiv, b_mod, b_addt, c_lt, c_le, c_gt, c_ge, c_eq, c_ne, onL_s, onLo_s, onV_s, atV_s, lr_len, lr_list, lr_tuple, ix_t', ix_r', me_app, me_pop, me_rev, sl_r', sl_t', recv_app, recv_pop, recv_popAt, recv_clear, recv_rev, recv_ins, getL_at0, getL_at1, getL_at2, getL_at3, setL_at0, setL_at1, setL_at2, getL_0, getL_1, getL_2, getL_3, getL_4, setL_1, setL_2, setL_3, atI_0, atI_1, atI_2, atI_m1, List.append_assoc, List.length_append, Nat.add_one_ne_zero, bi_abs, bi_lent, bi_max, bi_min, bi_int, bi_intb, bi_listt, bi_tupt, ty_non, ty_bl, ty_int, ty_str, ty_tup, tb1, tb2, tb3, tb4, tb5, tn1, tn2, tn3, tn4, tn5, tn6, isNon_non, isNon_tup, isNon_int, isNon_ref, items_t, items_r, Option.map_some, fw_nil_n, fw_cons_n, fw_nil_s, fw_cons_s, takeS_0, takeS_s, dropS_0, dropS_s, forOn_s, lcOn_s, R.bind_ok, R.bind_exc, R.bind_bad, R.on_ok, R.on_exc, R.on_bad, onBl_bl, ifB_bl, O.then_nx, O.turn_nx, O.turn_ct, O.turn_bk, O.turn_rt, O.turn_ex, O.then_rt, O.then_ex, O.then_bk, O.then_ct, O.then_bad, onPart_int, onPart_abs, List.getElem?_cons_zero, List.getElem?_cons_succ, List.set_cons_zero, List.set_cons_succ, List.length_cons, List.length_nil, List.map_cons, List.map_nil, List.cons_append, List.nil_append, List.replicate_succ, List.replicate_zero, Nat.reduceAdd, Nat.reduceSub, Nat.reduceEqDiff, Nat.reduceLT, Nat.reduceLeDiff, if_true, if_false, ite_true, ite_false, eq_self, eqop_int, neop_int, eqop_bl, neop_bl, Bool.not_true, Bool.not_false, Bool.true_eq_false, Bool.false_eq_true, Bool.or_true, Bool.or_false, Bool.true_or, Bool.false_or, Bool.and_true, Bool.and_false, reduceIte, reduceCtorEq, decide_true, decide_false, decide_eq_true_eq, Bool.not_eq_true', decide_eq_false_iff_not, Nat.zero_le, lim1, lim2, lim3, lim4, lim5, Int.reduceLE, Int.reduceLT, Int.reduceEq, Int.reduceNe, ne_eq, not_false_eq_true, not_true_eq_false, Int.reduceNeg, and_true, true_and, and_false, false_and, or_true, true_or, or_false, false_or]
    exact ⟨r, by simp⟩
  | 0, a, b + 1, r, h => absurd h (by omega)
  | n + 1, a, b + 1, r, h => by
    have hb : ((b + 1 : Nat) : Int) ≠ 0 := by omega
    have hlt : a % (b + 1) < b + 1 := Nat.mod_lt _ (by omega)
    obtain ⟨r', ih⟩ := gcd_loop n (b + 1) (a % (b + 1)) (some (.int ((a % (b + 1) : Nat) : Int))) (by omega)
    refine ⟨r', ?_⟩
    rw [whW_step]
    have hm : (a : Int).fmod ((b + 1 : Nat) : Int) = ((a % (b + 1) : Nat) : Int) := by
      rw [Int.fmod_eq_emod_of_nonneg _ (by omega)]
      rfl
    have hd : decide ((0 : Int) < ((b + 1 : Nat) : Int)) = true := decide_eq_true (by omega)
    simp only [UC_divisor_1, UB_divisor_1, runF_mk, ofO_nx, ofO_rt, ofO_ex, x_non, x_bl, x_int, x_str, x_v, x_k, x_f, x_nil, x_absent, x_cons, x_tup, x_lst, x_bin, x_neg, x_not, x_and, x_or, x_cmp, x_isn, x_notn, x_ix, x_sl, x_call, x_callv, x_bi, x_isi, x_ise, x_me, x_lc, x_rng, x_rev, s_pass, s_seq, s_set, s_setix, s_aug, s_ex, s_ite, s_wh, s_for, s_ret, s_retn, s_brk, s_cnt, s_raise, s_tryN, s_tryA, consOp_t, tupOp_t, lstOp_t, negOp_i, onTup_t, callOn_t, getV_int, getV_bl, getV_str, getV_tup, getV_ref, getV_fn, getV_non, onFn_f, onExc_f, onInt_i, augNx_s, augop_a, augop_s, okOnly_ok, b_add, b_sub, b_mul, b_fdiv, b_mod, b_addt, c_lt, c_le, c_gt, c_ge, c_eq, c_ne, onL_s, onLo_s, onV_s, atV_s, lr_len, lr_list, lr_tuple, ix_t', ix_r', me_app, me_pop, me_rev, sl_r', sl_t', recv_app, recv_pop, recv_popAt, recv_clear, recv_rev, recv_ins, getL_at0, getL_at1, getL_at2, getL_at3, setL_at0, setL_at1, setL_at2, getL_0, getL_1, getL_2, getL_3, getL_4, setL_1, setL_2, setL_3, atI_0, atI_1, atI_2, atI_m1, List.append_assoc, List.length_append, Nat.add_one_ne_zero, bi_abs, bi_lent, bi_max, bi_min, bi_int, bi_intb, bi_listt, bi_tupt, ty_non, ty_bl, ty_int, ty_str, ty_tup, tb1, tb2, tb3, tb4, tb5, tn1, tn2, tn3, tn4, tn5, tn6, isNon_non, isNon_tup, isNon_int, isNon_ref, items_t, items_r, Option.map_some, fw_nil_n, fw_cons_n, fw_nil_s, fw_cons_s, takeS_0, takeS_s, dropS_0, dropS_s, forOn_s, lcOn_s, R.bind_ok, R.bind_exc, R.bind_bad, R.on_ok, R.on_exc, R.on_bad, onBl_bl, ifB_bl, O.then_nx, O.turn_nx, O.turn_ct, O.turn_bk, O.turn_rt, O.turn_ex, O.then_rt, O.then_ex, O.then_bk, O.then_ct, O.then_bad, onPart_int, onPart_abs, List.getElem?_cons_zero, List.getElem?_cons_succ, List.set_cons_zero, List.set_cons_succ, List.length_cons, List.length_nil, List.map_cons, List.map_nil, List.cons_append, List.nil_append, List.replicate_succ, List.replicate_zero, Nat.reduceAdd, Nat.reduceSub, Nat.reduceEqDiff, Nat.reduceLT, Nat.reduceLeDiff, if_true, if_false, ite_true, ite_false, eq_self, eqop_int, neop_int, eqop_bl, neop_bl, Bool.not_true, Bool.not_false, Bool.true_eq_false, Bool.false_eq_true, Bool.or_true, Bool.or_false, Bool.true_or, Bool.false_or, Bool.and_true, Bool.and_false, reduceIte, reduceCtorEq, decide_true, decide_false, decide_eq_true_eq, Bool.not_eq_true', decide_eq_false_iff_not, Nat.zero_le, lim1, lim2, lim3, lim4, lim5, Int.reduceLE, Int.reduceLT, Int.reduceEq, Int.reduceNe, ne_eq, not_false_eq_true, not_true_eq_false, Int.reduceNeg, and_true, true_and, and_false, false_and, or_true, true_or, or_false, false_or, hd, hb, ne_eq, not_false_eq_true, hm, O.turn_nx]
    rw [ih, Nat.gcd_comm a, Nat.gcd_rec (b + 1) a, Nat.gcd_comm]
theorem abs_eq (a : Int) : (if a < 0 then -a else a) = ((a.natAbs : Nat) : Int) := by
  split <;> omega
theorem divisor_run (Φ : Str → List D → Hd → R D) (a b : Int) (L : Hd) : runF Φ F_divisor [.int a, .int b] L = .ok (.int (Int.gcd a b)) L := by
  obtain ⟨r, h⟩ := gcd_loop (Φ := Φ) (L := L) b.natAbs a.natAbs b.natAbs none (Nat.le_refl _)
  unfold F_divisor
  simp only [runF_mk, ofO_nx, ofO_rt, ofO_ex, x_non, x_bl, x_int, x_str, x_v, x_k, x_f, x_nil, x_absent, x_cons, x_tup, x_lst, x_bin, x_neg, x_not, x_and, x_or, x_cmp, x_isn, x_notn, x_ix, x_sl, x_call, x_callv, x_bi, x_isi, x_ise, x_me, x_lc, x_rng, x_rev, s_pass, s_seq, s_set, s_setix, s_aug, s_ex, s_ite, s_wh, s_for, s_ret, s_retn, s_brk, s_cnt, s_raise, s_tryN, s_tryA, consOp_t, tupOp_t, lstOp_t, negOp_i, onTup_t, callOn_t, getV_int, getV_bl, getV_str, getV_tup, getV_ref, getV_fn, getV_non, onFn_f, onExc_f, onInt_i, augNx_s, augop_a, augop_s, okOnly_ok, b_add, b_sub, b_mul, b_fdiv, b_mod, b_addt, c_lt, c_le, c_gt, c_ge, c_eq, c_ne, onL_s, onLo_s, onV_s, atV_s, lr_len, lr_list, lr_tuple, ix_t', ix_r', me_app, me_pop, me_rev, sl_r', sl_t', recv_app, recv_pop, recv_popAt, recv_clear, recv_rev, recv_ins, getL_at0, getL_at1, getL_at2, getL_at3, setL_at0, setL_at1, setL_at2, getL_0, getL_1, getL_2, getL_3, getL_4, setL_1, setL_2, setL_3, atI_0, atI_1, atI_2, atI_m1, List.append_assoc, List.length_append, Nat.add_one_ne_zero, bi_abs, bi_lent, bi_max, bi_min, bi_int, bi_intb, bi_listt, bi_tupt, ty_non, ty_bl, ty_int, ty_str, ty_tup, tb1, tb2, tb3, tb4, tb5, tn1, tn2, tn3, tn4, tn5, tn6, isNon_non, isNon_tup, isNon_int, isNon_ref, items_t, items_r, Option.map_some, fw_nil_n, fw_cons_n, fw_nil_s, fw_cons_s, takeS_0, takeS_s, dropS_0, dropS_s, forOn_s, lcOn_s, R.bind_ok, R.bind_exc, R.bind_bad, R.on_ok, R.on_exc, R.on_bad, onBl_bl, ifB_bl, O.then_nx, O.turn_nx, O.turn_ct, O.turn_bk, O.turn_rt, O.turn_ex, O.then_rt, O.then_ex, O.then_bk, O.then_ct, O.then_bad, onPart_int, onPart_abs, List.getElem?_cons_zero, List.getElem?_cons_succ, List.set_cons_zero, List.set_cons_succ, List.length_cons, List.length_nil, List.map_cons, List.map_nil, List.cons_append, List.nil_append, List.replicate_succ, List.replicate_zero, Nat.reduceAdd, Nat.reduceSub, Nat.reduceEqDiff, Nat.reduceLT, Nat.reduceLeDiff, if_true, if_false, ite_true, ite_false, eq_self, eqop_int, neop_int, eqop_bl, neop_bl, Bool.not_true, Bool.not_false, Bool.true_eq_false, Bool.false_eq_true, Bool.or_true, Bool.or_false, Bool.true_or, Bool.false_or, Bool.and_true, Bool.and_false, reduceIte, reduceCtorEq, decide_true, decide_false, decide_eq_true_eq, Bool.not_eq_true', decide_eq_false_iff_not, Nat.zero_le, lim1, lim2, lim3, lim4, lim5, Int.reduceLE, Int.reduceLT, Int.reduceEq, Int.reduceNe, ne_eq, not_false_eq_true, not_true_eq_false, Int.reduceNeg, and_true, true_and, and_false, false_and, or_true, true_or, or_false, false_or, abs_eq]
  rw [h]
  rfl
theorem r_divisor (n : Nat) (a b : Int) (L : Hd) : runT T (n + 1) "divisor" [.int a, .int b] L = .ok (.int (Int.gcd a b)) L := by
  rw [runT_succ T_divisor]
  exact divisor_run _ a b L
end Q

namespace Q
open PySem MP
theorem is_whole_int (Φ : Str → List D → Hd → R D) (a : Int) (L : Hd) : runF Φ F_is_whole [.int a] L = .ok (.bl true) L := by
  unfold F_is_whole
  simp only [runF_mk, ofO_nx, ofO_rt, ofO_ex, x_non, x_bl, x_int, x_str, x_v, x_k, x_f, x_nil, x_absent, x_cons, x_tup, x_lst, x_bin, x_neg, x_not, x_and, x_or, x_cmp, x_isn, x_notn, x_ix, x_sl, x_call, x_callv, x_bi, x_isi, x_ise, x_me, x_lc, x_rng, x_rev, s_pass, s_seq, s_set, s_setix, s_aug, s_ex, s_ite, s_wh, s_for, s_ret, s_retn, s_brk, s_cnt, s_raise, s_tryN, s_tryA, consOp_t, tupOp_t, lstOp_t, negOp_i, onTup_t, callOn_t, getV_int, getV_bl, getV_str, getV_tup, getV_ref, getV_fn, getV_non, onFn_f, onExc_f, onInt_i, augNx_s, augop_a, augop_s, okOnly_ok, b_add, b_sub, b_mul, b_fdiv, b_mod, b_addt, c_lt, c_le, c_gt, c_ge, c_eq, c_ne, onL_s, onLo_s, onV_s, atV_s, lr_len, lr_list, lr_tuple, ix_t', ix_r', me_app, me_pop, me_rev, sl_r', sl_t', recv_app, recv_pop, recv_popAt, recv_clear, recv_rev, recv_ins, getL_at0, getL_at1, getL_at2, getL_at3, setL_at0, setL_at1, setL_at2, getL_0, getL_1, getL_2, getL_3, getL_4, setL_1, setL_2, setL_3, atI_0, atI_1, atI_2, atI_m1, List.append_assoc, List.length_append, Nat.add_one_ne_zero, bi_abs, bi_lent, bi_max, bi_min, bi_int, bi_intb, bi_listt, bi_tupt, ty_non, ty_bl, ty_int, ty_str, ty_tup, tb1, tb2, tb3, tb4, tb5, tn1, tn2, tn3, tn4, tn5, tn6, isNon_non, isNon_tup, isNon_int, isNon_ref, items_t, items_r, Option.map_some, fw_nil_n, fw_cons_n, fw_nil_s, fw_cons_s, takeS_0, takeS_s, dropS_0, dropS_s, forOn_s, lcOn_s, R.bind_ok, R.bind_exc, R.bind_bad, R.on_ok, R.on_exc, R.on_bad, onBl_bl, ifB_bl, O.then_nx, O.turn_nx, O.turn_ct, O.turn_bk, O.turn_rt, O.turn_ex, O.then_rt, O.then_ex, O.then_bk, O.then_ct, O.then_bad, onPart_int, onPart_abs, List.getElem?_cons_zero, List.getElem?_cons_succ, List.set_cons_zero, List.set_cons_succ, List.length_cons, List.length_nil, List.map_cons, List.map_nil, List.cons_append, List.nil_append, List.replicate_succ, List.replicate_zero, Nat.reduceAdd, Nat.reduceSub, Nat.reduceEqDiff, Nat.reduceLT, Nat.reduceLeDiff, if_true, if_false, ite_true, ite_false, eq_self, eqop_int, neop_int, eqop_bl, neop_bl, Bool.not_true, Bool.not_false, Bool.true_eq_false, Bool.false_eq_true, Bool.or_true, Bool.or_false, Bool.true_or, Bool.false_or, Bool.and_true, Bool.and_false, reduceIte, reduceCtorEq, decide_true, decide_false, decide_eq_true_eq, Bool.not_eq_true', decide_eq_false_iff_not, Nat.zero_le, lim1, lim2, lim3, lim4, lim5, Int.reduceLE, Int.reduceLT, Int.reduceEq, Int.reduceNe, ne_eq, not_false_eq_true, not_true_eq_false, Int.reduceNeg, and_true, true_and, and_false, false_and, or_true, true_or, or_false, false_or]
theorem r_is_whole (n : Nat) (a : Int) (L : Hd) : runT T (n + 1) "is_whole" [.int a] L = .ok (.bl true) L := by
  rw [runT_succ T_is_whole]
  exact is_whole_int _ a L
end Q

namespace Q
open PySem MP
/-- d stands for the data p, k deep -/
structure IsP (L : Hd) (k : Nat) (d : D) (p : PyData) : Prop where
  rd : ∀ n, k ≤ n → pyOf L n d = some p
  lay : p.canLay0 = true
  dep : p.depth ≤ k
theorem IsP.mono {L : Hd} {k k' : Nat} {d : D} {p : PyData} (h : IsP L k d p) (hk : k ≤ k') : IsP L k' d p := ⟨fun n hn => h.rd n (by omega), h.lay, by have := h.dep; omega⟩
theorem eqop_p {L : Hd} {x y : D} {p q : PyData} {k k' : Nat} (hx : IsP L k x p) (hy : IsP L k' y q) (hk : k ≤ 12) (hk' : k' ≤ 12) (f : Bool → Bool) : eqop x y L f = .ok (.bl (f (PyData.eqv p q))) L := by
  have e1 : pyOf L DEEP x = some p := hx.rd _ hk
  have e2 : pyOf L DEEP y = some q := hy.rd _ hk'
  have s1 : SeqAt.shaped p = true := by
    unfold SeqAt.shaped
    rw [hx.lay, decide_eq_true (show p.depth ≤ 64 by have := hx.dep; omega)]
    rfl
  have s2 : SeqAt.shaped q = true := by
    unfold SeqAt.shaped
    rw [hy.lay, decide_eq_true (show q.depth ≤ 64 by have := hy.dep; omega)]
    rfl
  unfold eqop
  rw [e1, e2]
  exact if_pos ⟨s1, s2⟩
theorem IsP.int {L : Hd} (i : Int) : IsP L 1 (.int i) (.int i) := ⟨fun n hn => by
  obtain ⟨m, rfl⟩ : ∃ m, n = m + 1 := ⟨n - 1, by omega⟩
  rfl, rfl, by simp [PyData.depth]⟩
theorem IsP.bl {L : Hd} (i : Bool) : IsP L 1 (.bl i) (.bool i) := ⟨fun n hn => by
  obtain ⟨m, rfl⟩ : ∃ m, n = m + 1 := ⟨n - 1, by omega⟩
  rfl, rfl, by simp [PyData.depth]⟩
theorem IsP.non {L : Hd} : IsP L 1 .non .none := ⟨fun n hn => by
  obtain ⟨m, rfl⟩ : ∃ m, n = m + 1 := ⟨n - 1, by omega⟩
  rfl, rfl, by simp [PyData.depth]⟩
/-- a row of data -/
inductive IsPs (L : Hd) (k : Nat) : List D → List PyData → Prop where
  | nil : IsPs L k [] []
  | cons {d p ds ps} : IsP L k d p → IsPs L k ds ps → IsPs L k (d :: ds) (p :: ps)
theorem IsPs.rd {L : Hd} {k : Nat} {ds : List D} {ps : List PyData} (h : IsPs L k ds ps) : (∀ n, k ≤ n → pyAll (pyOf L n) ds = some ps) ∧ PyData.canLayAll0 ps = true ∧ PyData.depthAll ps ≤ k := by
  induction h with
  | nil => exact ⟨fun _ _ => rfl, rfl, by simp [PyData.depthAll]⟩
  | cons h1 h2 ih =>
    obtain ⟨a, b, c⟩ := ih
    refine ⟨fun n hn => ?_, ?_, ?_⟩
    · unfold pyAll
      rw [h1.rd n hn, a n hn]
    · unfold PyData.canLayAll0
      rw [h1.lay, b]
      rfl
    · unfold PyData.depthAll
      have := h1.dep
      omega
theorem IsPs.map {L : Hd} {k : Nat} {α : Type} (f : α → D) (g : α → PyData) (h : ∀ a, IsP L k (f a) (g a)) : ∀ xs : List α, IsPs L k (xs.map f) (xs.map g)
  | [] => .nil
  | x :: xs => .cons (h x) (IsPs.map f g h xs)
theorem IsP.tup {L : Hd} {k : Nat} {ds : List D} {ps : List PyData} (h : IsPs L k ds ps) : IsP L (k + 1) (.tup ds) (.tuple ps) := by
  obtain ⟨a, b, c⟩ := h.rd
  refine ⟨fun n hn => ?_, ?_, ?_⟩
  · obtain ⟨m, rfl⟩ : ∃ m, n = m + 1 := ⟨n - 1, by omega⟩
    unfold pyOf
    rw [a m (by omega)]
    rfl
  · unfold PyData.canLay0
    exact b
  · unfold PyData.depth
    omega
theorem IsP.ref {L : Hd} {k r : Nat} {xs : List D} {ps : List PyData} (hx : getL L r = some xs) (h : IsPs L k xs ps) : IsP L (k + 1) (.ref r) (.list ps) := by
  obtain ⟨a, b, c⟩ := h.rd
  refine ⟨fun n hn => ?_, ?_, ?_⟩
  · obtain ⟨m, rfl⟩ : ∃ m, n = m + 1 := ⟨n - 1, by omega⟩
    unfold pyOf
    rw [hx]
    show (pyAll (pyOf L m) xs).map PyData.list = _
    rw [a m (by omega)]
    rfl
  · unfold PyData.canLay0
    exact b
  · unfold PyData.depth
    omega
theorem eqv_int (i j : Int) : PyData.eqv (.int i) (.int j) = decide (i = j) := by
  unfold PyData.eqv
  exact Bool.beq_eq_decide_eq i j
theorem eqv_tup (xs ys : List PyData) : PyData.eqv (.tuple xs) (.tuple ys) = PyData.eqvAll xs ys := by
  unfold PyData.eqv
  rfl
theorem eqv_list (xs ys : List PyData) : PyData.eqv (.list xs) (.list ys) = PyData.eqvAll xs ys := by
  unfold PyData.eqv
  rfl
theorem eqvAll_nil : PyData.eqvAll [] [] = true := by unfold PyData.eqvAll; rfl
theorem eqvAll_cons (x y : PyData) (xs ys : List PyData) : PyData.eqvAll (x :: xs) (y :: ys) = (PyData.eqv x y && PyData.eqvAll xs ys) := by rw [PyData.eqvAll]
theorem eqvAll_nc (y : PyData) (ys : List PyData) : PyData.eqvAll [] (y :: ys) = false := by rw [PyData.eqvAll]
theorem eqvAll_cn (y : PyData) (ys : List PyData) : PyData.eqvAll (y :: ys) [] = false := by rw [PyData.eqvAll]
/-- rows alike, item by item -/
theorem eqvAll_map {α : Type} [DecidableEq α] (g : α → PyData) (h : ∀ a b, PyData.eqv (g a) (g b) = decide (a = b)) : ∀ xs ys : List α, PyData.eqvAll (xs.map g) (ys.map g) = decide (xs = ys)
  | [], [] => by rw [List.map_nil, eqvAll_nil]; rfl
  | [], y :: ys => by rw [List.map_nil, List.map_cons, eqvAll_nc]; simp
  | x :: xs, [] => by rw [List.map_nil, List.map_cons, eqvAll_cn]; simp
  | x :: xs, y :: ys => by
    rw [List.map_cons, List.map_cons, eqvAll_cons, h, eqvAll_map g h xs ys]
    by_cases h1 : x = y <;> by_cases h2 : xs = ys <;> simp [h1, h2]
end Q

namespace Q
open PySem MP
/-- a ratio as the program has it -/
def dR (q : Rat) : D := .tup [.int q.num, .int (q.den : Int)]
def pR (q : Rat) : PyData := .tuple [.int q.num, .int (q.den : Int)]
theorem dR_P {L : Hd} (q : Rat) : IsP L 2 (dR q) (pR q) := IsP.tup (.cons (IsP.int _) (.cons (IsP.int _) .nil))
theorem eqv_R (p q : Rat) : PyData.eqv (pR p) (pR q) = decide (p = q) := by
  unfold pR
  rw [eqv_tup, eqvAll_cons, eqvAll_cons, eqvAll_nil, eqv_int, eqv_int]
  have : p = q ↔ p.num = q.num ∧ (p.den : Int) = q.den := ⟨fun h => by subst h; exact ⟨rfl, rfl⟩, fun ⟨a, b⟩ => Rat.ext a (by omega)⟩
  by_cases h1 : p.num = q.num <;> by_cases h2 : (p.den : Int) = q.den <;> simp [h1, h2, this]
theorem eq_R {L : Hd} (p q : Rat) : eqop (dR p) (dR q) L id = .ok (.bl (decide (p = q))) L := by
  rw [eqop_p (dR_P p) (dR_P q) (by decide) (by decide), eqv_R]
  rfl
theorem ne_R {L : Hd} (p q : Rat) : eqop (dR p) (dR q) L not = .ok (.bl (!decide (p = q))) L := by
  rw [eqop_p (dR_P p) (dR_P q) (by decide) (by decide), eqv_R]
theorem getV_R {L : Hd} {q : Rat} : getV (some (some (dR q))) L = .ok (dR q) L := rfl
theorem ix_R0 {L : Hd} {q : Rat} : ixop (dR q) (.int 0) L = .ok (.int q.num) L := rfl
theorem ix_R1 {L : Hd} {q : Rat} : ixop (dR q) (.int 1) L = .ok (.int (q.den : Int)) L := rfl
theorem ty_R {L : Hd} {q : Rat} {t : Ty} : tyop (dR q) t L = .ok (.bl (t == .tuple)) L := rfl
theorem len_R {L : Hd} {q : Rat} : biop .len [dR q] L = .ok (.int 2) L := rfl
theorem isNon_R {q : Rat} : isNon (dR q) = false := rfl
theorem tupOp_R {L : Hd} {q : Rat} : tupOp (dR q) L = .ok (dR q) L := by
  show (if 2 ≤ LIM then R.ok (dR q) L else .bad) = _
  rw [if_pos (by decide)]
theorem callOn_R {Φ : Str → List D → Hd → R D} {f : Str} {L : Hd} {q : Rat} : callOn Φ f (dR q) L = Φ f [.int q.num, .int (q.den : Int)] L := rfl
theorem onTup_R {q : Rat} {f : List D → R D} : onTup (dR q) f = f [.int q.num, .int (q.den : Int)] := rfl
theorem consOp_R {x : D} {L : Hd} {q : Rat} : consOp x (dR q) L = .ok (.tup [x, .int q.num, .int (q.den : Int)]) L := rfl
theorem R0n : (0 : Rat).num = 0 := rfl
theorem R0d : (((0 : Rat).den : Nat) : Int) = 1 := rfl
theorem R1n : (1 : Rat).num = 1 := rfl
theorem R1d : (((1 : Rat).den : Nat) : Int) = 1 := rfl
theorem items_R {L : Hd} {q : Rat} : items (dR q) L = some (none, [.int q.num, .int (q.den : Int)]) := rfl
theorem R_0 : D.tup [.int 0, .int 1] = dR 0 := rfl
theorem R_1 : D.tup [.int 1, .int 1] = dR 1 := rfl
theorem R_eta {q : Rat} : D.tup [.int q.num, .int (q.den : Int)] = dR q := rfl
theorem R_neg {q : Rat} : D.tup [.int (-q.num), .int (q.den : Int)] = dR (-q) := rfl
theorem R_den {q : Rat} : (q.den : Int) ≠ 0 := by have := q.den_pos; omega
theorem R_den' {q : Rat} : ((q.den : Int) = 0) = False := by have := q.den_pos; simp only [eq_iff_iff, iff_false]; omega
theorem R_den1 {q : Rat} : ((q.den : Int) < 1) = False := by have := q.den_pos; simp only [eq_iff_iff, iff_false]; omega
theorem R_den0 {q : Rat} : ((q.den : Int) < 0) = False := by have := q.den_pos; simp only [eq_iff_iff, iff_false]; omega

/-- how large a ratio's figures are -/
def Rb (q : Rat) (k : Nat) : Prop := q.num.natAbs < 2 ^ k ∧ q.den < 2 ^ k
/-- small enough for one step more -/
def Sz (q : Rat) : Prop := Rb q SZ
theorem Rb.mono {q : Rat} {k k' : Nat} (h : Rb q k) (hk : k ≤ k') : Rb q k' := ⟨Nat.lt_of_lt_of_le h.1 (Nat.pow_le_pow_right (by decide) hk), Nat.lt_of_lt_of_le h.2 (Nat.pow_le_pow_right (by decide) hk)⟩
theorem Rb.sz {q : Rat} {k : Nat} (h : Rb q k) (hk : k ≤ 6700) : Sz q := h.mono (by rw [SZ_eq]; exact hk)
theorem Rb.div {t b : Int} {k : Nat} (ht : t.natAbs < 2 ^ k) (hb : b.natAbs < 2 ^ k) (h0 : b ≠ 0) : Rb (Rat.divInt t b) k := by
  constructor
  · rw [Rat.num_divInt, Int.natAbs_ediv_of_dvd]
    · refine Nat.lt_of_le_of_lt (Nat.div_le_self _ _) ?_
      rw [Int.natAbs_mul, Int.natAbs_sign_of_ne_zero h0, Nat.one_mul]
      exact ht
    · exact Int.dvd_mul_of_dvd_right (Int.gcd_dvd_right ..)
  · rw [Rat.den_divInt, if_neg h0]
    exact Nat.lt_of_le_of_lt (Nat.div_le_self _ _) hb
theorem mul_lt {a b : Int} {j k : Nat} (ha : a.natAbs < 2 ^ j) (hb : b.natAbs < 2 ^ k) : (a * b).natAbs < 2 ^ (j + k) := by
  rw [Int.natAbs_mul, Nat.pow_add]
  exact Nat.mul_lt_mul'' ha hb
theorem add_lt {a b : Int} {k : Nat} (ha : a.natAbs < 2 ^ k) (hb : b.natAbs < 2 ^ k) : (a + b).natAbs < 2 ^ (k + 1) := by
  have := Int.natAbs_add_le a b
  have e : 2 ^ (k + 1) = 2 ^ k + 2 ^ k := by omega
  omega
theorem sub_lt {a b : Int} {k : Nat} (ha : a.natAbs < 2 ^ k) (hb : b.natAbs < 2 ^ k) : (a - b).natAbs < 2 ^ (k + 1) := by
  have := Int.natAbs_sub_le a b
  have e : 2 ^ (k + 1) = 2 ^ k + 2 ^ k := by omega
  omega
theorem den_lt {q : Rat} {k : Nat} (h : Rb q k) : ((q.den : Int)).natAbs < 2 ^ k := by
  rw [Int.natAbs_natCast]
  exact h.2
theorem up_lt {a : Int} {k k' : Nat} (h : a.natAbs < 2 ^ k) (hk : k ≤ k') : a.natAbs < 2 ^ k' := Nat.lt_of_lt_of_le h (Nat.pow_le_pow_right (by decide) hk)
theorem add_R (p q : Rat) : p + q = Rat.divInt (p.num * q.den + q.num * p.den) (p.den * q.den) := by
  conv => lhs; rw [← Rat.num_divInt_den p, ← Rat.num_divInt_den q]
  rw [Rat.divInt_add_divInt _ _ R_den R_den]
theorem sub_R (p q : Rat) : p - q = Rat.divInt (p.num * q.den - q.num * p.den) (p.den * q.den) := by
  conv => lhs; rw [← Rat.num_divInt_den p, ← Rat.num_divInt_den q]
  rw [Rat.divInt_sub_divInt _ _ R_den R_den]
theorem mul_R (p q : Rat) : p * q = Rat.divInt (p.num * q.num) (p.den * q.den) := by
  conv => lhs; rw [← Rat.num_divInt_den p, ← Rat.num_divInt_den q]
  rw [Rat.divInt_mul_divInt]
theorem div_R (p q : Rat) : p / q = Rat.divInt (p.num * q.den) (p.den * q.num) := by
  rw [Rat.div_def, Rat.inv_def]
  conv => lhs; rw [← Rat.num_divInt_den p]
  rw [Rat.divInt_mul_divInt]
theorem Rb.add {p q : Rat} {j k : Nat} (hp : Rb p j) (hq : Rb q k) : Rb (p + q) (j + k + 1) := by
  rw [add_R]
  refine Rb.div (add_lt (mul_lt hp.1 (den_lt hq)) ?_) (up_lt (mul_lt (den_lt hp) (den_lt hq)) (by omega)) ?_
  · rw [Nat.add_comm]
    exact mul_lt hq.1 (den_lt hp)
  · exact Int.mul_ne_zero R_den R_den
theorem Rb.sub {p q : Rat} {j k : Nat} (hp : Rb p j) (hq : Rb q k) : Rb (p - q) (j + k + 1) := by
  rw [sub_R]
  refine Rb.div (sub_lt (mul_lt hp.1 (den_lt hq)) ?_) (up_lt (mul_lt (den_lt hp) (den_lt hq)) (by omega)) ?_
  · rw [Nat.add_comm]
    exact mul_lt hq.1 (den_lt hp)
  · exact Int.mul_ne_zero R_den R_den
theorem Rb.mul {p q : Rat} {j k : Nat} (hp : Rb p j) (hq : Rb q k) : Rb (p * q) (j + k) := by
  rw [mul_R]
  exact Rb.div (mul_lt hp.1 hq.1) (mul_lt (den_lt hp) (den_lt hq)) (Int.mul_ne_zero R_den R_den)
theorem Rb.neg {p : Rat} {j : Nat} (hp : Rb p j) : Rb (-p) j := by
  refine ⟨?_, ?_⟩
  · rw [Rat.neg_num, Int.natAbs_neg]
    exact hp.1
  · rw [Rat.neg_den]
    exact hp.2
theorem num0 {q : Rat} : (q.num = 0) = (q = 0) := by
  simp only [eq_iff_iff]
  exact Rat.num_eq_zero
theorem Rb.quo {p q : Rat} {j k : Nat} (hp : Rb p j) (hq : Rb q k) (h0 : q ≠ 0) : Rb (p / q) (j + k) := by
  rw [div_R]
  refine Rb.div (mul_lt hp.1 (den_lt hq)) (mul_lt (den_lt hp) hq.1) (Int.mul_ne_zero R_den ?_)
  rw [Ne, num0]
  exact h0
theorem same_den {p q : Rat} (h : (p.den : Int) = q.den) : Rat.divInt (p.num + q.num) p.den = p + q := by
  conv => rhs; rw [← Rat.num_divInt_den p, ← Rat.num_divInt_den q, ← h]
  rw [Rat.divInt_add_divInt _ _ R_den R_den, Rat.divInt_eq_divInt_iff R_den (Int.mul_ne_zero R_den R_den)]
  grind
theorem same_den' {p q : Rat} (h : (p.den : Int) = q.den) : Rat.divInt (p.num - q.num) p.den = p - q := by
  conv => rhs; rw [← Rat.num_divInt_den p, ← Rat.num_divInt_den q, ← h]
  rw [Rat.divInt_sub_divInt _ _ R_den R_den, Rat.divInt_eq_divInt_iff R_den (Int.mul_ne_zero R_den R_den)]
  grind
theorem div_pos_parts (t b : Int) (hb : 0 < b) : t.fdiv (Int.gcd t b : Nat) = (Rat.divInt t b).num ∧ b.fdiv (Int.gcd t b : Nat) = ((Rat.divInt t b).den : Int) := by
  constructor
  · rw [Rat.num_divInt, Int.sign_eq_one_of_pos hb, Int.one_mul, Int.gcd_comm b t, Int.fdiv_eq_ediv_of_nonneg _ (by omega)]
  · rw [Rat.den_divInt, if_neg (by omega), Int.gcd_comm b t, Int.fdiv_eq_ediv_of_nonneg _ (by omega), Int.natCast_ediv]
    congr 1
    omega
theorem div_neg_parts (t b : Int) (hb : b < 0) : t.fdiv (-(Int.gcd t b : Nat)) = (Rat.divInt t b).num ∧ b.fdiv (-(Int.gcd t b : Nat)) = ((Rat.divInt t b).den : Int) := by
  have e : Rat.divInt t b = Rat.divInt (-t) (-b) := by
    rw [Rat.divInt_eq_divInt_iff (by omega) (by omega)]
    grind
  have := div_pos_parts (-t) (-b) (by omega)
  rw [e, ← this.1, ← this.2, Int.neg_gcd, Int.gcd_neg]
  constructor
  · rw [← Int.neg_fdiv_neg, Int.neg_neg]
  · rw [← Int.neg_fdiv_neg, Int.neg_neg]
theorem divInt_1 (t : Int) : D.tup [.int t, .int 1] = dR (Rat.divInt t 1) := by
  have := div_pos_parts t 1 (by decide)
  unfold dR
  rw [← this.1, ← this.2]
  simp
/-- a drawn bottom -/
def lo (o m : Int) : Int := if o % m > 1 then o % m else 1
theorem lo_pos (o m : Int) : 0 < lo o m := by unfold lo; split <;> omega
theorem lo_abs (o m : Int) (h : 1 < m) : (lo o m).natAbs < m.natAbs := by
  have h1 := Int.emod_nonneg o (b := m) (by omega)
  have h2 := Int.emod_lt_of_pos o (b := m) (by omega)
  unfold lo
  split <;> omega
theorem sg_big (c m : Int) {k : Nat} (h : 0 < m) (hm : m.natAbs ≤ 2 ^ k) : (sg c m).natAbs < 2 ^ k := Nat.lt_of_lt_of_le (sg_abs c m h) hm
theorem lo_big (c m : Int) {k : Nat} (h : 1 < m) (hm : m.natAbs ≤ 2 ^ k) : (lo c m).natAbs < 2 ^ k := Nat.lt_of_lt_of_le (lo_abs c m h) hm
theorem le_big {k : Nat} (h : k ≤ 13500) : k ≤ BIG := by rw [BIG_eq]; exact h
theorem le_sz {k : Nat} (h : k ≤ 6700) : k ≤ SZ := by rw [SZ_eq]; exact h
theorem Sz0 : Sz 0 := Rb.sz (k := 2) ⟨by decide, by decide⟩ (by decide)
end Q

namespace Q
open PySem MP
theorem r_ratio (n : Nat) (t b : Int) (L : Hd) (hb : b ≠ 0) (ht : t.natAbs < 2 ^ BIG) (hbb : b.natAbs < 2 ^ BIG) : runT T (n + 2) "ratio" [.int t, .int b] L = .ok (dR (Rat.divInt t b)) L := by
  rw [runT_succ T_ratio]
  unfold F_ratio
  by_cases h1 : b = 1
  · subst h1
    simp only [runF_mk, ofO_nx, ofO_rt, ofO_ex, x_non, x_bl, x_int, x_str, x_v, x_k, x_f, x_nil, x_absent, x_cons, x_tup, x_lst, x_bin, x_neg, x_not, x_and, x_or, x_cmp, x_isn, x_notn, x_ix, x_sl, x_call, x_callv, x_bi, x_isi, x_ise, x_me, x_lc, x_rng, x_rev, s_pass, s_seq, s_set, s_setix, s_aug, s_ex, s_ite, s_wh, s_for, s_ret, s_retn, s_brk, s_cnt, s_raise, s_tryN, s_tryA, consOp_t, tupOp_t, lstOp_t, negOp_i, onTup_t, callOn_t, getV_int, getV_bl, getV_str, getV_tup, getV_ref, getV_fn, getV_non, onFn_f, onExc_f, onInt_i, augNx_s, augop_a, augop_s, okOnly_ok, b_add, b_sub, b_mul, b_fdiv, b_mod, b_addt, c_lt, c_le, c_gt, c_ge, c_eq, c_ne, onL_s, onLo_s, onV_s, atV_s, lr_len, lr_list, lr_tuple, ix_t', ix_r', me_app, me_pop, me_rev, sl_r', sl_t', recv_app, recv_pop, recv_popAt, recv_clear, recv_rev, recv_ins, getL_at0, getL_at1, getL_at2, getL_at3, setL_at0, setL_at1, setL_at2, getL_0, getL_1, getL_2, getL_3, getL_4, setL_1, setL_2, setL_3, atI_0, atI_1, atI_2, atI_m1, List.append_assoc, List.length_append, Nat.add_one_ne_zero, bi_abs, bi_lent, bi_max, bi_min, bi_int, bi_intb, bi_listt, bi_tupt, ty_non, ty_bl, ty_int, ty_str, ty_tup, tb1, tb2, tb3, tb4, tb5, tn1, tn2, tn3, tn4, tn5, tn6, isNon_non, isNon_tup, isNon_int, isNon_ref, items_t, items_r, Option.map_some, fw_nil_n, fw_cons_n, fw_nil_s, fw_cons_s, takeS_0, takeS_s, dropS_0, dropS_s, forOn_s, lcOn_s, R.bind_ok, R.bind_exc, R.bind_bad, R.on_ok, R.on_exc, R.on_bad, onBl_bl, ifB_bl, O.then_nx, O.turn_nx, O.turn_ct, O.turn_bk, O.turn_rt, O.turn_ex, O.then_rt, O.then_ex, O.then_bk, O.then_ct, O.then_bad, onPart_int, onPart_abs, List.getElem?_cons_zero, List.getElem?_cons_succ, List.set_cons_zero, List.set_cons_succ, List.length_cons, List.length_nil, List.map_cons, List.map_nil, List.cons_append, List.nil_append, List.replicate_succ, List.replicate_zero, Nat.reduceAdd, Nat.reduceSub, Nat.reduceEqDiff, Nat.reduceLT, Nat.reduceLeDiff, if_true, if_false, ite_true, ite_false, eq_self, eqop_int, neop_int, eqop_bl, neop_bl, Bool.not_true, Bool.not_false, Bool.true_eq_false, Bool.false_eq_true, Bool.or_true, Bool.or_false, Bool.true_or, Bool.false_or, Bool.and_true, Bool.and_false, reduceIte, reduceCtorEq, decide_true, decide_false, decide_eq_true_eq, Bool.not_eq_true', decide_eq_false_iff_not, Nat.zero_le, lim1, lim2, lim3, lim4, lim5, Int.reduceLE, Int.reduceLT, Int.reduceEq, Int.reduceNe, ne_eq, not_false_eq_true, not_true_eq_false, Int.reduceNeg, and_true, true_and, and_false, false_and, or_true, true_or, or_false, false_or, alloc_e, seen_s, seen_none,  fmp, p10_4, p10_6, p10_9, p10_12, p10_18, p10_20, p10_28, p10_30, p10_40, p10_44, p10_50, p10_57, p10_58, p10_59, p10_60, getV_R, ix_R0, ix_R1, ty_R, len_R, isNon_R, tupOp_R, callOn_R, items_R, consOp_R, R0n, R0d, R1n, R1d, onTup_R, eq_R, ne_R, R_eta, R_0, R_1, R_neg, R_den', R_den1, R_den0, r_is_whole, divInt_1]
  have hg : ((Int.gcd t b : Nat) : Int) ≠ 0 := by
    intro h
    have h' : Int.gcd t b = 0 := by omega
    exact hb (Int.gcd_eq_zero_iff.mp h').2
  by_cases hn : b < 0
  · have hg' : -((Int.gcd t b : Nat) : Int) ≠ 0 := by omega
    have d1 := divOk_of hg' ht
    have d2 := divOk_of hg' hbb
    have hp := div_neg_parts t b hn
    simp only [runF_mk, ofO_nx, ofO_rt, ofO_ex, x_non, x_bl, x_int, x_str, x_v, x_k, x_f, x_nil, x_absent, x_cons, x_tup, x_lst, x_bin, x_neg, x_not, x_and, x_or, x_cmp, x_isn, x_notn, x_ix, x_sl, x_call, x_callv, x_bi, x_isi, x_ise, x_me, x_lc, x_rng, x_rev, s_pass, s_seq, s_set, s_setix, s_aug, s_ex, s_ite, s_wh, s_for, s_ret, s_retn, s_brk, s_cnt, s_raise, s_tryN, s_tryA, consOp_t, tupOp_t, lstOp_t, negOp_i, onTup_t, callOn_t, getV_int, getV_bl, getV_str, getV_tup, getV_ref, getV_fn, getV_non, onFn_f, onExc_f, onInt_i, augNx_s, augop_a, augop_s, okOnly_ok, b_add, b_sub, b_mul, b_fdiv, b_mod, b_addt, c_lt, c_le, c_gt, c_ge, c_eq, c_ne, onL_s, onLo_s, onV_s, atV_s, lr_len, lr_list, lr_tuple, ix_t', ix_r', me_app, me_pop, me_rev, sl_r', sl_t', recv_app, recv_pop, recv_popAt, recv_clear, recv_rev, recv_ins, getL_at0, getL_at1, getL_at2, getL_at3, setL_at0, setL_at1, setL_at2, getL_0, getL_1, getL_2, getL_3, getL_4, setL_1, setL_2, setL_3, atI_0, atI_1, atI_2, atI_m1, List.append_assoc, List.length_append, Nat.add_one_ne_zero, bi_abs, bi_lent, bi_max, bi_min, bi_int, bi_intb, bi_listt, bi_tupt, ty_non, ty_bl, ty_int, ty_str, ty_tup, tb1, tb2, tb3, tb4, tb5, tn1, tn2, tn3, tn4, tn5, tn6, isNon_non, isNon_tup, isNon_int, isNon_ref, items_t, items_r, Option.map_some, fw_nil_n, fw_cons_n, fw_nil_s, fw_cons_s, takeS_0, takeS_s, dropS_0, dropS_s, forOn_s, lcOn_s, R.bind_ok, R.bind_exc, R.bind_bad, R.on_ok, R.on_exc, R.on_bad, onBl_bl, ifB_bl, O.then_nx, O.turn_nx, O.turn_ct, O.turn_bk, O.turn_rt, O.turn_ex, O.then_rt, O.then_ex, O.then_bk, O.then_ct, O.then_bad, onPart_int, onPart_abs, List.getElem?_cons_zero, List.getElem?_cons_succ, List.set_cons_zero, List.set_cons_succ, List.length_cons, List.length_nil, List.map_cons, List.map_nil, List.cons_append, List.nil_append, List.replicate_succ, List.replicate_zero, Nat.reduceAdd, Nat.reduceSub, Nat.reduceEqDiff, Nat.reduceLT, Nat.reduceLeDiff, if_true, if_false, ite_true, ite_false, eq_self, eqop_int, neop_int, eqop_bl, neop_bl, Bool.not_true, Bool.not_false, Bool.true_eq_false, Bool.false_eq_true, Bool.or_true, Bool.or_false, Bool.true_or, Bool.false_or, Bool.and_true, Bool.and_false, reduceIte, reduceCtorEq, decide_true, decide_false, decide_eq_true_eq, Bool.not_eq_true', decide_eq_false_iff_not, Nat.zero_le, lim1, lim2, lim3, lim4, lim5, Int.reduceLE, Int.reduceLT, Int.reduceEq, Int.reduceNe, ne_eq, not_false_eq_true, not_true_eq_false, Int.reduceNeg, and_true, true_and, and_false, false_and, or_true, true_or, or_false, false_or, alloc_e, seen_s, seen_none,  fmp, p10_4, p10_6, p10_9, p10_12, p10_18, p10_20, p10_28, p10_30, p10_40, p10_44, p10_50, p10_57, p10_58, p10_59, p10_60, getV_R, ix_R0, ix_R1, ty_R, len_R, isNon_R, tupOp_R, callOn_R, items_R, consOp_R, R0n, R0d, R1n, R1d, onTup_R, eq_R, ne_R, R_eta, R_0, R_1, R_neg, R_den', R_den1, R_den0, r_is_whole, r_divisor, hb, h1, hn, d1, d2, hp.1, hp.2]
  · have hp := div_pos_parts t b (by omega)
    have d1 := divOk_of hg ht
    have d2 := divOk_of hg hbb
    simp only [runF_mk, ofO_nx, ofO_rt, ofO_ex, x_non, x_bl, x_int, x_str, x_v, x_k, x_f, x_nil, x_absent, x_cons, x_tup, x_lst, x_bin, x_neg, x_not, x_and, x_or, x_cmp, x_isn, x_notn, x_ix, x_sl, x_call, x_callv, x_bi, x_isi, x_ise, x_me, x_lc, x_rng, x_rev, s_pass, s_seq, s_set, s_setix, s_aug, s_ex, s_ite, s_wh, s_for, s_ret, s_retn, s_brk, s_cnt, s_raise, s_tryN, s_tryA, consOp_t, tupOp_t, lstOp_t, negOp_i, onTup_t, callOn_t, getV_int, getV_bl, getV_str, getV_tup, getV_ref, getV_fn, getV_non, onFn_f, onExc_f, onInt_i, augNx_s, augop_a, augop_s, okOnly_ok, b_add, b_sub, b_mul, b_fdiv, b_mod, b_addt, c_lt, c_le, c_gt, c_ge, c_eq, c_ne, onL_s, onLo_s, onV_s, atV_s, lr_len, lr_list, lr_tuple, ix_t', ix_r', me_app, me_pop, me_rev, sl_r', sl_t', recv_app, recv_pop, recv_popAt, recv_clear, recv_rev, recv_ins, getL_at0, getL_at1, getL_at2, getL_at3, setL_at0, setL_at1, setL_at2, getL_0, getL_1, getL_2, getL_3, getL_4, setL_1, setL_2, setL_3, atI_0, atI_1, atI_2, atI_m1, List.append_assoc, List.length_append, Nat.add_one_ne_zero, bi_abs, bi_lent, bi_max, bi_min, bi_int, bi_intb, bi_listt, bi_tupt, ty_non, ty_bl, ty_int, ty_str, ty_tup, tb1, tb2, tb3, tb4, tb5, tn1, tn2, tn3, tn4, tn5, tn6, isNon_non, isNon_tup, isNon_int, isNon_ref, items_t, items_r, Option.map_some, fw_nil_n, fw_cons_n, fw_nil_s, fw_cons_s, takeS_0, takeS_s, dropS_0, dropS_s, forOn_s, lcOn_s, R.bind_ok, R.bind_exc, R.bind_bad, R.on_ok, R.on_exc, R.on_bad, onBl_bl, ifB_bl, O.then_nx, O.turn_nx, O.turn_ct, O.turn_bk, O.turn_rt, O.turn_ex, O.then_rt, O.then_ex, O.then_bk, O.then_ct, O.then_bad, onPart_int, onPart_abs, List.getElem?_cons_zero, List.getElem?_cons_succ, List.set_cons_zero, List.set_cons_succ, List.length_cons, List.length_nil, List.map_cons, List.map_nil, List.cons_append, List.nil_append, List.replicate_succ, List.replicate_zero, Nat.reduceAdd, Nat.reduceSub, Nat.reduceEqDiff, Nat.reduceLT, Nat.reduceLeDiff, if_true, if_false, ite_true, ite_false, eq_self, eqop_int, neop_int, eqop_bl, neop_bl, Bool.not_true, Bool.not_false, Bool.true_eq_false, Bool.false_eq_true, Bool.or_true, Bool.or_false, Bool.true_or, Bool.false_or, Bool.and_true, Bool.and_false, reduceIte, reduceCtorEq, decide_true, decide_false, decide_eq_true_eq, Bool.not_eq_true', decide_eq_false_iff_not, Nat.zero_le, lim1, lim2, lim3, lim4, lim5, Int.reduceLE, Int.reduceLT, Int.reduceEq, Int.reduceNe, ne_eq, not_false_eq_true, not_true_eq_false, Int.reduceNeg, and_true, true_and, and_false, false_and, or_true, true_or, or_false, false_or, alloc_e, seen_s, seen_none,  fmp, p10_4, p10_6, p10_9, p10_12, p10_18, p10_20, p10_28, p10_30, p10_40, p10_44, p10_50, p10_57, p10_58, p10_59, p10_60, getV_R, ix_R0, ix_R1, ty_R, len_R, isNon_R, tupOp_R, callOn_R, items_R, consOp_R, R0n, R0d, R1n, R1d, onTup_R, eq_R, ne_R, R_eta, R_0, R_1, R_neg, R_den', R_den1, R_den0, r_is_whole, r_divisor, hb, h1, hn, d1, d2, hp.1, hp.2]
theorem r_ratio_0 (n : Nat) (t : Int) (L : Hd) : runT T (n + 2) "ratio" [.int t, .int 0] L = .exc "NoRatio" L := by
  rw [runT_succ T_ratio]
  unfold F_ratio
  simp only [runF_mk, ofO_nx, ofO_rt, ofO_ex, x_non, x_bl, x_int, x_str, x_v, x_k, x_f, x_nil, x_absent, x_cons, x_tup, x_lst, x_bin, x_neg, x_not, x_and, x_or, x_cmp, x_isn, x_notn, x_ix, x_sl, x_call, x_callv, x_bi, x_isi, x_ise, x_me, x_lc, x_rng, x_rev, s_pass, s_seq, s_set, s_setix, s_aug, s_ex, s_ite, s_wh, s_for, s_ret, s_retn, s_brk, s_cnt, s_raise, s_tryN, s_tryA, consOp_t, tupOp_t, lstOp_t, negOp_i, onTup_t, callOn_t, getV_int, getV_bl, getV_str, getV_tup, getV_ref, getV_fn, getV_non, onFn_f, onExc_f, onInt_i, augNx_s, augop_a, augop_s, okOnly_ok, b_add, b_sub, b_mul, b_fdiv, b_mod, b_addt, c_lt, c_le, c_gt, c_ge, c_eq, c_ne, onL_s, onLo_s, onV_s, atV_s, lr_len, lr_list, lr_tuple, ix_t', ix_r', me_app, me_pop, me_rev, sl_r', sl_t', recv_app, recv_pop, recv_popAt, recv_clear, recv_rev, recv_ins, getL_at0, getL_at1, getL_at2, getL_at3, setL_at0, setL_at1, setL_at2, getL_0, getL_1, getL_2, getL_3, getL_4, setL_1, setL_2, setL_3, atI_0, atI_1, atI_2, atI_m1, List.append_assoc, List.length_append, Nat.add_one_ne_zero, bi_abs, bi_lent, bi_max, bi_min, bi_int, bi_intb, bi_listt, bi_tupt, ty_non, ty_bl, ty_int, ty_str, ty_tup, tb1, tb2, tb3, tb4, tb5, tn1, tn2, tn3, tn4, tn5, tn6, isNon_non, isNon_tup, isNon_int, isNon_ref, items_t, items_r, Option.map_some, fw_nil_n, fw_cons_n, fw_nil_s, fw_cons_s, takeS_0, takeS_s, dropS_0, dropS_s, forOn_s, lcOn_s, R.bind_ok, R.bind_exc, R.bind_bad, R.on_ok, R.on_exc, R.on_bad, onBl_bl, ifB_bl, O.then_nx, O.turn_nx, O.turn_ct, O.turn_bk, O.turn_rt, O.turn_ex, O.then_rt, O.then_ex, O.then_bk, O.then_ct, O.then_bad, onPart_int, onPart_abs, List.getElem?_cons_zero, List.getElem?_cons_succ, List.set_cons_zero, List.set_cons_succ, List.length_cons, List.length_nil, List.map_cons, List.map_nil, List.cons_append, List.nil_append, List.replicate_succ, List.replicate_zero, Nat.reduceAdd, Nat.reduceSub, Nat.reduceEqDiff, Nat.reduceLT, Nat.reduceLeDiff, if_true, if_false, ite_true, ite_false, eq_self, eqop_int, neop_int, eqop_bl, neop_bl, Bool.not_true, Bool.not_false, Bool.true_eq_false, Bool.false_eq_true, Bool.or_true, Bool.or_false, Bool.true_or, Bool.false_or, Bool.and_true, Bool.and_false, reduceIte, reduceCtorEq, decide_true, decide_false, decide_eq_true_eq, Bool.not_eq_true', decide_eq_false_iff_not, Nat.zero_le, lim1, lim2, lim3, lim4, lim5, Int.reduceLE, Int.reduceLT, Int.reduceEq, Int.reduceNe, ne_eq, not_false_eq_true, not_true_eq_false, Int.reduceNeg, and_true, true_and, and_false, false_and, or_true, true_or, or_false, false_or, alloc_e, seen_s, seen_none,  fmp, p10_4, p10_6, p10_9, p10_12, p10_18, p10_20, p10_28, p10_30, p10_40, p10_44, p10_50, p10_57, p10_58, p10_59, p10_60, getV_R, ix_R0, ix_R1, ty_R, len_R, isNon_R, tupOp_R, callOn_R, items_R, consOp_R, R0n, R0d, R1n, R1d, onTup_R, eq_R, ne_R, R_eta, R_0, R_1, R_neg, R_den', R_den1, R_den0, r_is_whole]
end Q

namespace Q
open PySem MP
theorem r_minus (n : Nat) (p q : Rat) (L : Hd) (hp : Sz p) (hq : Sz q) : runT T (n + 3) "minus" [dR p, dR q] L = .ok (dR (p - q)) L := by
  rw [runT_succ T_minus]
  unfold F_minus
  by_cases h : (p.den : Int) = q.den
  · have e1 := r_ratio n (p.num - q.num) p.den L R_den (up_lt (sub_lt hp.1 hq.1) z2) (up_lt (den_lt hp) z1)
    rw [same_den' h] at e1
    simp only [h] at e1
    simp only [runF_mk, ofO_nx, ofO_rt, ofO_ex, x_non, x_bl, x_int, x_str, x_v, x_k, x_f, x_nil, x_absent, x_cons, x_tup, x_lst, x_bin, x_neg, x_not, x_and, x_or, x_cmp, x_isn, x_notn, x_ix, x_sl, x_call, x_callv, x_bi, x_isi, x_ise, x_me, x_lc, x_rng, x_rev, s_pass, s_seq, s_set, s_setix, s_aug, s_ex, s_ite, s_wh, s_for, s_ret, s_retn, s_brk, s_cnt, s_raise, s_tryN, s_tryA, consOp_t, tupOp_t, lstOp_t, negOp_i, onTup_t, callOn_t, getV_int, getV_bl, getV_str, getV_tup, getV_ref, getV_fn, getV_non, onFn_f, onExc_f, onInt_i, augNx_s, augop_a, augop_s, okOnly_ok, b_add, b_sub, b_mul, b_fdiv, b_mod, b_addt, c_lt, c_le, c_gt, c_ge, c_eq, c_ne, onL_s, onLo_s, onV_s, atV_s, lr_len, lr_list, lr_tuple, ix_t', ix_r', me_app, me_pop, me_rev, sl_r', sl_t', recv_app, recv_pop, recv_popAt, recv_clear, recv_rev, recv_ins, getL_at0, getL_at1, getL_at2, getL_at3, setL_at0, setL_at1, setL_at2, getL_0, getL_1, getL_2, getL_3, getL_4, setL_1, setL_2, setL_3, atI_0, atI_1, atI_2, atI_m1, List.append_assoc, List.length_append, Nat.add_one_ne_zero, bi_abs, bi_lent, bi_max, bi_min, bi_int, bi_intb, bi_listt, bi_tupt, ty_non, ty_bl, ty_int, ty_str, ty_tup, tb1, tb2, tb3, tb4, tb5, tn1, tn2, tn3, tn4, tn5, tn6, isNon_non, isNon_tup, isNon_int, isNon_ref, items_t, items_r, Option.map_some, fw_nil_n, fw_cons_n, fw_nil_s, fw_cons_s, takeS_0, takeS_s, dropS_0, dropS_s, forOn_s, lcOn_s, R.bind_ok, R.bind_exc, R.bind_bad, R.on_ok, R.on_exc, R.on_bad, onBl_bl, ifB_bl, O.then_nx, O.turn_nx, O.turn_ct, O.turn_bk, O.turn_rt, O.turn_ex, O.then_rt, O.then_ex, O.then_bk, O.then_ct, O.then_bad, onPart_int, onPart_abs, List.getElem?_cons_zero, List.getElem?_cons_succ, List.set_cons_zero, List.set_cons_succ, List.length_cons, List.length_nil, List.map_cons, List.map_nil, List.cons_append, List.nil_append, List.replicate_succ, List.replicate_zero, Nat.reduceAdd, Nat.reduceSub, Nat.reduceEqDiff, Nat.reduceLT, Nat.reduceLeDiff, if_true, if_false, ite_true, ite_false, eq_self, eqop_int, neop_int, eqop_bl, neop_bl, Bool.not_true, Bool.not_false, Bool.true_eq_false, Bool.false_eq_true, Bool.or_true, Bool.or_false, Bool.true_or, Bool.false_or, Bool.and_true, Bool.and_false, reduceIte, reduceCtorEq, decide_true, decide_false, decide_eq_true_eq, Bool.not_eq_true', decide_eq_false_iff_not, Nat.zero_le, lim1, lim2, lim3, lim4, lim5, Int.reduceLE, Int.reduceLT, Int.reduceEq, Int.reduceNe, ne_eq, not_false_eq_true, not_true_eq_false, Int.reduceNeg, and_true, true_and, and_false, false_and, or_true, true_or, or_false, false_or, alloc_e, seen_s, seen_none,  fmp, p10_4, p10_6, p10_9, p10_12, p10_18, p10_20, p10_28, p10_30, p10_40, p10_44, p10_50, p10_57, p10_58, p10_59, p10_60, getV_R, ix_R0, ix_R1, ty_R, len_R, isNon_R, tupOp_R, callOn_R, items_R, consOp_R, R0n, R0d, R1n, R1d, onTup_R, eq_R, ne_R, R_eta, R_0, R_1, R_neg, R_den', R_den1, R_den0, h, e1]
  · have m1 := mulOk_of hp.1 (den_lt hq) zm
    have m2 := mulOk_of hq.1 (den_lt hp) zm
    have m3 := mulOk_of (den_lt hp) (den_lt hq) zm
    have e1 := r_ratio n (p.num * q.den - q.num * p.den) (p.den * q.den) L (Int.mul_ne_zero R_den R_den) (up_lt (sub_lt (mul_lt hp.1 (den_lt hq)) (mul_lt hq.1 (den_lt hp))) z4) (up_lt (mul_lt (den_lt hp) (den_lt hq)) z3)
    rw [← sub_R] at e1
    simp only [runF_mk, ofO_nx, ofO_rt, ofO_ex, x_non, x_bl, x_int, x_str, x_v, x_k, x_f, x_nil, x_absent, x_cons, x_tup, x_lst, x_bin, x_neg, x_not, x_and, x_or, x_cmp, x_isn, x_notn, x_ix, x_sl, x_call, x_callv, x_bi, x_isi, x_ise, x_me, x_lc, x_rng, x_rev, s_pass, s_seq, s_set, s_setix, s_aug, s_ex, s_ite, s_wh, s_for, s_ret, s_retn, s_brk, s_cnt, s_raise, s_tryN, s_tryA, consOp_t, tupOp_t, lstOp_t, negOp_i, onTup_t, callOn_t, getV_int, getV_bl, getV_str, getV_tup, getV_ref, getV_fn, getV_non, onFn_f, onExc_f, onInt_i, augNx_s, augop_a, augop_s, okOnly_ok, b_add, b_sub, b_mul, b_fdiv, b_mod, b_addt, c_lt, c_le, c_gt, c_ge, c_eq, c_ne, onL_s, onLo_s, onV_s, atV_s, lr_len, lr_list, lr_tuple, ix_t', ix_r', me_app, me_pop, me_rev, sl_r', sl_t', recv_app, recv_pop, recv_popAt, recv_clear, recv_rev, recv_ins, getL_at0, getL_at1, getL_at2, getL_at3, setL_at0, setL_at1, setL_at2, getL_0, getL_1, getL_2, getL_3, getL_4, setL_1, setL_2, setL_3, atI_0, atI_1, atI_2, atI_m1, List.append_assoc, List.length_append, Nat.add_one_ne_zero, bi_abs, bi_lent, bi_max, bi_min, bi_int, bi_intb, bi_listt, bi_tupt, ty_non, ty_bl, ty_int, ty_str, ty_tup, tb1, tb2, tb3, tb4, tb5, tn1, tn2, tn3, tn4, tn5, tn6, isNon_non, isNon_tup, isNon_int, isNon_ref, items_t, items_r, Option.map_some, fw_nil_n, fw_cons_n, fw_nil_s, fw_cons_s, takeS_0, takeS_s, dropS_0, dropS_s, forOn_s, lcOn_s, R.bind_ok, R.bind_exc, R.bind_bad, R.on_ok, R.on_exc, R.on_bad, onBl_bl, ifB_bl, O.then_nx, O.turn_nx, O.turn_ct, O.turn_bk, O.turn_rt, O.turn_ex, O.then_rt, O.then_ex, O.then_bk, O.then_ct, O.then_bad, onPart_int, onPart_abs, List.getElem?_cons_zero, List.getElem?_cons_succ, List.set_cons_zero, List.set_cons_succ, List.length_cons, List.length_nil, List.map_cons, List.map_nil, List.cons_append, List.nil_append, List.replicate_succ, List.replicate_zero, Nat.reduceAdd, Nat.reduceSub, Nat.reduceEqDiff, Nat.reduceLT, Nat.reduceLeDiff, if_true, if_false, ite_true, ite_false, eq_self, eqop_int, neop_int, eqop_bl, neop_bl, Bool.not_true, Bool.not_false, Bool.true_eq_false, Bool.false_eq_true, Bool.or_true, Bool.or_false, Bool.true_or, Bool.false_or, Bool.and_true, Bool.and_false, reduceIte, reduceCtorEq, decide_true, decide_false, decide_eq_true_eq, Bool.not_eq_true', decide_eq_false_iff_not, Nat.zero_le, lim1, lim2, lim3, lim4, lim5, Int.reduceLE, Int.reduceLT, Int.reduceEq, Int.reduceNe, ne_eq, not_false_eq_true, not_true_eq_false, Int.reduceNeg, and_true, true_and, and_false, false_and, or_true, true_or, or_false, false_or, alloc_e, seen_s, seen_none,  fmp, p10_4, p10_6, p10_9, p10_12, p10_18, p10_20, p10_28, p10_30, p10_40, p10_44, p10_50, p10_57, p10_58, p10_59, p10_60, getV_R, ix_R0, ix_R1, ty_R, len_R, isNon_R, tupOp_R, callOn_R, items_R, consOp_R, R0n, R0d, R1n, R1d, onTup_R, eq_R, ne_R, R_eta, R_0, R_1, R_neg, R_den', R_den1, R_den0, h, m1, m2, m3, e1]
end Q

namespace Q
open PySem MP
theorem r_over (n : Nat) (p q : Rat) (L : Hd) (hp : Sz p) (hq : Sz q) (h0 : q ≠ 0) : runT T (n + 3) "over" [dR p, dR q] L = .ok (dR (p / q)) L := by
  rw [runT_succ T_over]
  unfold F_over
  have hn : q.num ≠ 0 := by rw [Ne, num0]; exact h0
  have m1 := mulOk_of hp.1 (den_lt hq) zm
  have m3 := mulOk_of (den_lt hp) hq.1 zm
  have e1 := r_ratio n (p.num * q.den) (p.den * q.num) L (Int.mul_ne_zero R_den hn) (up_lt (mul_lt hp.1 (den_lt hq)) z3) (up_lt (mul_lt (den_lt hp) hq.1) z3)
  rw [← div_R] at e1
  simp only [runF_mk, ofO_nx, ofO_rt, ofO_ex, x_non, x_bl, x_int, x_str, x_v, x_k, x_f, x_nil, x_absent, x_cons, x_tup, x_lst, x_bin, x_neg, x_not, x_and, x_or, x_cmp, x_isn, x_notn, x_ix, x_sl, x_call, x_callv, x_bi, x_isi, x_ise, x_me, x_lc, x_rng, x_rev, s_pass, s_seq, s_set, s_setix, s_aug, s_ex, s_ite, s_wh, s_for, s_ret, s_retn, s_brk, s_cnt, s_raise, s_tryN, s_tryA, consOp_t, tupOp_t, lstOp_t, negOp_i, onTup_t, callOn_t, getV_int, getV_bl, getV_str, getV_tup, getV_ref, getV_fn, getV_non, onFn_f, onExc_f, onInt_i, augNx_s, augop_a, augop_s, okOnly_ok, b_add, b_sub, b_mul, b_fdiv, b_mod, b_addt, c_lt, c_le, c_gt, c_ge, c_eq, c_ne, onL_s, onLo_s, onV_s, atV_s, lr_len, lr_list, lr_tuple, ix_t', ix_r', me_app, me_pop, me_rev, sl_r', sl_t', recv_app, recv_pop, recv_popAt, recv_clear, recv_rev, recv_ins, getL_at0, getL_at1, getL_at2, getL_at3, setL_at0, setL_at1, setL_at2, getL_0, getL_1, getL_2, getL_3, getL_4, setL_1, setL_2, setL_3, atI_0, atI_1, atI_2, atI_m1, List.append_assoc, List.length_append, Nat.add_one_ne_zero, bi_abs, bi_lent, bi_max, bi_min, bi_int, bi_intb, bi_listt, bi_tupt, ty_non, ty_bl, ty_int, ty_str, ty_tup, tb1, tb2, tb3, tb4, tb5, tn1, tn2, tn3, tn4, tn5, tn6, isNon_non, isNon_tup, isNon_int, isNon_ref, items_t, items_r, Option.map_some, fw_nil_n, fw_cons_n, fw_nil_s, fw_cons_s, takeS_0, takeS_s, dropS_0, dropS_s, forOn_s, lcOn_s, R.bind_ok, R.bind_exc, R.bind_bad, R.on_ok, R.on_exc, R.on_bad, onBl_bl, ifB_bl, O.then_nx, O.turn_nx, O.turn_ct, O.turn_bk, O.turn_rt, O.turn_ex, O.then_rt, O.then_ex, O.then_bk, O.then_ct, O.then_bad, onPart_int, onPart_abs, List.getElem?_cons_zero, List.getElem?_cons_succ, List.set_cons_zero, List.set_cons_succ, List.length_cons, List.length_nil, List.map_cons, List.map_nil, List.cons_append, List.nil_append, List.replicate_succ, List.replicate_zero, Nat.reduceAdd, Nat.reduceSub, Nat.reduceEqDiff, Nat.reduceLT, Nat.reduceLeDiff, if_true, if_false, ite_true, ite_false, eq_self, eqop_int, neop_int, eqop_bl, neop_bl, Bool.not_true, Bool.not_false, Bool.true_eq_false, Bool.false_eq_true, Bool.or_true, Bool.or_false, Bool.true_or, Bool.false_or, Bool.and_true, Bool.and_false, reduceIte, reduceCtorEq, decide_true, decide_false, decide_eq_true_eq, Bool.not_eq_true', decide_eq_false_iff_not, Nat.zero_le, lim1, lim2, lim3, lim4, lim5, Int.reduceLE, Int.reduceLT, Int.reduceEq, Int.reduceNe, ne_eq, not_false_eq_true, not_true_eq_false, Int.reduceNeg, and_true, true_and, and_false, false_and, or_true, true_or, or_false, false_or, alloc_e, seen_s, seen_none,  fmp, p10_4, p10_6, p10_9, p10_12, p10_18, p10_20, p10_28, p10_30, p10_40, p10_44, p10_50, p10_57, p10_58, p10_59, p10_60, getV_R, ix_R0, ix_R1, ty_R, len_R, isNon_R, tupOp_R, callOn_R, items_R, consOp_R, R0n, R0d, R1n, R1d, onTup_R, eq_R, ne_R, R_eta, R_0, R_1, R_neg, R_den', R_den1, R_den0, m1, m3, e1, hn]
theorem r_over_0 (n : Nat) (p : Rat) (L : Hd) : runT T (n + 1) "over" [dR p, dR 0] L = .exc "NoRatio" L := by
  rw [runT_succ T_over]
  unfold F_over
  have : (0 : Rat).num = 0 := rfl
  simp only [runF_mk, ofO_nx, ofO_rt, ofO_ex, x_non, x_bl, x_int, x_str, x_v, x_k, x_f, x_nil, x_absent, x_cons, x_tup, x_lst, x_bin, x_neg, x_not, x_and, x_or, x_cmp, x_isn, x_notn, x_ix, x_sl, x_call, x_callv, x_bi, x_isi, x_ise, x_me, x_lc, x_rng, x_rev, s_pass, s_seq, s_set, s_setix, s_aug, s_ex, s_ite, s_wh, s_for, s_ret, s_retn, s_brk, s_cnt, s_raise, s_tryN, s_tryA, consOp_t, tupOp_t, lstOp_t, negOp_i, onTup_t, callOn_t, getV_int, getV_bl, getV_str, getV_tup, getV_ref, getV_fn, getV_non, onFn_f, onExc_f, onInt_i, augNx_s, augop_a, augop_s, okOnly_ok, b_add, b_sub, b_mul, b_fdiv, b_mod, b_addt, c_lt, c_le, c_gt, c_ge, c_eq, c_ne, onL_s, onLo_s, onV_s, atV_s, lr_len, lr_list, lr_tuple, ix_t', ix_r', me_app, me_pop, me_rev, sl_r', sl_t', recv_app, recv_pop, recv_popAt, recv_clear, recv_rev, recv_ins, getL_at0, getL_at1, getL_at2, getL_at3, setL_at0, setL_at1, setL_at2, getL_0, getL_1, getL_2, getL_3, getL_4, setL_1, setL_2, setL_3, atI_0, atI_1, atI_2, atI_m1, List.append_assoc, List.length_append, Nat.add_one_ne_zero, bi_abs, bi_lent, bi_max, bi_min, bi_int, bi_intb, bi_listt, bi_tupt, ty_non, ty_bl, ty_int, ty_str, ty_tup, tb1, tb2, tb3, tb4, tb5, tn1, tn2, tn3, tn4, tn5, tn6, isNon_non, isNon_tup, isNon_int, isNon_ref, items_t, items_r, Option.map_some, fw_nil_n, fw_cons_n, fw_nil_s, fw_cons_s, takeS_0, takeS_s, dropS_0, dropS_s, forOn_s, lcOn_s, R.bind_ok, R.bind_exc, R.bind_bad, R.on_ok, R.on_exc, R.on_bad, onBl_bl, ifB_bl, O.then_nx, O.turn_nx, O.turn_ct, O.turn_bk, O.turn_rt, O.turn_ex, O.then_rt, O.then_ex, O.then_bk, O.then_ct, O.then_bad, onPart_int, onPart_abs, List.getElem?_cons_zero, List.getElem?_cons_succ, List.set_cons_zero, List.set_cons_succ, List.length_cons, List.length_nil, List.map_cons, List.map_nil, List.cons_append, List.nil_append, List.replicate_succ, List.replicate_zero, Nat.reduceAdd, Nat.reduceSub, Nat.reduceEqDiff, Nat.reduceLT, Nat.reduceLeDiff, if_true, if_false, ite_true, ite_false, eq_self, eqop_int, neop_int, eqop_bl, neop_bl, Bool.not_true, Bool.not_false, Bool.true_eq_false, Bool.false_eq_true, Bool.or_true, Bool.or_false, Bool.true_or, Bool.false_or, Bool.and_true, Bool.and_false, reduceIte, reduceCtorEq, decide_true, decide_false, decide_eq_true_eq, Bool.not_eq_true', decide_eq_false_iff_not, Nat.zero_le, lim1, lim2, lim3, lim4, lim5, Int.reduceLE, Int.reduceLT, Int.reduceEq, Int.reduceNe, ne_eq, not_false_eq_true, not_true_eq_false, Int.reduceNeg, and_true, true_and, and_false, false_and, or_true, true_or, or_false, false_or, alloc_e, seen_s, seen_none,  fmp, p10_4, p10_6, p10_9, p10_12, p10_18, p10_20, p10_28, p10_30, p10_40, p10_44, p10_50, p10_57, p10_58, p10_59, p10_60, getV_R, ix_R0, ix_R1, ty_R, len_R, isNon_R, tupOp_R, callOn_R, items_R, consOp_R, R0n, R0d, R1n, R1d, onTup_R, eq_R, ne_R, R_eta, R_0, R_1, R_neg, R_den', R_den1, R_den0, this]
end Q

namespace Q
open PySem MP
theorem r_under (n : Nat) (p q : Rat) (L : Hd) (hp : Sz p) (hq : Sz q) : runT T (n + 1) "under" [dR p, dR q] L = .ok (.bl (decide (p < q))) L := by
  rw [runT_succ T_under]
  unfold F_under
  have m1 := mulOk_of hp.1 (den_lt hq) zm
  have m2 := mulOk_of hq.1 (den_lt hp) zm
  simp only [runF_mk, ofO_nx, ofO_rt, ofO_ex, x_non, x_bl, x_int, x_str, x_v, x_k, x_f, x_nil, x_absent, x_cons, x_tup, x_lst, x_bin, x_neg, x_not, x_and, x_or, x_cmp, x_isn, x_notn, x_ix, x_sl, x_call, x_callv, x_bi, x_isi, x_ise, x_me, x_lc, x_rng, x_rev, s_pass, s_seq, s_set, s_setix, s_aug, s_ex, s_ite, s_wh, s_for, s_ret, s_retn, s_brk, s_cnt, s_raise, s_tryN, s_tryA, consOp_t, tupOp_t, lstOp_t, negOp_i, onTup_t, callOn_t, getV_int, getV_bl, getV_str, getV_tup, getV_ref, getV_fn, getV_non, onFn_f, onExc_f, onInt_i, augNx_s, augop_a, augop_s, okOnly_ok, b_add, b_sub, b_mul, b_fdiv, b_mod, b_addt, c_lt, c_le, c_gt, c_ge, c_eq, c_ne, onL_s, onLo_s, onV_s, atV_s, lr_len, lr_list, lr_tuple, ix_t', ix_r', me_app, me_pop, me_rev, sl_r', sl_t', recv_app, recv_pop, recv_popAt, recv_clear, recv_rev, recv_ins, getL_at0, getL_at1, getL_at2, getL_at3, setL_at0, setL_at1, setL_at2, getL_0, getL_1, getL_2, getL_3, getL_4, setL_1, setL_2, setL_3, atI_0, atI_1, atI_2, atI_m1, List.append_assoc, List.length_append, Nat.add_one_ne_zero, bi_abs, bi_lent, bi_max, bi_min, bi_int, bi_intb, bi_listt, bi_tupt, ty_non, ty_bl, ty_int, ty_str, ty_tup, tb1, tb2, tb3, tb4, tb5, tn1, tn2, tn3, tn4, tn5, tn6, isNon_non, isNon_tup, isNon_int, isNon_ref, items_t, items_r, Option.map_some, fw_nil_n, fw_cons_n, fw_nil_s, fw_cons_s, takeS_0, takeS_s, dropS_0, dropS_s, forOn_s, lcOn_s, R.bind_ok, R.bind_exc, R.bind_bad, R.on_ok, R.on_exc, R.on_bad, onBl_bl, ifB_bl, O.then_nx, O.turn_nx, O.turn_ct, O.turn_bk, O.turn_rt, O.turn_ex, O.then_rt, O.then_ex, O.then_bk, O.then_ct, O.then_bad, onPart_int, onPart_abs, List.getElem?_cons_zero, List.getElem?_cons_succ, List.set_cons_zero, List.set_cons_succ, List.length_cons, List.length_nil, List.map_cons, List.map_nil, List.cons_append, List.nil_append, List.replicate_succ, List.replicate_zero, Nat.reduceAdd, Nat.reduceSub, Nat.reduceEqDiff, Nat.reduceLT, Nat.reduceLeDiff, if_true, if_false, ite_true, ite_false, eq_self, eqop_int, neop_int, eqop_bl, neop_bl, Bool.not_true, Bool.not_false, Bool.true_eq_false, Bool.false_eq_true, Bool.or_true, Bool.or_false, Bool.true_or, Bool.false_or, Bool.and_true, Bool.and_false, reduceIte, reduceCtorEq, decide_true, decide_false, decide_eq_true_eq, Bool.not_eq_true', decide_eq_false_iff_not, Nat.zero_le, lim1, lim2, lim3, lim4, lim5, Int.reduceLE, Int.reduceLT, Int.reduceEq, Int.reduceNe, ne_eq, not_false_eq_true, not_true_eq_false, Int.reduceNeg, and_true, true_and, and_false, false_and, or_true, true_or, or_false, false_or, alloc_e, seen_s, seen_none,  fmp, p10_4, p10_6, p10_9, p10_12, p10_18, p10_20, p10_28, p10_30, p10_40, p10_44, p10_50, p10_57, p10_58, p10_59, p10_60, getV_R, ix_R0, ix_R1, ty_R, len_R, isNon_R, tupOp_R, callOn_R, items_R, consOp_R, R0n, R0d, R1n, R1d, onTup_R, eq_R, ne_R, R_eta, R_0, R_1, R_neg, R_den', R_den1, R_den0, m1, m2]
  rw [decide_eq_decide.mpr (Rat.lt_iff p q)]
end Q

namespace Q
open PySem MP
/-- a corner, a curve -/
abbrev Cn := Rat × Rat
def dC (c : Cn) : D := .tup [dR c.1, dR c.2]
theorem getV_C {L : Hd} {c : Cn} : getV (some (some (dC c))) L = .ok (dC c) L := rfl
theorem ix_C0 {L : Hd} {c : Cn} : ixop (dC c) (.int 0) L = .ok (dR c.1) L := rfl
theorem ix_C1 {L : Hd} {c : Cn} : ixop (dC c) (.int 1) L = .ok (dR c.2) L := rfl
theorem C_eta {a b : Rat} : D.tup [dR a, dR b] = dC (a, b) := rfl
theorem tupOp_C {L : Hd} {c : Cn} : tupOp (dC c) L = .ok (dC c) L := by
  show (if 2 ≤ LIM then R.ok (dC c) L else .bad) = _
  rw [if_pos (by decide)]
theorem callOn_C {Φ : Str → List D → Hd → R D} {f : Str} {L : Hd} {c : Cn} : callOn Φ f (dC c) L = Φ f [dR c.1, dR c.2] L := rfl
theorem consOp_C {x : D} {L : Hd} {c : Cn} : consOp x (dC c) L = .ok (.tup [x, dR c.1, dR c.2]) L := rfl
theorem ty_C {L : Hd} {c : Cn} {t : Ty} : tyop (dC c) t L = .ok (.bl (t == .tuple)) L := rfl
theorem len_C {L : Hd} {c : Cn} : biop .len [dC c] L = .ok (.int 2) L := rfl
theorem onTup_C {c : Cn} {f : List D → R D} : onTup (dC c) f = f [dR c.1, dR c.2] := rfl
def pC (c : Cn) : PyData := .tuple [pR c.1, pR c.2]
theorem dC_P {L : Hd} (c : Cn) : IsP L 3 (dC c) (pC c) := IsP.tup (.cons (dR_P _) (.cons (dR_P _) .nil))
theorem eqv_C (p q : Cn) : PyData.eqv (pC p) (pC q) = decide (p = q) := by
  unfold pC
  rw [eqv_tup, eqvAll_cons, eqvAll_cons, eqvAll_nil, eqv_R, eqv_R]
  obtain ⟨a, b⟩ := p
  obtain ⟨c, d⟩ := q
  by_cases h1 : a = c <;> by_cases h2 : b = d <;> simp [h1, h2]
theorem eq_C {L : Hd} (p q : Cn) : eqop (dC p) (dC q) L id = .ok (.bl (decide (p = q))) L := by
  rw [eqop_p (dC_P p) (dC_P q) (by decide) (by decide), eqv_C]
  rfl
/-- lists of corners alike -/
theorem eq_Cs {L : Hd} {n m : Nat} (xs ys : List Cn) (h1 : getL L n = some (xs.map dC)) (h2 : getL L m = some (ys.map dC)) (f : Bool → Bool) : eqop (.ref n) (.ref m) L f = .ok (.bl (f (decide (xs = ys)))) L := by
  rw [eqop_p (IsP.ref h1 (IsPs.map dC pC dC_P xs)) (IsP.ref h2 (IsPs.map dC pC dC_P ys)) (by decide) (by decide), eqv_list, eqvAll_map pC eqv_C]
/-- a curve: its corners, its last slope -/
def dF (cs : List Cn) (s : Rat) : D := .tup [.tup (cs.map dC), dR s]
theorem getV_F {L : Hd} {cs : List Cn} {s : Rat} : getV (some (some (dF cs s))) L = .ok (dF cs s) L := rfl
theorem ix_F0 {L : Hd} {cs : List Cn} {s : Rat} : ixop (dF cs s) (.int 0) L = .ok (.tup (cs.map dC)) L := rfl
theorem ix_F1 {L : Hd} {cs : List Cn} {s : Rat} : ixop (dF cs s) (.int 1) L = .ok (dR s) L := rfl
theorem ty_F {L : Hd} {cs : List Cn} {s : Rat} {t : Ty} : tyop (dF cs s) t L = .ok (.bl (t == .tuple)) L := rfl
theorem len_F {L : Hd} {cs : List Cn} {s : Rat} : biop .len [dF cs s] L = .ok (.int 2) L := rfl
/-- corners whose figures are small -/
def Cz (c : Cn) : Prop := Rb c.1 1600 ∧ Rb c.2 1600
def slope (c d : Cn) : Rat := (d.2 - c.2) / (d.1 - c.1)
theorem slope_Rb {c d : Cn} (hc : Cz c) (hd : Cz d) (h : d.1 - c.1 ≠ 0) : Rb (slope c d) 6402 := (hd.2.sub hc.2).quo (hd.1.sub hc.1) h
/-- times that rise -/
def Ups : Cn → List Cn → Prop
  | _, [] => True
  | c, d :: r => c.1 < d.1 ∧ Ups d r
/-- the slopes between the corners -/
def gaps : Cn → List Cn → List Rat
  | _, [] => []
  | c, d :: r => slope c d :: gaps d r
theorem gaps_len : ∀ (c : Cn) (r : List Cn), (gaps c r).length = r.length
  | _, [] => rfl
  | c, d :: r => by rw [gaps, List.length_cons, List.length_cons, gaps_len d r]
/-- the corners where it bends, by the slopes -/
def kept : List Rat → List Cn → List Cn
  | a :: b :: S, d :: r => if a = b then kept (b :: S) r else d :: kept (b :: S) r
  | _, _ => []
theorem kept_len : ∀ (S : List Rat) (r : List Cn), (kept S r).length ≤ r.length
  | a :: b :: S, d :: r => by
    have := kept_len (b :: S) r
    unfold kept
    split
    · rw [List.length_cons]; omega
    · rw [List.length_cons, List.length_cons]; omega
  | [], _ => Nat.zero_le _
  | [_], _ => Nat.zero_le _
  | _ :: _ :: _, [] => Nat.zero_le _
/-- the corners as the program keeps them -/
def foldC (c : Cn) (r : List Cn) (s : Rat) : List Cn := c :: kept (gaps c r ++ [s]) r
/-- a row, a list or a tuple, that stands below L -/
structure Sq (L : Hd) (X : D) (xs : List D) : Prop where
  gv : ∀ L', getV (some (some X)) L' = .ok X L'
  ix : ∀ (i : Int) (J : Hd), ixop X (.int i) (L ++ J) = atV (L2.atI xs i) (L ++ J)
  ln : ∀ J : Hd, biop .len [X] (L ++ J) = .ok (.int xs.length) (L ++ J)
theorem getL_mono {L J : Hd} {n : Nat} {xs : List D} (h : getL L n = some xs) : getL (L ++ J) n = some xs := by
  unfold getL at h ⊢
  have hn : n < L.length := by
    by_cases hn : n < L.length
    · exact hn
    · rw [List.getElem?_eq_none (by omega)] at h
      cases h
  rw [List.getElem?_append_left hn]
  exact h
theorem Sq.ref {L : Hd} {n : Nat} {xs : List D} (h : getL L n = some xs) : Sq L (.ref n) xs := ⟨fun _ => rfl, fun i J => by rw [ix_r', getL_mono h, onL_s], fun J => by rw [lr_len, getL_mono h, onL_s]⟩
theorem Sq.tup {L : Hd} {xs : List D} : Sq L (.tup xs) xs := ⟨fun _ => rfl, fun i J => ix_t', fun J => rfl⟩
theorem Sq.mono {L J : Hd} {X : D} {xs : List D} (h : Sq L X xs) : Sq (L ++ J) X xs := ⟨h.gv, fun i J' => by rw [List.append_assoc]; exact h.ix i _, fun J' => by rw [List.append_assoc]; exact h.ln _⟩
theorem atI_app {pre r : List D} {d : D} {k : Int} (h : k = pre.length) : L2.atI (pre ++ d :: r) k = some d := by
  subst h
  rw [atI_nat (by simp), List.getElem?_append_right (Nat.le_refl _), Nat.sub_self]
  rfl
end Q

namespace Q
open PySem MP
theorem r_slope_between (n : Nat) (c d : Cn) (L : Hd) (hc : Cz c) (hd : Cz d) (h : c.1 < d.1) : runT T (n + 4) "slope_between" [dC c, dC d] L = .ok (dR (slope c d)) L := by
  rw [runT_succ T_slope_between]
  unfold F_slope_between
  have s1 : Sz c.1 := hc.1.sz (by decide)
  have s2 : Sz c.2 := hc.2.sz (by decide)
  have s3 : Sz d.1 := hd.1.sz (by decide)
  have s4 : Sz d.2 := hd.2.sz (by decide)
  have s5 : Sz (d.1 - c.1) := (hd.1.sub hc.1).sz (by decide)
  have s6 : Sz (d.2 - c.2) := (hd.2.sub hc.2).sz (by decide)
  have h0 : d.1 - c.1 ≠ 0 := by grind
  have e := fun L => r_over n (d.2 - c.2) (d.1 - c.1) L s6 s5 h0
  simp only [getV_C, ix_C0, ix_C1, C_eta, tupOp_C, callOn_C, consOp_C, ty_C, len_C, onTup_C, eq_C, getV_F, ix_F0, ix_F1, ty_F, len_F, runF_mk, ofO_nx, ofO_rt, ofO_ex, x_non, x_bl, x_int, x_str, x_v, x_k, x_f, x_nil, x_absent, x_cons, x_tup, x_lst, x_bin, x_neg, x_not, x_and, x_or, x_cmp, x_isn, x_notn, x_ix, x_sl, x_call, x_callv, x_bi, x_isi, x_ise, x_me, x_lc, x_rng, x_rev, s_pass, s_seq, s_set, s_setix, s_aug, s_ex, s_ite, s_wh, s_for, s_ret, s_retn, s_brk, s_cnt, s_raise, s_tryN, s_tryA, consOp_t, tupOp_t, lstOp_t, negOp_i, onTup_t, callOn_t, getV_int, getV_bl, getV_str, getV_tup, getV_ref, getV_fn, getV_non, onFn_f, onExc_f, onInt_i, augNx_s, augop_a, augop_s, okOnly_ok, b_add, b_sub, b_mul, b_fdiv, b_mod, b_addt, c_lt, c_le, c_gt, c_ge, c_eq, c_ne, onL_s, onLo_s, onV_s, atV_s, lr_len, lr_list, lr_tuple, ix_t', ix_r', me_app, me_pop, me_rev, sl_r', sl_t', recv_app, recv_pop, recv_popAt, recv_clear, recv_rev, recv_ins, getL_at0, getL_at1, getL_at2, getL_at3, setL_at0, setL_at1, setL_at2, getL_0, getL_1, getL_2, getL_3, getL_4, setL_1, setL_2, setL_3, atI_0, atI_1, atI_2, atI_m1, List.append_assoc, List.length_append, Nat.add_one_ne_zero, bi_abs, bi_lent, bi_max, bi_min, bi_int, bi_intb, bi_listt, bi_tupt, ty_non, ty_bl, ty_int, ty_str, ty_tup, tb1, tb2, tb3, tb4, tb5, tn1, tn2, tn3, tn4, tn5, tn6, isNon_non, isNon_tup, isNon_int, isNon_ref, items_t, items_r, Option.map_some, fw_nil_n, fw_cons_n, fw_nil_s, fw_cons_s, takeS_0, takeS_s, dropS_0, dropS_s, forOn_s, lcOn_s, R.bind_ok, R.bind_exc, R.bind_bad, R.on_ok, R.on_exc, R.on_bad, onBl_bl, ifB_bl, O.then_nx, O.turn_nx, O.turn_ct, O.turn_bk, O.turn_rt, O.turn_ex, O.then_rt, O.then_ex, O.then_bk, O.then_ct, O.then_bad, onPart_int, onPart_abs, List.getElem?_cons_zero, List.getElem?_cons_succ, List.set_cons_zero, List.set_cons_succ, List.length_cons, List.length_nil, List.map_cons, List.map_nil, List.cons_append, List.nil_append, List.replicate_succ, List.replicate_zero, Nat.reduceAdd, Nat.reduceSub, Nat.reduceEqDiff, Nat.reduceLT, Nat.reduceLeDiff, if_true, if_false, ite_true, ite_false, eq_self, eqop_int, neop_int, eqop_bl, neop_bl, Bool.not_true, Bool.not_false, Bool.true_eq_false, Bool.false_eq_true, Bool.or_true, Bool.or_false, Bool.true_or, Bool.false_or, Bool.and_true, Bool.and_false, reduceIte, reduceCtorEq, decide_true, decide_false, decide_eq_true_eq, Bool.not_eq_true', decide_eq_false_iff_not, Nat.zero_le, lim1, lim2, lim3, lim4, lim5, Int.reduceLE, Int.reduceLT, Int.reduceEq, Int.reduceNe, ne_eq, not_false_eq_true, not_true_eq_false, Int.reduceNeg, and_true, true_and, and_false, false_and, or_true, true_or, or_false, false_or, alloc_e, seen_s, seen_none,  fmp, p10_4, p10_6, p10_9, p10_12, p10_18, p10_20, p10_28, p10_30, p10_40, p10_44, p10_50, p10_57, p10_58, p10_59, p10_60, getV_R, ix_R0, ix_R1, ty_R, len_R, isNon_R, tupOp_R, callOn_R, items_R, consOp_R, R0n, R0d, R1n, R1d, onTup_R, eq_R, ne_R, R_eta, R_0, R_1, R_neg, R_den', R_den1, R_den0, r_minus, s1, s2, s3, s4, e]
  rfl
theorem sl_loop (n : Nat) (L : Hd) (X : D) (cs : List Cn) (e1 : Option D) (all : List D) (hL : L.length ≠ 0) (h : Sq L X (cs.map dC)) (hz : ∀ x ∈ cs, Cz x) (hn : cs.length ≤ 1000) : ∀ (r pre : List Cn) (c : Cn) (acc : List Rat) (k : Int) (r3 : Option D), cs = pre ++ c :: r → k = pre.length + 1 → acc.length + r.length ≤ 1000 → Ups c r → ∃ r3', forW (runT T (n + 4)) 3 B_slopes_of_1 none all (steps k 1 r.length) [some X, e1, some (.ref L.length), r3] (L ++ [.lst (acc.map dR)]) = .nx [some X, e1, some (.ref L.length), r3'] (L ++ [.lst ((acc ++ gaps c r).map dR)])
  | [], pre, c, acc, k, r3, _, _, _, _ => ⟨r3, by simp only [List.length_nil, steps, runF_mk, ofO_nx, ofO_rt, ofO_ex, x_non, x_bl, x_int, x_str, x_v, x_k, x_f, x_nil, x_absent, x_cons, x_tup, x_lst, x_bin, x_neg, x_not, x_and, x_or, x_cmp, x_isn, x_notn, x_ix, x_sl, x_call, x_callv, x_bi, x_isi, x_ise, x_me, x_lc, x_rng, x_rev, s_pass, s_seq, s_set, s_setix, s_aug, s_ex, s_ite, s_wh, s_for, s_ret, s_retn, s_brk, s_cnt, s_raise, s_tryN, s_tryA, consOp_t, tupOp_t, lstOp_t, negOp_i, onTup_t, callOn_t, getV_int, getV_bl, getV_str, getV_tup, getV_ref, getV_fn, getV_non, onFn_f, onExc_f, onInt_i, augNx_s, augop_a, augop_s, okOnly_ok, b_add, b_sub, b_mul, b_fdiv, b_mod, b_addt, c_lt, c_le, c_gt, c_ge, c_eq, c_ne, onL_s, onLo_s, onV_s, atV_s, lr_len, lr_list, lr_tuple, ix_t', ix_r', me_app, me_pop, me_rev, sl_r', sl_t', recv_app, recv_pop, recv_popAt, recv_clear, recv_rev, recv_ins, getL_at0, getL_at1, getL_at2, getL_at3, setL_at0, setL_at1, setL_at2, getL_0, getL_1, getL_2, getL_3, getL_4, setL_1, setL_2, setL_3, atI_0, atI_1, atI_2, atI_m1, List.append_assoc, List.length_append, Nat.add_one_ne_zero, bi_abs, bi_lent, bi_max, bi_min, bi_int, bi_intb, bi_listt, bi_tupt, ty_non, ty_bl, ty_int, ty_str, ty_tup, tb1, tb2, tb3, tb4, tb5, tn1, tn2, tn3, tn4, tn5, tn6, isNon_non, isNon_tup, isNon_int, isNon_ref, items_t, items_r, Option.map_some, fw_nil_n, fw_cons_n, fw_nil_s, fw_cons_s, takeS_0, takeS_s, dropS_0, dropS_s, forOn_s, lcOn_s, R.bind_ok, R.bind_exc, R.bind_bad, R.on_ok, R.on_exc, R.on_bad, onBl_bl, ifB_bl, O.then_nx, O.turn_nx, O.turn_ct, O.turn_bk, O.turn_rt, O.turn_ex, O.then_rt, O.then_ex, O.then_bk, O.then_ct, O.then_bad, onPart_int, onPart_abs, List.getElem?_cons_zero, List.getElem?_cons_succ, List.set_cons_zero, List.set_cons_succ, List.length_cons, List.length_nil, List.map_cons, List.map_nil, List.cons_append, List.nil_append, List.replicate_succ, List.replicate_zero, Nat.reduceAdd, Nat.reduceSub, Nat.reduceEqDiff, Nat.reduceLT, Nat.reduceLeDiff, if_true, if_false, ite_true, ite_false, eq_self, eqop_int, neop_int, eqop_bl, neop_bl, Bool.not_true, Bool.not_false, Bool.true_eq_false, Bool.false_eq_true, Bool.or_true, Bool.or_false, Bool.true_or, Bool.false_or, Bool.and_true, Bool.and_false, reduceIte, reduceCtorEq, decide_true, decide_false, decide_eq_true_eq, Bool.not_eq_true', decide_eq_false_iff_not, Nat.zero_le, lim1, lim2, lim3, lim4, lim5, Int.reduceLE, Int.reduceLT, Int.reduceEq, Int.reduceNe, ne_eq, not_false_eq_true, not_true_eq_false, Int.reduceNeg, and_true, true_and, and_false, false_and, or_true, true_or, or_false, false_or, alloc_e, seen_s, seen_none,  fmp, p10_4, p10_6, p10_9, p10_12, p10_18, p10_20, p10_28, p10_30, p10_40, p10_44, p10_50, p10_57, p10_58, p10_59, p10_60, gaps, List.append_nil]⟩
  | d :: r, pre, c, acc, k, r3, hcs, hk, ha, hu => by
    obtain ⟨r3', ih⟩ := sl_loop n L X cs e1 all hL h hz hn r (pre ++ [c]) d (acc ++ [slope c d]) (k + 1) (some (.int k)) (by rw [hcs]; simp) (by simp; omega) (by simp at ha ⊢; omega) hu.2
    refine ⟨r3', ?_⟩
    have i1 : L2.atI (cs.map dC) (k - 1) = some (dC c) := by
      rw [hcs, List.map_append, List.map_cons]
      exact atI_app (by simp; omega)
    have i2 : L2.atI (cs.map dC) k = some (dC d) := by
      rw [hcs, show pre ++ c :: d :: r = (pre ++ [c]) ++ d :: r by simp, List.map_append, List.map_cons]
      exact atI_app (by simp; omega)
    have zc : Cz c := hz c (by rw [hcs]; simp)
    have zd : Cz d := hz d (by rw [hcs]; simp)
    have hsb := fun L => r_slope_between n c d L zc zd hu.1
    have hl : acc.length < LIM := by unfold LIM; simp at ha; omega
    simp only [List.length_cons, steps, getV_C, ix_C0, ix_C1, C_eta, tupOp_C, callOn_C, consOp_C, ty_C, len_C, onTup_C, eq_C, getV_F, ix_F0, ix_F1, ty_F, len_F, runF_mk, ofO_nx, ofO_rt, ofO_ex, x_non, x_bl, x_int, x_str, x_v, x_k, x_f, x_nil, x_absent, x_cons, x_tup, x_lst, x_bin, x_neg, x_not, x_and, x_or, x_cmp, x_isn, x_notn, x_ix, x_sl, x_call, x_callv, x_bi, x_isi, x_ise, x_me, x_lc, x_rng, x_rev, s_pass, s_seq, s_set, s_setix, s_aug, s_ex, s_ite, s_wh, s_for, s_ret, s_retn, s_brk, s_cnt, s_raise, s_tryN, s_tryA, consOp_t, tupOp_t, lstOp_t, negOp_i, onTup_t, callOn_t, getV_int, getV_bl, getV_str, getV_tup, getV_ref, getV_fn, getV_non, onFn_f, onExc_f, onInt_i, augNx_s, augop_a, augop_s, okOnly_ok, b_add, b_sub, b_mul, b_fdiv, b_mod, b_addt, c_lt, c_le, c_gt, c_ge, c_eq, c_ne, onL_s, onLo_s, onV_s, atV_s, lr_len, lr_list, lr_tuple, ix_t', ix_r', me_app, me_pop, me_rev, sl_r', sl_t', recv_app, recv_pop, recv_popAt, recv_clear, recv_rev, recv_ins, getL_at0, getL_at1, getL_at2, getL_at3, setL_at0, setL_at1, setL_at2, getL_0, getL_1, getL_2, getL_3, getL_4, setL_1, setL_2, setL_3, atI_0, atI_1, atI_2, atI_m1, List.append_assoc, List.length_append, Nat.add_one_ne_zero, bi_abs, bi_lent, bi_max, bi_min, bi_int, bi_intb, bi_listt, bi_tupt, ty_non, ty_bl, ty_int, ty_str, ty_tup, tb1, tb2, tb3, tb4, tb5, tn1, tn2, tn3, tn4, tn5, tn6, isNon_non, isNon_tup, isNon_int, isNon_ref, items_t, items_r, Option.map_some, fw_nil_n, fw_cons_n, fw_nil_s, fw_cons_s, takeS_0, takeS_s, dropS_0, dropS_s, forOn_s, lcOn_s, R.bind_ok, R.bind_exc, R.bind_bad, R.on_ok, R.on_exc, R.on_bad, onBl_bl, ifB_bl, O.then_nx, O.turn_nx, O.turn_ct, O.turn_bk, O.turn_rt, O.turn_ex, O.then_rt, O.then_ex, O.then_bk, O.then_ct, O.then_bad, onPart_int, onPart_abs, List.getElem?_cons_zero, List.getElem?_cons_succ, List.set_cons_zero, List.set_cons_succ, List.length_cons, List.length_nil, List.map_cons, List.map_nil, List.cons_append, List.nil_append, List.replicate_succ, List.replicate_zero, Nat.reduceAdd, Nat.reduceSub, Nat.reduceEqDiff, Nat.reduceLT, Nat.reduceLeDiff, if_true, if_false, ite_true, ite_false, eq_self, eqop_int, neop_int, eqop_bl, neop_bl, Bool.not_true, Bool.not_false, Bool.true_eq_false, Bool.false_eq_true, Bool.or_true, Bool.or_false, Bool.true_or, Bool.false_or, Bool.and_true, Bool.and_false, reduceIte, reduceCtorEq, decide_true, decide_false, decide_eq_true_eq, Bool.not_eq_true', decide_eq_false_iff_not, Nat.zero_le, lim1, lim2, lim3, lim4, lim5, Int.reduceLE, Int.reduceLT, Int.reduceEq, Int.reduceNe, ne_eq, not_false_eq_true, not_true_eq_false, Int.reduceNeg, and_true, true_and, and_false, false_and, or_true, true_or, or_false, false_or, alloc_e, seen_s, seen_none,  fmp, p10_4, p10_6, p10_9, p10_12, p10_18, p10_20, p10_28, p10_30, p10_40, p10_44, p10_50, p10_57, p10_58, p10_59, p10_60, getV_R, ix_R0, ix_R1, ty_R, len_R, isNon_R, tupOp_R, callOn_R, items_R, consOp_R, R0n, R0d, R1n, R1d, onTup_R, eq_R, ne_R, R_eta, R_0, R_1, R_neg, R_den', R_den1, R_den0, UB_slopes_of_1, h.gv, h.ix, i1, i2, hsb, hL, List.length_map, hl]
    rw [List.map_append] at ih
    simp only [gaps, List.map_append, List.map_cons, List.map_nil, List.append_assoc, List.cons_append, List.nil_append] at ih ⊢
    exact ih
theorem rng1 (m : Nat) (hm : m ≤ 1000) (L : Hd) : rngop [.int 1, .int ((m + 1 : Nat) : Int)] L = .ok (.tup (steps 1 1 m)) L := by
  have e : rngop [.int 1, .int ((m + 1 : Nat) : Int)] L = if small 1 ∧ small ((m + 1 : Nat) : Int) then .ok (.tup (steps 1 1 (((m + 1 : Nat) : Int) - 1).toNat)) L else .bad := rfl
  rw [e, if_pos ⟨by unfold small; decide, by unfold small; omega⟩]
  congr 3
  omega
theorem r_slopes_of (n : Nat) (L : Hd) (X : D) (c : Cn) (r : List Cn) (s : Rat) (hL : L.length ≠ 0) (h : Sq L X ((c :: r).map dC)) (hz : ∀ x ∈ c :: r, Cz x) (hn : r.length ≤ 900) (hu : Ups c r) : runT T (n + 5) "slopes_of" [X, dR s] L = .ok (.ref L.length) (L ++ [.lst ((gaps c r ++ [s]).map dR)]) := by
  rw [runT_succ T_slopes_of]
  obtain ⟨r3, hl⟩ := sl_loop n L X (c :: r) (some (dR s)) (steps 1 1 r.length) hL h hz (by simp; omega) r [] c [] 1 none rfl rfl (by simp; omega) hu
  rw [List.map_nil, List.nil_append] at hl
  have hlen : (gaps c r).length < LIM := by rw [gaps_len]; unfold LIM; omega
  have hln := h.ln
  rw [List.length_map, List.length_cons] at hln
  have hr := rng1 r.length (by omega)
  unfold F_slopes_of
  simp only [getV_C, ix_C0, ix_C1, C_eta, tupOp_C, callOn_C, consOp_C, ty_C, len_C, onTup_C, eq_C, getV_F, ix_F0, ix_F1, ty_F, len_F, runF_mk, ofO_nx, ofO_rt, ofO_ex, x_non, x_bl, x_int, x_str, x_v, x_k, x_f, x_nil, x_absent, x_cons, x_tup, x_lst, x_bin, x_neg, x_not, x_and, x_or, x_cmp, x_isn, x_notn, x_ix, x_sl, x_call, x_callv, x_bi, x_isi, x_ise, x_me, x_lc, x_rng, x_rev, s_pass, s_seq, s_set, s_setix, s_aug, s_ex, s_ite, s_wh, s_for, s_ret, s_retn, s_brk, s_cnt, s_raise, s_tryN, s_tryA, consOp_t, tupOp_t, lstOp_t, negOp_i, onTup_t, callOn_t, getV_int, getV_bl, getV_str, getV_tup, getV_ref, getV_fn, getV_non, onFn_f, onExc_f, onInt_i, augNx_s, augop_a, augop_s, okOnly_ok, b_add, b_sub, b_mul, b_fdiv, b_mod, b_addt, c_lt, c_le, c_gt, c_ge, c_eq, c_ne, onL_s, onLo_s, onV_s, atV_s, lr_len, lr_list, lr_tuple, ix_t', ix_r', me_app, me_pop, me_rev, sl_r', sl_t', recv_app, recv_pop, recv_popAt, recv_clear, recv_rev, recv_ins, getL_at0, getL_at1, getL_at2, getL_at3, setL_at0, setL_at1, setL_at2, getL_0, getL_1, getL_2, getL_3, getL_4, setL_1, setL_2, setL_3, atI_0, atI_1, atI_2, atI_m1, List.append_assoc, List.length_append, Nat.add_one_ne_zero, bi_abs, bi_lent, bi_max, bi_min, bi_int, bi_intb, bi_listt, bi_tupt, ty_non, ty_bl, ty_int, ty_str, ty_tup, tb1, tb2, tb3, tb4, tb5, tn1, tn2, tn3, tn4, tn5, tn6, isNon_non, isNon_tup, isNon_int, isNon_ref, items_t, items_r, Option.map_some, fw_nil_n, fw_cons_n, fw_nil_s, fw_cons_s, takeS_0, takeS_s, dropS_0, dropS_s, forOn_s, lcOn_s, R.bind_ok, R.bind_exc, R.bind_bad, R.on_ok, R.on_exc, R.on_bad, onBl_bl, ifB_bl, O.then_nx, O.turn_nx, O.turn_ct, O.turn_bk, O.turn_rt, O.turn_ex, O.then_rt, O.then_ex, O.then_bk, O.then_ct, O.then_bad, onPart_int, onPart_abs, List.getElem?_cons_zero, List.getElem?_cons_succ, List.set_cons_zero, List.set_cons_succ, List.length_cons, List.length_nil, List.map_cons, List.map_nil, List.cons_append, List.nil_append, List.replicate_succ, List.replicate_zero, Nat.reduceAdd, Nat.reduceSub, Nat.reduceEqDiff, Nat.reduceLT, Nat.reduceLeDiff, if_true, if_false, ite_true, ite_false, eq_self, eqop_int, neop_int, eqop_bl, neop_bl, Bool.not_true, Bool.not_false, Bool.true_eq_false, Bool.false_eq_true, Bool.or_true, Bool.or_false, Bool.true_or, Bool.false_or, Bool.and_true, Bool.and_false, reduceIte, reduceCtorEq, decide_true, decide_false, decide_eq_true_eq, Bool.not_eq_true', decide_eq_false_iff_not, Nat.zero_le, lim1, lim2, lim3, lim4, lim5, Int.reduceLE, Int.reduceLT, Int.reduceEq, Int.reduceNe, ne_eq, not_false_eq_true, not_true_eq_false, Int.reduceNeg, and_true, true_and, and_false, false_and, or_true, true_or, or_false, false_or, alloc_e, seen_s, seen_none,  fmp, p10_4, p10_6, p10_9, p10_12, p10_18, p10_20, p10_28, p10_30, p10_40, p10_44, p10_50, p10_57, p10_58, p10_59, p10_60, getV_R, ix_R0, ix_R1, ty_R, len_R, isNon_R, tupOp_R, callOn_R, items_R, consOp_R, R0n, R0d, R1n, R1d, onTup_R, eq_R, ne_R, R_eta, R_0, R_1, R_neg, R_den', R_den1, R_den0, h.gv, hln, hr, hl, hL, List.length_map, hlen, List.map_append]
theorem fo_loop (n : Nat) (L : Hd) (X : D) (cs : List Cn) (S : List Rat) (e1 : Option D) (all : List D) (hL : L.length ≠ 0) (h : Sq L X (cs.map dC)) (hn : cs.length ≤ 1000) : ∀ (r pre : List Cn) (a : Rat) (S' Sp : List Rat) (acc : List Cn) (k : Int) (r4 : Option D), cs = pre ++ r → S = Sp ++ a :: S' → S'.length = r.length → k = pre.length → k = Sp.length + 1 → acc.length + r.length ≤ 1000 → ∃ r4', forW (runT T n) 4 B_folded_1 none all (steps k 1 r.length) [some X, e1, some (.ref L.length), some (.ref (L.length + 1)), r4] (L ++ [.lst (S.map dR), .lst (acc.map dC)]) = .nx [some X, e1, some (.ref L.length), some (.ref (L.length + 1)), r4'] (L ++ [.lst (S.map dR), .lst ((acc ++ kept (a :: S') r).map dC)])
  | [], pre, a, S', Sp, acc, k, r4, _, _, _, _, _, _ => ⟨r4, by simp only [List.length_nil, steps, runF_mk, ofO_nx, ofO_rt, ofO_ex, x_non, x_bl, x_int, x_str, x_v, x_k, x_f, x_nil, x_absent, x_cons, x_tup, x_lst, x_bin, x_neg, x_not, x_and, x_or, x_cmp, x_isn, x_notn, x_ix, x_sl, x_call, x_callv, x_bi, x_isi, x_ise, x_me, x_lc, x_rng, x_rev, s_pass, s_seq, s_set, s_setix, s_aug, s_ex, s_ite, s_wh, s_for, s_ret, s_retn, s_brk, s_cnt, s_raise, s_tryN, s_tryA, consOp_t, tupOp_t, lstOp_t, negOp_i, onTup_t, callOn_t, getV_int, getV_bl, getV_str, getV_tup, getV_ref, getV_fn, getV_non, onFn_f, onExc_f, onInt_i, augNx_s, augop_a, augop_s, okOnly_ok, b_add, b_sub, b_mul, b_fdiv, b_mod, b_addt, c_lt, c_le, c_gt, c_ge, c_eq, c_ne, onL_s, onLo_s, onV_s, atV_s, lr_len, lr_list, lr_tuple, ix_t', ix_r', me_app, me_pop, me_rev, sl_r', sl_t', recv_app, recv_pop, recv_popAt, recv_clear, recv_rev, recv_ins, getL_at0, getL_at1, getL_at2, getL_at3, setL_at0, setL_at1, setL_at2, getL_0, getL_1, getL_2, getL_3, getL_4, setL_1, setL_2, setL_3, atI_0, atI_1, atI_2, atI_m1, List.append_assoc, List.length_append, Nat.add_one_ne_zero, bi_abs, bi_lent, bi_max, bi_min, bi_int, bi_intb, bi_listt, bi_tupt, ty_non, ty_bl, ty_int, ty_str, ty_tup, tb1, tb2, tb3, tb4, tb5, tn1, tn2, tn3, tn4, tn5, tn6, isNon_non, isNon_tup, isNon_int, isNon_ref, items_t, items_r, Option.map_some, fw_nil_n, fw_cons_n, fw_nil_s, fw_cons_s, takeS_0, takeS_s, dropS_0, dropS_s, forOn_s, lcOn_s, R.bind_ok, R.bind_exc, R.bind_bad, R.on_ok, R.on_exc, R.on_bad, onBl_bl, ifB_bl, O.then_nx, O.turn_nx, O.turn_ct, O.turn_bk, O.turn_rt, O.turn_ex, O.then_rt, O.then_ex, O.then_bk, O.then_ct, O.then_bad, onPart_int, onPart_abs, List.getElem?_cons_zero, List.getElem?_cons_succ, List.set_cons_zero, List.set_cons_succ, List.length_cons, List.length_nil, List.map_cons, List.map_nil, List.cons_append, List.nil_append, List.replicate_succ, List.replicate_zero, Nat.reduceAdd, Nat.reduceSub, Nat.reduceEqDiff, Nat.reduceLT, Nat.reduceLeDiff, if_true, if_false, ite_true, ite_false, eq_self, eqop_int, neop_int, eqop_bl, neop_bl, Bool.not_true, Bool.not_false, Bool.true_eq_false, Bool.false_eq_true, Bool.or_true, Bool.or_false, Bool.true_or, Bool.false_or, Bool.and_true, Bool.and_false, reduceIte, reduceCtorEq, decide_true, decide_false, decide_eq_true_eq, Bool.not_eq_true', decide_eq_false_iff_not, Nat.zero_le, lim1, lim2, lim3, lim4, lim5, Int.reduceLE, Int.reduceLT, Int.reduceEq, Int.reduceNe, ne_eq, not_false_eq_true, not_true_eq_false, Int.reduceNeg, and_true, true_and, and_false, false_and, or_true, true_or, or_false, false_or, alloc_e, seen_s, seen_none,  fmp, p10_4, p10_6, p10_9, p10_12, p10_18, p10_20, p10_28, p10_30, p10_40, p10_44, p10_50, p10_57, p10_58, p10_59, p10_60]; rw [show kept (a :: S') [] = [] by cases S' <;> simp [kept], List.append_nil]⟩
  | d :: r, pre, a, [], Sp, acc, k, r4, _, _, hl, _, _, _ => absurd hl (by simp)
  | d :: r, pre, a, b :: S', Sp, acc, k, r4, hcs, hS, hl, hk, hk2, ha => by
    have i1 : L2.atI (S.map dR) (k - 1) = some (dR a) := by
      rw [hS, List.map_append, List.map_cons]
      exact atI_app (by simp; omega)
    have i2 : L2.atI (S.map dR) k = some (dR b) := by
      rw [hS, show Sp ++ a :: b :: S' = (Sp ++ [a]) ++ b :: S' by simp, List.map_append, List.map_cons]
      exact atI_app (by simp; omega)
    have i3 : L2.atI (cs.map dC) k = some (dC d) := by
      rw [hcs, List.map_append, List.map_cons]
      exact atI_app (by simp; omega)
    have hal : acc.length < LIM := by unfold LIM; simp at ha; omega
    by_cases hab : a = b
    · subst hab
      obtain ⟨r4', ih⟩ := fo_loop n L X cs S e1 all hL h hn r (pre ++ [d]) a S' (Sp ++ [a]) acc (k + 1) (some (.int k)) (by rw [hcs]; simp) (by rw [hS]; simp) (by simpa using hl) (by simp; omega) (by simp; omega) (by simp at ha; omega)
      refine ⟨r4', ?_⟩
      have e : kept (a :: a :: S') (d :: r) = kept (a :: S') r := by
        rw [kept, if_pos rfl]
      simp only [List.length_cons, steps, getV_C, ix_C0, ix_C1, C_eta, tupOp_C, callOn_C, consOp_C, ty_C, len_C, onTup_C, eq_C, getV_F, ix_F0, ix_F1, ty_F, len_F, runF_mk, ofO_nx, ofO_rt, ofO_ex, x_non, x_bl, x_int, x_str, x_v, x_k, x_f, x_nil, x_absent, x_cons, x_tup, x_lst, x_bin, x_neg, x_not, x_and, x_or, x_cmp, x_isn, x_notn, x_ix, x_sl, x_call, x_callv, x_bi, x_isi, x_ise, x_me, x_lc, x_rng, x_rev, s_pass, s_seq, s_set, s_setix, s_aug, s_ex, s_ite, s_wh, s_for, s_ret, s_retn, s_brk, s_cnt, s_raise, s_tryN, s_tryA, consOp_t, tupOp_t, lstOp_t, negOp_i, onTup_t, callOn_t, getV_int, getV_bl, getV_str, getV_tup, getV_ref, getV_fn, getV_non, onFn_f, onExc_f, onInt_i, augNx_s, augop_a, augop_s, okOnly_ok, b_add, b_sub, b_mul, b_fdiv, b_mod, b_addt, c_lt, c_le, c_gt, c_ge, c_eq, c_ne, onL_s, onLo_s, onV_s, atV_s, lr_len, lr_list, lr_tuple, ix_t', ix_r', me_app, me_pop, me_rev, sl_r', sl_t', recv_app, recv_pop, recv_popAt, recv_clear, recv_rev, recv_ins, getL_at0, getL_at1, getL_at2, getL_at3, setL_at0, setL_at1, setL_at2, getL_0, getL_1, getL_2, getL_3, getL_4, setL_1, setL_2, setL_3, atI_0, atI_1, atI_2, atI_m1, List.append_assoc, List.length_append, Nat.add_one_ne_zero, bi_abs, bi_lent, bi_max, bi_min, bi_int, bi_intb, bi_listt, bi_tupt, ty_non, ty_bl, ty_int, ty_str, ty_tup, tb1, tb2, tb3, tb4, tb5, tn1, tn2, tn3, tn4, tn5, tn6, isNon_non, isNon_tup, isNon_int, isNon_ref, items_t, items_r, Option.map_some, fw_nil_n, fw_cons_n, fw_nil_s, fw_cons_s, takeS_0, takeS_s, dropS_0, dropS_s, forOn_s, lcOn_s, R.bind_ok, R.bind_exc, R.bind_bad, R.on_ok, R.on_exc, R.on_bad, onBl_bl, ifB_bl, O.then_nx, O.turn_nx, O.turn_ct, O.turn_bk, O.turn_rt, O.turn_ex, O.then_rt, O.then_ex, O.then_bk, O.then_ct, O.then_bad, onPart_int, onPart_abs, List.getElem?_cons_zero, List.getElem?_cons_succ, List.set_cons_zero, List.set_cons_succ, List.length_cons, List.length_nil, List.map_cons, List.map_nil, List.cons_append, List.nil_append, List.replicate_succ, List.replicate_zero, Nat.reduceAdd, Nat.reduceSub, Nat.reduceEqDiff, Nat.reduceLT, Nat.reduceLeDiff, if_true, if_false, ite_true, ite_false, eq_self, eqop_int, neop_int, eqop_bl, neop_bl, Bool.not_true, Bool.not_false, Bool.true_eq_false, Bool.false_eq_true, Bool.or_true, Bool.or_false, Bool.true_or, Bool.false_or, Bool.and_true, Bool.and_false, reduceIte, reduceCtorEq, decide_true, decide_false, decide_eq_true_eq, Bool.not_eq_true', decide_eq_false_iff_not, Nat.zero_le, lim1, lim2, lim3, lim4, lim5, Int.reduceLE, Int.reduceLT, Int.reduceEq, Int.reduceNe, ne_eq, not_false_eq_true, not_true_eq_false, Int.reduceNeg, and_true, true_and, and_false, false_and, or_true, true_or, or_false, false_or, alloc_e, seen_s, seen_none,  fmp, p10_4, p10_6, p10_9, p10_12, p10_18, p10_20, p10_28, p10_30, p10_40, p10_44, p10_50, p10_57, p10_58, p10_59, p10_60, getV_R, ix_R0, ix_R1, ty_R, len_R, isNon_R, tupOp_R, callOn_R, items_R, consOp_R, R0n, R0d, R1n, R1d, onTup_R, eq_R, ne_R, R_eta, R_0, R_1, R_neg, R_den', R_den1, R_den0, UB_folded_1, h.gv, i1, i2, e]
      exact ih
    · obtain ⟨r4', ih⟩ := fo_loop n L X cs S e1 all hL h hn r (pre ++ [d]) b S' (Sp ++ [a]) (acc ++ [d]) (k + 1) (some (.int k)) (by rw [hcs]; simp) (by rw [hS]; simp) (by simpa using hl) (by simp; omega) (by simp; omega) (by simp at ha ⊢; omega)
      refine ⟨r4', ?_⟩
      have e : kept (a :: b :: S') (d :: r) = d :: kept (b :: S') r := by
        rw [kept, if_neg hab]
      have hix := h.ix k [.lst (S.map dR), .lst (acc.map dC)]
      simp only [List.length_cons, steps, getV_C, ix_C0, ix_C1, C_eta, tupOp_C, callOn_C, consOp_C, ty_C, len_C, onTup_C, eq_C, getV_F, ix_F0, ix_F1, ty_F, len_F, runF_mk, ofO_nx, ofO_rt, ofO_ex, x_non, x_bl, x_int, x_str, x_v, x_k, x_f, x_nil, x_absent, x_cons, x_tup, x_lst, x_bin, x_neg, x_not, x_and, x_or, x_cmp, x_isn, x_notn, x_ix, x_sl, x_call, x_callv, x_bi, x_isi, x_ise, x_me, x_lc, x_rng, x_rev, s_pass, s_seq, s_set, s_setix, s_aug, s_ex, s_ite, s_wh, s_for, s_ret, s_retn, s_brk, s_cnt, s_raise, s_tryN, s_tryA, consOp_t, tupOp_t, lstOp_t, negOp_i, onTup_t, callOn_t, getV_int, getV_bl, getV_str, getV_tup, getV_ref, getV_fn, getV_non, onFn_f, onExc_f, onInt_i, augNx_s, augop_a, augop_s, okOnly_ok, b_add, b_sub, b_mul, b_fdiv, b_mod, b_addt, c_lt, c_le, c_gt, c_ge, c_eq, c_ne, onL_s, onLo_s, onV_s, atV_s, lr_len, lr_list, lr_tuple, ix_t', ix_r', me_app, me_pop, me_rev, sl_r', sl_t', recv_app, recv_pop, recv_popAt, recv_clear, recv_rev, recv_ins, getL_at0, getL_at1, getL_at2, getL_at3, setL_at0, setL_at1, setL_at2, getL_0, getL_1, getL_2, getL_3, getL_4, setL_1, setL_2, setL_3, atI_0, atI_1, atI_2, atI_m1, List.append_assoc, List.length_append, Nat.add_one_ne_zero, bi_abs, bi_lent, bi_max, bi_min, bi_int, bi_intb, bi_listt, bi_tupt, ty_non, ty_bl, ty_int, ty_str, ty_tup, tb1, tb2, tb3, tb4, tb5, tn1, tn2, tn3, tn4, tn5, tn6, isNon_non, isNon_tup, isNon_int, isNon_ref, items_t, items_r, Option.map_some, fw_nil_n, fw_cons_n, fw_nil_s, fw_cons_s, takeS_0, takeS_s, dropS_0, dropS_s, forOn_s, lcOn_s, R.bind_ok, R.bind_exc, R.bind_bad, R.on_ok, R.on_exc, R.on_bad, onBl_bl, ifB_bl, O.then_nx, O.turn_nx, O.turn_ct, O.turn_bk, O.turn_rt, O.turn_ex, O.then_rt, O.then_ex, O.then_bk, O.then_ct, O.then_bad, onPart_int, onPart_abs, List.getElem?_cons_zero, List.getElem?_cons_succ, List.set_cons_zero, List.set_cons_succ, List.length_cons, List.length_nil, List.map_cons, List.map_nil, List.cons_append, List.nil_append, List.replicate_succ, List.replicate_zero, Nat.reduceAdd, Nat.reduceSub, Nat.reduceEqDiff, Nat.reduceLT, Nat.reduceLeDiff, if_true, if_false, ite_true, ite_false, eq_self, eqop_int, neop_int, eqop_bl, neop_bl, Bool.not_true, Bool.not_false, Bool.true_eq_false, Bool.false_eq_true, Bool.or_true, Bool.or_false, Bool.true_or, Bool.false_or, Bool.and_true, Bool.and_false, reduceIte, reduceCtorEq, decide_true, decide_false, decide_eq_true_eq, Bool.not_eq_true', decide_eq_false_iff_not, Nat.zero_le, lim1, lim2, lim3, lim4, lim5, Int.reduceLE, Int.reduceLT, Int.reduceEq, Int.reduceNe, ne_eq, not_false_eq_true, not_true_eq_false, Int.reduceNeg, and_true, true_and, and_false, false_and, or_true, true_or, or_false, false_or, alloc_e, seen_s, seen_none,  fmp, p10_4, p10_6, p10_9, p10_12, p10_18, p10_20, p10_28, p10_30, p10_40, p10_44, p10_50, p10_57, p10_58, p10_59, p10_60, getV_R, ix_R0, ix_R1, ty_R, len_R, isNon_R, tupOp_R, callOn_R, items_R, consOp_R, R0n, R0d, R1n, R1d, onTup_R, eq_R, ne_R, R_eta, R_0, R_1, R_neg, R_den', R_den1, R_den0, UB_folded_1, h.gv, hix, i1, i2, i3, hab, e, hL, List.length_map, hal, setL_at1]
      rw [List.map_append] at ih
      simp only [List.map_append, List.map_cons, List.map_nil, List.append_assoc, List.cons_append, List.nil_append] at ih ⊢
      exact ih
theorem r_folded (n : Nat) (L : Hd) (X : D) (c : Cn) (r : List Cn) (s : Rat) (hL : L.length ≠ 0) (h : Sq L X ((c :: r).map dC)) (hz : ∀ x ∈ c :: r, Cz x) (hn : r.length ≤ 900) (hu : Ups c r) : runT T (n + 6) "folded" [X, dR s] L = .ok (.ref (L.length + 1)) (L ++ [.lst ((gaps c r ++ [s]).map dR), .lst ((foldC c r s).map dC)]) := by
  rw [runT_succ T_folded]
  have hsl := r_slopes_of n L X c r s hL h hz hn hu
  have hln := h.ln
  rw [List.length_map, List.length_cons] at hln
  have hr := rng1 r.length (by omega)
  have i0 : L2.atI ((c :: r).map dC) 0 = some (dC c) := by rw [List.map_cons]; exact atI_0
  obtain ⟨a, S', hS⟩ : ∃ a S', gaps c r ++ [s] = a :: S' := by
    cases hg : gaps c r with
    | nil => exact ⟨s, [], rfl⟩
    | cons x y => exact ⟨x, y ++ [s], rfl⟩
  have hSl : S'.length = r.length := by
    have := congrArg List.length hS
    simp only [List.length_append, List.length_cons, List.length_nil, gaps_len] at this
    omega
  obtain ⟨r4, hl⟩ := fo_loop (n + 5) L X (c :: r) (gaps c r ++ [s]) (some (dR s)) (steps 1 1 r.length) hL h (by simp; omega) r [c] a S' [] [c] 1 none rfl (by rw [hS]; rfl) hSl rfl rfl (by simp; omega)
  rw [List.map_cons, List.map_nil] at hl
  unfold F_folded
  simp only [getV_C, ix_C0, ix_C1, C_eta, tupOp_C, callOn_C, consOp_C, ty_C, len_C, onTup_C, eq_C, getV_F, ix_F0, ix_F1, ty_F, len_F, runF_mk, ofO_nx, ofO_rt, ofO_ex, x_non, x_bl, x_int, x_str, x_v, x_k, x_f, x_nil, x_absent, x_cons, x_tup, x_lst, x_bin, x_neg, x_not, x_and, x_or, x_cmp, x_isn, x_notn, x_ix, x_sl, x_call, x_callv, x_bi, x_isi, x_ise, x_me, x_lc, x_rng, x_rev, s_pass, s_seq, s_set, s_setix, s_aug, s_ex, s_ite, s_wh, s_for, s_ret, s_retn, s_brk, s_cnt, s_raise, s_tryN, s_tryA, consOp_t, tupOp_t, lstOp_t, negOp_i, onTup_t, callOn_t, getV_int, getV_bl, getV_str, getV_tup, getV_ref, getV_fn, getV_non, onFn_f, onExc_f, onInt_i, augNx_s, augop_a, augop_s, okOnly_ok, b_add, b_sub, b_mul, b_fdiv, b_mod, b_addt, c_lt, c_le, c_gt, c_ge, c_eq, c_ne, onL_s, onLo_s, onV_s, atV_s, lr_len, lr_list, lr_tuple, ix_t', ix_r', me_app, me_pop, me_rev, sl_r', sl_t', recv_app, recv_pop, recv_popAt, recv_clear, recv_rev, recv_ins, getL_at0, getL_at1, getL_at2, getL_at3, setL_at0, setL_at1, setL_at2, getL_0, getL_1, getL_2, getL_3, getL_4, setL_1, setL_2, setL_3, atI_0, atI_1, atI_2, atI_m1, List.append_assoc, List.length_append, Nat.add_one_ne_zero, bi_abs, bi_lent, bi_max, bi_min, bi_int, bi_intb, bi_listt, bi_tupt, ty_non, ty_bl, ty_int, ty_str, ty_tup, tb1, tb2, tb3, tb4, tb5, tn1, tn2, tn3, tn4, tn5, tn6, isNon_non, isNon_tup, isNon_int, isNon_ref, items_t, items_r, Option.map_some, fw_nil_n, fw_cons_n, fw_nil_s, fw_cons_s, takeS_0, takeS_s, dropS_0, dropS_s, forOn_s, lcOn_s, R.bind_ok, R.bind_exc, R.bind_bad, R.on_ok, R.on_exc, R.on_bad, onBl_bl, ifB_bl, O.then_nx, O.turn_nx, O.turn_ct, O.turn_bk, O.turn_rt, O.turn_ex, O.then_rt, O.then_ex, O.then_bk, O.then_ct, O.then_bad, onPart_int, onPart_abs, List.getElem?_cons_zero, List.getElem?_cons_succ, List.set_cons_zero, List.set_cons_succ, List.length_cons, List.length_nil, List.map_cons, List.map_nil, List.cons_append, List.nil_append, List.replicate_succ, List.replicate_zero, Nat.reduceAdd, Nat.reduceSub, Nat.reduceEqDiff, Nat.reduceLT, Nat.reduceLeDiff, if_true, if_false, ite_true, ite_false, eq_self, eqop_int, neop_int, eqop_bl, neop_bl, Bool.not_true, Bool.not_false, Bool.true_eq_false, Bool.false_eq_true, Bool.or_true, Bool.or_false, Bool.true_or, Bool.false_or, Bool.and_true, Bool.and_false, reduceIte, reduceCtorEq, decide_true, decide_false, decide_eq_true_eq, Bool.not_eq_true', decide_eq_false_iff_not, Nat.zero_le, lim1, lim2, lim3, lim4, lim5, Int.reduceLE, Int.reduceLT, Int.reduceEq, Int.reduceNe, ne_eq, not_false_eq_true, not_true_eq_false, Int.reduceNeg, and_true, true_and, and_false, false_and, or_true, true_or, or_false, false_or, alloc_e, seen_s, seen_none,  fmp, p10_4, p10_6, p10_9, p10_12, p10_18, p10_20, p10_28, p10_30, p10_40, p10_44, p10_50, p10_57, p10_58, p10_59, p10_60, getV_R, ix_R0, ix_R1, ty_R, len_R, isNon_R, tupOp_R, callOn_R, items_R, consOp_R, R0n, R0d, R1n, R1d, onTup_R, eq_R, ne_R, R_eta, R_0, R_1, R_neg, R_den', R_den1, R_den0, h.gv, h.ix, hsl, i0, hln, hr, hl]
  rw [← hS]
  rfl
theorem r_made (n : Nat) (L : Hd) (X : D) (c : Cn) (r : List Cn) (s : Rat) (hL : L.length ≠ 0) (h : Sq L X ((c :: r).map dC)) (hz : ∀ x ∈ c :: r, Cz x) (hn : r.length ≤ 900) (hu : Ups c r) : runT T (n + 7) "made" [X, dR s] L = .ok (dF (foldC c r s) s) (L ++ [.lst ((gaps c r ++ [s]).map dR), .lst ((foldC c r s).map dC)]) := by
  rw [runT_succ T_made]
  have hf := r_folded n L X c r s hL h hz hn hu
  unfold F_made
  simp only [getV_C, ix_C0, ix_C1, C_eta, tupOp_C, callOn_C, consOp_C, ty_C, len_C, onTup_C, eq_C, getV_F, ix_F0, ix_F1, ty_F, len_F, runF_mk, ofO_nx, ofO_rt, ofO_ex, x_non, x_bl, x_int, x_str, x_v, x_k, x_f, x_nil, x_absent, x_cons, x_tup, x_lst, x_bin, x_neg, x_not, x_and, x_or, x_cmp, x_isn, x_notn, x_ix, x_sl, x_call, x_callv, x_bi, x_isi, x_ise, x_me, x_lc, x_rng, x_rev, s_pass, s_seq, s_set, s_setix, s_aug, s_ex, s_ite, s_wh, s_for, s_ret, s_retn, s_brk, s_cnt, s_raise, s_tryN, s_tryA, consOp_t, tupOp_t, lstOp_t, negOp_i, onTup_t, callOn_t, getV_int, getV_bl, getV_str, getV_tup, getV_ref, getV_fn, getV_non, onFn_f, onExc_f, onInt_i, augNx_s, augop_a, augop_s, okOnly_ok, b_add, b_sub, b_mul, b_fdiv, b_mod, b_addt, c_lt, c_le, c_gt, c_ge, c_eq, c_ne, onL_s, onLo_s, onV_s, atV_s, lr_len, lr_list, lr_tuple, ix_t', ix_r', me_app, me_pop, me_rev, sl_r', sl_t', recv_app, recv_pop, recv_popAt, recv_clear, recv_rev, recv_ins, getL_at0, getL_at1, getL_at2, getL_at3, setL_at0, setL_at1, setL_at2, getL_0, getL_1, getL_2, getL_3, getL_4, setL_1, setL_2, setL_3, atI_0, atI_1, atI_2, atI_m1, List.append_assoc, List.length_append, Nat.add_one_ne_zero, bi_abs, bi_lent, bi_max, bi_min, bi_int, bi_intb, bi_listt, bi_tupt, ty_non, ty_bl, ty_int, ty_str, ty_tup, tb1, tb2, tb3, tb4, tb5, tn1, tn2, tn3, tn4, tn5, tn6, isNon_non, isNon_tup, isNon_int, isNon_ref, items_t, items_r, Option.map_some, fw_nil_n, fw_cons_n, fw_nil_s, fw_cons_s, takeS_0, takeS_s, dropS_0, dropS_s, forOn_s, lcOn_s, R.bind_ok, R.bind_exc, R.bind_bad, R.on_ok, R.on_exc, R.on_bad, onBl_bl, ifB_bl, O.then_nx, O.turn_nx, O.turn_ct, O.turn_bk, O.turn_rt, O.turn_ex, O.then_rt, O.then_ex, O.then_bk, O.then_ct, O.then_bad, onPart_int, onPart_abs, List.getElem?_cons_zero, List.getElem?_cons_succ, List.set_cons_zero, List.set_cons_succ, List.length_cons, List.length_nil, List.map_cons, List.map_nil, List.cons_append, List.nil_append, List.replicate_succ, List.replicate_zero, Nat.reduceAdd, Nat.reduceSub, Nat.reduceEqDiff, Nat.reduceLT, Nat.reduceLeDiff, if_true, if_false, ite_true, ite_false, eq_self, eqop_int, neop_int, eqop_bl, neop_bl, Bool.not_true, Bool.not_false, Bool.true_eq_false, Bool.false_eq_true, Bool.or_true, Bool.or_false, Bool.true_or, Bool.false_or, Bool.and_true, Bool.and_false, reduceIte, reduceCtorEq, decide_true, decide_false, decide_eq_true_eq, Bool.not_eq_true', decide_eq_false_iff_not, Nat.zero_le, lim1, lim2, lim3, lim4, lim5, Int.reduceLE, Int.reduceLT, Int.reduceEq, Int.reduceNe, ne_eq, not_false_eq_true, not_true_eq_false, Int.reduceNeg, and_true, true_and, and_false, false_and, or_true, true_or, or_false, false_or, alloc_e, seen_s, seen_none,  fmp, p10_4, p10_6, p10_9, p10_12, p10_18, p10_20, p10_28, p10_30, p10_40, p10_44, p10_50, p10_57, p10_58, p10_59, p10_60, getV_R, ix_R0, ix_R1, ty_R, len_R, isNon_R, tupOp_R, callOn_R, items_R, consOp_R, R0n, R0d, R1n, R1d, onTup_R, eq_R, ne_R, R_eta, R_0, R_1, R_neg, R_den', R_den1, R_den0, h.gv, hf]
  rfl
end Q

namespace Q
open PySem MP
/-- values that don't fall -/
def Nds : Cn → List Cn → Prop
  | _, [] => True
  | c, d :: r => ¬ d.2 < c.2 ∧ Nds d r
theorem cu_loop (n : Nat) (L : Hd) (X : D) (cs : List Cn) (e1 : Option D) (all : List D) (h : Sq L X (cs.map dC)) (hz : ∀ x ∈ cs, Cz x) : ∀ (r pre : List Cn) (c : Cn) (k : Int) (r3 : Option D), cs = pre ++ c :: r → k = pre.length + 1 → Ups c r → Nds c r → ∃ r3', forW (runT T (n + 1)) 2 B_curve_1 none all (steps k 1 r.length) [some X, e1, r3] L = .nx [some X, e1, r3'] L
  | [], pre, c, k, r3, _, _, _, _ => ⟨r3, by simp only [List.length_nil, steps, runF_mk, ofO_nx, ofO_rt, ofO_ex, x_non, x_bl, x_int, x_str, x_v, x_k, x_f, x_nil, x_absent, x_cons, x_tup, x_lst, x_bin, x_neg, x_not, x_and, x_or, x_cmp, x_isn, x_notn, x_ix, x_sl, x_call, x_callv, x_bi, x_isi, x_ise, x_me, x_lc, x_rng, x_rev, s_pass, s_seq, s_set, s_setix, s_aug, s_ex, s_ite, s_wh, s_for, s_ret, s_retn, s_brk, s_cnt, s_raise, s_tryN, s_tryA, consOp_t, tupOp_t, lstOp_t, negOp_i, onTup_t, callOn_t, getV_int, getV_bl, getV_str, getV_tup, getV_ref, getV_fn, getV_non, onFn_f, onExc_f, onInt_i, augNx_s, augop_a, augop_s, okOnly_ok, b_add, b_sub, b_mul, b_fdiv, b_mod, b_addt, c_lt, c_le, c_gt, c_ge, c_eq, c_ne, onL_s, onLo_s, onV_s, atV_s, lr_len, lr_list, lr_tuple, ix_t', ix_r', me_app, me_pop, me_rev, sl_r', sl_t', recv_app, recv_pop, recv_popAt, recv_clear, recv_rev, recv_ins, getL_at0, getL_at1, getL_at2, getL_at3, setL_at0, setL_at1, setL_at2, getL_0, getL_1, getL_2, getL_3, getL_4, setL_1, setL_2, setL_3, atI_0, atI_1, atI_2, atI_m1, List.append_assoc, List.length_append, Nat.add_one_ne_zero, bi_abs, bi_lent, bi_max, bi_min, bi_int, bi_intb, bi_listt, bi_tupt, ty_non, ty_bl, ty_int, ty_str, ty_tup, tb1, tb2, tb3, tb4, tb5, tn1, tn2, tn3, tn4, tn5, tn6, isNon_non, isNon_tup, isNon_int, isNon_ref, items_t, items_r, Option.map_some, fw_nil_n, fw_cons_n, fw_nil_s, fw_cons_s, takeS_0, takeS_s, dropS_0, dropS_s, forOn_s, lcOn_s, R.bind_ok, R.bind_exc, R.bind_bad, R.on_ok, R.on_exc, R.on_bad, onBl_bl, ifB_bl, O.then_nx, O.turn_nx, O.turn_ct, O.turn_bk, O.turn_rt, O.turn_ex, O.then_rt, O.then_ex, O.then_bk, O.then_ct, O.then_bad, onPart_int, onPart_abs, List.getElem?_cons_zero, List.getElem?_cons_succ, List.set_cons_zero, List.set_cons_succ, List.length_cons, List.length_nil, List.map_cons, List.map_nil, List.cons_append, List.nil_append, List.replicate_succ, List.replicate_zero, Nat.reduceAdd, Nat.reduceSub, Nat.reduceEqDiff, Nat.reduceLT, Nat.reduceLeDiff, if_true, if_false, ite_true, ite_false, eq_self, eqop_int, neop_int, eqop_bl, neop_bl, Bool.not_true, Bool.not_false, Bool.true_eq_false, Bool.false_eq_true, Bool.or_true, Bool.or_false, Bool.true_or, Bool.false_or, Bool.and_true, Bool.and_false, reduceIte, reduceCtorEq, decide_true, decide_false, decide_eq_true_eq, Bool.not_eq_true', decide_eq_false_iff_not, Nat.zero_le, lim1, lim2, lim3, lim4, lim5, Int.reduceLE, Int.reduceLT, Int.reduceEq, Int.reduceNe, ne_eq, not_false_eq_true, not_true_eq_false, Int.reduceNeg, and_true, true_and, and_false, false_and, or_true, true_or, or_false, false_or, alloc_e, seen_s, seen_none,  fmp, p10_4, p10_6, p10_9, p10_12, p10_18, p10_20, p10_28, p10_30, p10_40, p10_44, p10_50, p10_57, p10_58, p10_59, p10_60]⟩
  | d :: r, pre, c, k, r3, hcs, hk, hu, hd => by
    obtain ⟨r3', ih⟩ := cu_loop n L X cs e1 all h hz r (pre ++ [c]) d (k + 1) (some (.int k)) (by rw [hcs]; simp) (by simp; omega) hu.2 hd.2
    refine ⟨r3', ?_⟩
    have i1 : L2.atI (cs.map dC) (k - 1) = some (dC c) := by
      rw [hcs, List.map_append, List.map_cons]
      exact atI_app (by simp; omega)
    have i2 : L2.atI (cs.map dC) k = some (dC d) := by
      rw [hcs, show pre ++ c :: d :: r = (pre ++ [c]) ++ d :: r by simp, List.map_append, List.map_cons]
      exact atI_app (by simp; omega)
    have zc : Cz c := hz c (by rw [hcs]; simp)
    have zd : Cz d := hz d (by rw [hcs]; simp)
    have s1 : Sz c.1 := zc.1.sz (by decide)
    have s2 : Sz c.2 := zc.2.sz (by decide)
    have s3 : Sz d.1 := zd.1.sz (by decide)
    have s4 : Sz d.2 := zd.2.sz (by decide)
    have hix := fun i => h.ix i []
    simp only [List.append_nil] at hix
    simp only [List.length_cons, steps, getV_C, ix_C0, ix_C1, C_eta, tupOp_C, callOn_C, consOp_C, ty_C, len_C, onTup_C, eq_C, getV_F, ix_F0, ix_F1, ty_F, len_F, runF_mk, ofO_nx, ofO_rt, ofO_ex, x_non, x_bl, x_int, x_str, x_v, x_k, x_f, x_nil, x_absent, x_cons, x_tup, x_lst, x_bin, x_neg, x_not, x_and, x_or, x_cmp, x_isn, x_notn, x_ix, x_sl, x_call, x_callv, x_bi, x_isi, x_ise, x_me, x_lc, x_rng, x_rev, s_pass, s_seq, s_set, s_setix, s_aug, s_ex, s_ite, s_wh, s_for, s_ret, s_retn, s_brk, s_cnt, s_raise, s_tryN, s_tryA, consOp_t, tupOp_t, lstOp_t, negOp_i, onTup_t, callOn_t, getV_int, getV_bl, getV_str, getV_tup, getV_ref, getV_fn, getV_non, onFn_f, onExc_f, onInt_i, augNx_s, augop_a, augop_s, okOnly_ok, b_add, b_sub, b_mul, b_fdiv, b_mod, b_addt, c_lt, c_le, c_gt, c_ge, c_eq, c_ne, onL_s, onLo_s, onV_s, atV_s, lr_len, lr_list, lr_tuple, ix_t', ix_r', me_app, me_pop, me_rev, sl_r', sl_t', recv_app, recv_pop, recv_popAt, recv_clear, recv_rev, recv_ins, getL_at0, getL_at1, getL_at2, getL_at3, setL_at0, setL_at1, setL_at2, getL_0, getL_1, getL_2, getL_3, getL_4, setL_1, setL_2, setL_3, atI_0, atI_1, atI_2, atI_m1, List.append_assoc, List.length_append, Nat.add_one_ne_zero, bi_abs, bi_lent, bi_max, bi_min, bi_int, bi_intb, bi_listt, bi_tupt, ty_non, ty_bl, ty_int, ty_str, ty_tup, tb1, tb2, tb3, tb4, tb5, tn1, tn2, tn3, tn4, tn5, tn6, isNon_non, isNon_tup, isNon_int, isNon_ref, items_t, items_r, Option.map_some, fw_nil_n, fw_cons_n, fw_nil_s, fw_cons_s, takeS_0, takeS_s, dropS_0, dropS_s, forOn_s, lcOn_s, R.bind_ok, R.bind_exc, R.bind_bad, R.on_ok, R.on_exc, R.on_bad, onBl_bl, ifB_bl, O.then_nx, O.turn_nx, O.turn_ct, O.turn_bk, O.turn_rt, O.turn_ex, O.then_rt, O.then_ex, O.then_bk, O.then_ct, O.then_bad, onPart_int, onPart_abs, List.getElem?_cons_zero, List.getElem?_cons_succ, List.set_cons_zero, List.set_cons_succ, List.length_cons, List.length_nil, List.map_cons, List.map_nil, List.cons_append, List.nil_append, List.replicate_succ, List.replicate_zero, Nat.reduceAdd, Nat.reduceSub, Nat.reduceEqDiff, Nat.reduceLT, Nat.reduceLeDiff, if_true, if_false, ite_true, ite_false, eq_self, eqop_int, neop_int, eqop_bl, neop_bl, Bool.not_true, Bool.not_false, Bool.true_eq_false, Bool.false_eq_true, Bool.or_true, Bool.or_false, Bool.true_or, Bool.false_or, Bool.and_true, Bool.and_false, reduceIte, reduceCtorEq, decide_true, decide_false, decide_eq_true_eq, Bool.not_eq_true', decide_eq_false_iff_not, Nat.zero_le, lim1, lim2, lim3, lim4, lim5, Int.reduceLE, Int.reduceLT, Int.reduceEq, Int.reduceNe, ne_eq, not_false_eq_true, not_true_eq_false, Int.reduceNeg, and_true, true_and, and_false, false_and, or_true, true_or, or_false, false_or, alloc_e, seen_s, seen_none,  fmp, p10_4, p10_6, p10_9, p10_12, p10_18, p10_20, p10_28, p10_30, p10_40, p10_44, p10_50, p10_57, p10_58, p10_59, p10_60, getV_R, ix_R0, ix_R1, ty_R, len_R, isNon_R, tupOp_R, callOn_R, items_R, consOp_R, R0n, R0d, R1n, R1d, onTup_R, eq_R, ne_R, R_eta, R_0, R_1, R_neg, R_den', R_den1, R_den0, UB_curve_1, h.gv, hix, i1, i2, r_under, s1, s2, s3, s4, hu.1, hd.1]
    exact ih
theorem r_curve (n : Nat) (L : Hd) (X : D) (c : Cn) (r : List Cn) (s : Rat) (hL : L.length ≠ 0) (h : Sq L X ((c :: r).map dC)) (hz : ∀ x ∈ c :: r, Cz x) (hn : r.length ≤ 900) (hu : Ups c r) (hd : Nds c r) (h0 : c.1 = 0) (h1 : ¬ c.2 < 0) (hs : Sz s) (h2 : ¬ s < 0) : runT T (n + 8) "curve" [X, dR s] L = .ok (dF (foldC c r s) s) (L ++ [.lst ((gaps c r ++ [s]).map dR), .lst ((foldC c r s).map dC)]) := by
  rw [runT_succ T_curve]
  have hm := r_made n L X c r s hL h hz hn hu
  obtain ⟨r3, hl⟩ := cu_loop (n + 6) L X (c :: r) (some (dR s)) (steps 1 1 r.length) h hz r [] c 1 none rfl rfl hu hd
  have hln := h.ln []
  rw [List.append_nil, List.length_map, List.length_cons] at hln
  have hr := rng1 r.length (by omega)
  have i0 : L2.atI ((c :: r).map dC) 0 = some (dC c) := by rw [List.map_cons]; exact atI_0
  have hix := fun i => h.ix i []
  simp only [List.append_nil] at hix
  have s2 : Sz c.2 := (hz c List.mem_cons_self).2.sz (by decide)
  have hpos : (((r.length + 1 : Nat) : Int) = 0) = False := by simp only [eq_iff_iff, iff_false]; omega
  unfold F_curve
  simp only [getV_C, ix_C0, ix_C1, C_eta, tupOp_C, callOn_C, consOp_C, ty_C, len_C, onTup_C, eq_C, getV_F, ix_F0, ix_F1, ty_F, len_F, runF_mk, ofO_nx, ofO_rt, ofO_ex, x_non, x_bl, x_int, x_str, x_v, x_k, x_f, x_nil, x_absent, x_cons, x_tup, x_lst, x_bin, x_neg, x_not, x_and, x_or, x_cmp, x_isn, x_notn, x_ix, x_sl, x_call, x_callv, x_bi, x_isi, x_ise, x_me, x_lc, x_rng, x_rev, s_pass, s_seq, s_set, s_setix, s_aug, s_ex, s_ite, s_wh, s_for, s_ret, s_retn, s_brk, s_cnt, s_raise, s_tryN, s_tryA, consOp_t, tupOp_t, lstOp_t, negOp_i, onTup_t, callOn_t, getV_int, getV_bl, getV_str, getV_tup, getV_ref, getV_fn, getV_non, onFn_f, onExc_f, onInt_i, augNx_s, augop_a, augop_s, okOnly_ok, b_add, b_sub, b_mul, b_fdiv, b_mod, b_addt, c_lt, c_le, c_gt, c_ge, c_eq, c_ne, onL_s, onLo_s, onV_s, atV_s, lr_len, lr_list, lr_tuple, ix_t', ix_r', me_app, me_pop, me_rev, sl_r', sl_t', recv_app, recv_pop, recv_popAt, recv_clear, recv_rev, recv_ins, getL_at0, getL_at1, getL_at2, getL_at3, setL_at0, setL_at1, setL_at2, getL_0, getL_1, getL_2, getL_3, getL_4, setL_1, setL_2, setL_3, atI_0, atI_1, atI_2, atI_m1, List.append_assoc, List.length_append, Nat.add_one_ne_zero, bi_abs, bi_lent, bi_max, bi_min, bi_int, bi_intb, bi_listt, bi_tupt, ty_non, ty_bl, ty_int, ty_str, ty_tup, tb1, tb2, tb3, tb4, tb5, tn1, tn2, tn3, tn4, tn5, tn6, isNon_non, isNon_tup, isNon_int, isNon_ref, items_t, items_r, Option.map_some, fw_nil_n, fw_cons_n, fw_nil_s, fw_cons_s, takeS_0, takeS_s, dropS_0, dropS_s, forOn_s, lcOn_s, R.bind_ok, R.bind_exc, R.bind_bad, R.on_ok, R.on_exc, R.on_bad, onBl_bl, ifB_bl, O.then_nx, O.turn_nx, O.turn_ct, O.turn_bk, O.turn_rt, O.turn_ex, O.then_rt, O.then_ex, O.then_bk, O.then_ct, O.then_bad, onPart_int, onPart_abs, List.getElem?_cons_zero, List.getElem?_cons_succ, List.set_cons_zero, List.set_cons_succ, List.length_cons, List.length_nil, List.map_cons, List.map_nil, List.cons_append, List.nil_append, List.replicate_succ, List.replicate_zero, Nat.reduceAdd, Nat.reduceSub, Nat.reduceEqDiff, Nat.reduceLT, Nat.reduceLeDiff, if_true, if_false, ite_true, ite_false, eq_self, eqop_int, neop_int, eqop_bl, neop_bl, Bool.not_true, Bool.not_false, Bool.true_eq_false, Bool.false_eq_true, Bool.or_true, Bool.or_false, Bool.true_or, Bool.false_or, Bool.and_true, Bool.and_false, reduceIte, reduceCtorEq, decide_true, decide_false, decide_eq_true_eq, Bool.not_eq_true', decide_eq_false_iff_not, Nat.zero_le, lim1, lim2, lim3, lim4, lim5, Int.reduceLE, Int.reduceLT, Int.reduceEq, Int.reduceNe, ne_eq, not_false_eq_true, not_true_eq_false, Int.reduceNeg, and_true, true_and, and_false, false_and, or_true, true_or, or_false, false_or, alloc_e, seen_s, seen_none,  fmp, p10_4, p10_6, p10_9, p10_12, p10_18, p10_20, p10_28, p10_30, p10_40, p10_44, p10_50, p10_57, p10_58, p10_59, p10_60, getV_R, ix_R0, ix_R1, ty_R, len_R, isNon_R, tupOp_R, callOn_R, items_R, consOp_R, R0n, R0d, R1n, R1d, onTup_R, eq_R, ne_R, R_eta, R_0, R_1, R_neg, R_den', R_den1, R_den0, h.gv, hix, i0, hln, hr, hl, hm, hpos, r_under, hs, s2, Sz0, h0, h1, h2]
end Q

namespace Q
open PySem MP
theorem cu_bad (n : Nat) (L : Hd) (X : D) (cs : List Cn) (e1 : Option D) (all : List D) (h : Sq L X (cs.map dC)) (hz : ∀ x ∈ cs, Cz x) : ∀ (r pre : List Cn) (c : Cn) (k : Int) (r3 : Option D), cs = pre ++ c :: r → k = pre.length + 1 → ¬ (Ups c r ∧ Nds c r) → ∃ ρ, forW (runT T (n + 1)) 2 B_curve_1 none all (steps k 1 r.length) [some X, e1, r3] L = .ex "NoCurve" ρ L
  | [], pre, c, k, r3, _, _, hb => absurd ⟨trivial, trivial⟩ hb
  | d :: r, pre, c, k, r3, hcs, hk, hb => by
    have i1 : L2.atI (cs.map dC) (k - 1) = some (dC c) := by
      rw [hcs, List.map_append, List.map_cons]
      exact atI_app (by simp; omega)
    have i2 : L2.atI (cs.map dC) k = some (dC d) := by
      rw [hcs, show pre ++ c :: d :: r = (pre ++ [c]) ++ d :: r by simp, List.map_append, List.map_cons]
      exact atI_app (by simp; omega)
    have zc : Cz c := hz c (by rw [hcs]; simp)
    have zd : Cz d := hz d (by rw [hcs]; simp)
    have s1 : Sz c.1 := zc.1.sz (by decide)
    have s2 : Sz c.2 := zc.2.sz (by decide)
    have s3 : Sz d.1 := zd.1.sz (by decide)
    have s4 : Sz d.2 := zd.2.sz (by decide)
    have hix := fun i => h.ix i []
    simp only [List.append_nil] at hix
    by_cases h1 : c.1 < d.1
    · by_cases h2 : d.2 < c.2
      · simp only [List.length_cons, steps, getV_C, ix_C0, ix_C1, C_eta, tupOp_C, callOn_C, consOp_C, ty_C, len_C, onTup_C, eq_C, getV_F, ix_F0, ix_F1, ty_F, len_F, runF_mk, ofO_nx, ofO_rt, ofO_ex, x_non, x_bl, x_int, x_str, x_v, x_k, x_f, x_nil, x_absent, x_cons, x_tup, x_lst, x_bin, x_neg, x_not, x_and, x_or, x_cmp, x_isn, x_notn, x_ix, x_sl, x_call, x_callv, x_bi, x_isi, x_ise, x_me, x_lc, x_rng, x_rev, s_pass, s_seq, s_set, s_setix, s_aug, s_ex, s_ite, s_wh, s_for, s_ret, s_retn, s_brk, s_cnt, s_raise, s_tryN, s_tryA, consOp_t, tupOp_t, lstOp_t, negOp_i, onTup_t, callOn_t, getV_int, getV_bl, getV_str, getV_tup, getV_ref, getV_fn, getV_non, onFn_f, onExc_f, onInt_i, augNx_s, augop_a, augop_s, okOnly_ok, b_add, b_sub, b_mul, b_fdiv, b_mod, b_addt, c_lt, c_le, c_gt, c_ge, c_eq, c_ne, onL_s, onLo_s, onV_s, atV_s, lr_len, lr_list, lr_tuple, ix_t', ix_r', me_app, me_pop, me_rev, sl_r', sl_t', recv_app, recv_pop, recv_popAt, recv_clear, recv_rev, recv_ins, getL_at0, getL_at1, getL_at2, getL_at3, setL_at0, setL_at1, setL_at2, getL_0, getL_1, getL_2, getL_3, getL_4, setL_1, setL_2, setL_3, atI_0, atI_1, atI_2, atI_m1, List.append_assoc, List.length_append, Nat.add_one_ne_zero, bi_abs, bi_lent, bi_max, bi_min, bi_int, bi_intb, bi_listt, bi_tupt, ty_non, ty_bl, ty_int, ty_str, ty_tup, tb1, tb2, tb3, tb4, tb5, tn1, tn2, tn3, tn4, tn5, tn6, isNon_non, isNon_tup, isNon_int, isNon_ref, items_t, items_r, Option.map_some, fw_nil_n, fw_cons_n, fw_nil_s, fw_cons_s, takeS_0, takeS_s, dropS_0, dropS_s, forOn_s, lcOn_s, R.bind_ok, R.bind_exc, R.bind_bad, R.on_ok, R.on_exc, R.on_bad, onBl_bl, ifB_bl, O.then_nx, O.turn_nx, O.turn_ct, O.turn_bk, O.turn_rt, O.turn_ex, O.then_rt, O.then_ex, O.then_bk, O.then_ct, O.then_bad, onPart_int, onPart_abs, List.getElem?_cons_zero, List.getElem?_cons_succ, List.set_cons_zero, List.set_cons_succ, List.length_cons, List.length_nil, List.map_cons, List.map_nil, List.cons_append, List.nil_append, List.replicate_succ, List.replicate_zero, Nat.reduceAdd, Nat.reduceSub, Nat.reduceEqDiff, Nat.reduceLT, Nat.reduceLeDiff, if_true, if_false, ite_true, ite_false, eq_self, eqop_int, neop_int, eqop_bl, neop_bl, Bool.not_true, Bool.not_false, Bool.true_eq_false, Bool.false_eq_true, Bool.or_true, Bool.or_false, Bool.true_or, Bool.false_or, Bool.and_true, Bool.and_false, reduceIte, reduceCtorEq, decide_true, decide_false, decide_eq_true_eq, Bool.not_eq_true', decide_eq_false_iff_not, Nat.zero_le, lim1, lim2, lim3, lim4, lim5, Int.reduceLE, Int.reduceLT, Int.reduceEq, Int.reduceNe, ne_eq, not_false_eq_true, not_true_eq_false, Int.reduceNeg, and_true, true_and, and_false, false_and, or_true, true_or, or_false, false_or, alloc_e, seen_s, seen_none,  fmp, p10_4, p10_6, p10_9, p10_12, p10_18, p10_20, p10_28, p10_30, p10_40, p10_44, p10_50, p10_57, p10_58, p10_59, p10_60, getV_R, ix_R0, ix_R1, ty_R, len_R, isNon_R, tupOp_R, callOn_R, items_R, consOp_R, R0n, R0d, R1n, R1d, onTup_R, eq_R, ne_R, R_eta, R_0, R_1, R_neg, R_den', R_den1, R_den0, UB_curve_1, h.gv, hix, i1, i2, r_under, s1, s2, s3, s4, h1, h2]
        exact ⟨_, rfl⟩
      · obtain ⟨ρ, ih⟩ := cu_bad n L X cs e1 all h hz r (pre ++ [c]) d (k + 1) (some (.int k)) (by rw [hcs]; simp) (by simp; omega) (fun hg => hb ⟨⟨h1, hg.1⟩, ⟨h2, hg.2⟩⟩)
        refine ⟨ρ, ?_⟩
        simp only [List.length_cons, steps, getV_C, ix_C0, ix_C1, C_eta, tupOp_C, callOn_C, consOp_C, ty_C, len_C, onTup_C, eq_C, getV_F, ix_F0, ix_F1, ty_F, len_F, runF_mk, ofO_nx, ofO_rt, ofO_ex, x_non, x_bl, x_int, x_str, x_v, x_k, x_f, x_nil, x_absent, x_cons, x_tup, x_lst, x_bin, x_neg, x_not, x_and, x_or, x_cmp, x_isn, x_notn, x_ix, x_sl, x_call, x_callv, x_bi, x_isi, x_ise, x_me, x_lc, x_rng, x_rev, s_pass, s_seq, s_set, s_setix, s_aug, s_ex, s_ite, s_wh, s_for, s_ret, s_retn, s_brk, s_cnt, s_raise, s_tryN, s_tryA, consOp_t, tupOp_t, lstOp_t, negOp_i, onTup_t, callOn_t, getV_int, getV_bl, getV_str, getV_tup, getV_ref, getV_fn, getV_non, onFn_f, onExc_f, onInt_i, augNx_s, augop_a, augop_s, okOnly_ok, b_add, b_sub, b_mul, b_fdiv, b_mod, b_addt, c_lt, c_le, c_gt, c_ge, c_eq, c_ne, onL_s, onLo_s, onV_s, atV_s, lr_len, lr_list, lr_tuple, ix_t', ix_r', me_app, me_pop, me_rev, sl_r', sl_t', recv_app, recv_pop, recv_popAt, recv_clear, recv_rev, recv_ins, getL_at0, getL_at1, getL_at2, getL_at3, setL_at0, setL_at1, setL_at2, getL_0, getL_1, getL_2, getL_3, getL_4, setL_1, setL_2, setL_3, atI_0, atI_1, atI_2, atI_m1, List.append_assoc, List.length_append, Nat.add_one_ne_zero, bi_abs, bi_lent, bi_max, bi_min, bi_int, bi_intb, bi_listt, bi_tupt, ty_non, ty_bl, ty_int, ty_str, ty_tup, tb1, tb2, tb3, tb4, tb5, tn1, tn2, tn3, tn4, tn5, tn6, isNon_non, isNon_tup, isNon_int, isNon_ref, items_t, items_r, Option.map_some, fw_nil_n, fw_cons_n, fw_nil_s, fw_cons_s, takeS_0, takeS_s, dropS_0, dropS_s, forOn_s, lcOn_s, R.bind_ok, R.bind_exc, R.bind_bad, R.on_ok, R.on_exc, R.on_bad, onBl_bl, ifB_bl, O.then_nx, O.turn_nx, O.turn_ct, O.turn_bk, O.turn_rt, O.turn_ex, O.then_rt, O.then_ex, O.then_bk, O.then_ct, O.then_bad, onPart_int, onPart_abs, List.getElem?_cons_zero, List.getElem?_cons_succ, List.set_cons_zero, List.set_cons_succ, List.length_cons, List.length_nil, List.map_cons, List.map_nil, List.cons_append, List.nil_append, List.replicate_succ, List.replicate_zero, Nat.reduceAdd, Nat.reduceSub, Nat.reduceEqDiff, Nat.reduceLT, Nat.reduceLeDiff, if_true, if_false, ite_true, ite_false, eq_self, eqop_int, neop_int, eqop_bl, neop_bl, Bool.not_true, Bool.not_false, Bool.true_eq_false, Bool.false_eq_true, Bool.or_true, Bool.or_false, Bool.true_or, Bool.false_or, Bool.and_true, Bool.and_false, reduceIte, reduceCtorEq, decide_true, decide_false, decide_eq_true_eq, Bool.not_eq_true', decide_eq_false_iff_not, Nat.zero_le, lim1, lim2, lim3, lim4, lim5, Int.reduceLE, Int.reduceLT, Int.reduceEq, Int.reduceNe, ne_eq, not_false_eq_true, not_true_eq_false, Int.reduceNeg, and_true, true_and, and_false, false_and, or_true, true_or, or_false, false_or, alloc_e, seen_s, seen_none,  fmp, p10_4, p10_6, p10_9, p10_12, p10_18, p10_20, p10_28, p10_30, p10_40, p10_44, p10_50, p10_57, p10_58, p10_59, p10_60, getV_R, ix_R0, ix_R1, ty_R, len_R, isNon_R, tupOp_R, callOn_R, items_R, consOp_R, R0n, R0d, R1n, R1d, onTup_R, eq_R, ne_R, R_eta, R_0, R_1, R_neg, R_den', R_den1, R_den0, UB_curve_1, h.gv, hix, i1, i2, r_under, s1, s2, s3, s4, h1, h2]
        exact ih
    · simp only [List.length_cons, steps, getV_C, ix_C0, ix_C1, C_eta, tupOp_C, callOn_C, consOp_C, ty_C, len_C, onTup_C, eq_C, getV_F, ix_F0, ix_F1, ty_F, len_F, runF_mk, ofO_nx, ofO_rt, ofO_ex, x_non, x_bl, x_int, x_str, x_v, x_k, x_f, x_nil, x_absent, x_cons, x_tup, x_lst, x_bin, x_neg, x_not, x_and, x_or, x_cmp, x_isn, x_notn, x_ix, x_sl, x_call, x_callv, x_bi, x_isi, x_ise, x_me, x_lc, x_rng, x_rev, s_pass, s_seq, s_set, s_setix, s_aug, s_ex, s_ite, s_wh, s_for, s_ret, s_retn, s_brk, s_cnt, s_raise, s_tryN, s_tryA, consOp_t, tupOp_t, lstOp_t, negOp_i, onTup_t, callOn_t, getV_int, getV_bl, getV_str, getV_tup, getV_ref, getV_fn, getV_non, onFn_f, onExc_f, onInt_i, augNx_s, augop_a, augop_s, okOnly_ok, b_add, b_sub, b_mul, b_fdiv, b_mod, b_addt, c_lt, c_le, c_gt, c_ge, c_eq, c_ne, onL_s, onLo_s, onV_s, atV_s, lr_len, lr_list, lr_tuple, ix_t', ix_r', me_app, me_pop, me_rev, sl_r', sl_t', recv_app, recv_pop, recv_popAt, recv_clear, recv_rev, recv_ins, getL_at0, getL_at1, getL_at2, getL_at3, setL_at0, setL_at1, setL_at2, getL_0, getL_1, getL_2, getL_3, getL_4, setL_1, setL_2, setL_3, atI_0, atI_1, atI_2, atI_m1, List.append_assoc, List.length_append, Nat.add_one_ne_zero, bi_abs, bi_lent, bi_max, bi_min, bi_int, bi_intb, bi_listt, bi_tupt, ty_non, ty_bl, ty_int, ty_str, ty_tup, tb1, tb2, tb3, tb4, tb5, tn1, tn2, tn3, tn4, tn5, tn6, isNon_non, isNon_tup, isNon_int, isNon_ref, items_t, items_r, Option.map_some, fw_nil_n, fw_cons_n, fw_nil_s, fw_cons_s, takeS_0, takeS_s, dropS_0, dropS_s, forOn_s, lcOn_s, R.bind_ok, R.bind_exc, R.bind_bad, R.on_ok, R.on_exc, R.on_bad, onBl_bl, ifB_bl, O.then_nx, O.turn_nx, O.turn_ct, O.turn_bk, O.turn_rt, O.turn_ex, O.then_rt, O.then_ex, O.then_bk, O.then_ct, O.then_bad, onPart_int, onPart_abs, List.getElem?_cons_zero, List.getElem?_cons_succ, List.set_cons_zero, List.set_cons_succ, List.length_cons, List.length_nil, List.map_cons, List.map_nil, List.cons_append, List.nil_append, List.replicate_succ, List.replicate_zero, Nat.reduceAdd, Nat.reduceSub, Nat.reduceEqDiff, Nat.reduceLT, Nat.reduceLeDiff, if_true, if_false, ite_true, ite_false, eq_self, eqop_int, neop_int, eqop_bl, neop_bl, Bool.not_true, Bool.not_false, Bool.true_eq_false, Bool.false_eq_true, Bool.or_true, Bool.or_false, Bool.true_or, Bool.false_or, Bool.and_true, Bool.and_false, reduceIte, reduceCtorEq, decide_true, decide_false, decide_eq_true_eq, Bool.not_eq_true', decide_eq_false_iff_not, Nat.zero_le, lim1, lim2, lim3, lim4, lim5, Int.reduceLE, Int.reduceLT, Int.reduceEq, Int.reduceNe, ne_eq, not_false_eq_true, not_true_eq_false, Int.reduceNeg, and_true, true_and, and_false, false_and, or_true, true_or, or_false, false_or, alloc_e, seen_s, seen_none,  fmp, p10_4, p10_6, p10_9, p10_12, p10_18, p10_20, p10_28, p10_30, p10_40, p10_44, p10_50, p10_57, p10_58, p10_59, p10_60, getV_R, ix_R0, ix_R1, ty_R, len_R, isNon_R, tupOp_R, callOn_R, items_R, consOp_R, R0n, R0d, R1n, R1d, onTup_R, eq_R, ne_R, R_eta, R_0, R_1, R_neg, R_den', R_den1, R_den0, UB_curve_1, h.gv, hix, i1, i2, r_under, s1, s3, h1]
      exact ⟨_, rfl⟩
theorem r_curve_bad (n : Nat) (L : Hd) (X : D) (cs : List Cn) (s : Rat) (h : Sq L X (cs.map dC)) (hz : ∀ x ∈ cs, Cz x) (hn : cs.length ≤ 900) (hs : Sz s) (bad : cs = [] ∨ s < 0 ∨ ∃ c r, cs = c :: r ∧ (c.1 ≠ 0 ∨ c.2 < 0 ∨ ¬ (Ups c r ∧ Nds c r))) : runT T (n + 2) "curve" [X, dR s] L = .exc "NoCurve" L := by
  rw [runT_succ T_curve]
  have hln := h.ln []
  rw [List.append_nil, List.length_map] at hln
  have hix := fun i => h.ix i []
  simp only [List.append_nil] at hix
  unfold F_curve
  cases cs with
  | nil =>
    have z : biop .len [X] L = .ok (.int 0) L := hln
    simp only [getV_C, ix_C0, ix_C1, C_eta, tupOp_C, callOn_C, consOp_C, ty_C, len_C, onTup_C, eq_C, getV_F, ix_F0, ix_F1, ty_F, len_F, runF_mk, ofO_nx, ofO_rt, ofO_ex, x_non, x_bl, x_int, x_str, x_v, x_k, x_f, x_nil, x_absent, x_cons, x_tup, x_lst, x_bin, x_neg, x_not, x_and, x_or, x_cmp, x_isn, x_notn, x_ix, x_sl, x_call, x_callv, x_bi, x_isi, x_ise, x_me, x_lc, x_rng, x_rev, s_pass, s_seq, s_set, s_setix, s_aug, s_ex, s_ite, s_wh, s_for, s_ret, s_retn, s_brk, s_cnt, s_raise, s_tryN, s_tryA, consOp_t, tupOp_t, lstOp_t, negOp_i, onTup_t, callOn_t, getV_int, getV_bl, getV_str, getV_tup, getV_ref, getV_fn, getV_non, onFn_f, onExc_f, onInt_i, augNx_s, augop_a, augop_s, okOnly_ok, b_add, b_sub, b_mul, b_fdiv, b_mod, b_addt, c_lt, c_le, c_gt, c_ge, c_eq, c_ne, onL_s, onLo_s, onV_s, atV_s, lr_len, lr_list, lr_tuple, ix_t', ix_r', me_app, me_pop, me_rev, sl_r', sl_t', recv_app, recv_pop, recv_popAt, recv_clear, recv_rev, recv_ins, getL_at0, getL_at1, getL_at2, getL_at3, setL_at0, setL_at1, setL_at2, getL_0, getL_1, getL_2, getL_3, getL_4, setL_1, setL_2, setL_3, atI_0, atI_1, atI_2, atI_m1, List.append_assoc, List.length_append, Nat.add_one_ne_zero, bi_abs, bi_lent, bi_max, bi_min, bi_int, bi_intb, bi_listt, bi_tupt, ty_non, ty_bl, ty_int, ty_str, ty_tup, tb1, tb2, tb3, tb4, tb5, tn1, tn2, tn3, tn4, tn5, tn6, isNon_non, isNon_tup, isNon_int, isNon_ref, items_t, items_r, Option.map_some, fw_nil_n, fw_cons_n, fw_nil_s, fw_cons_s, takeS_0, takeS_s, dropS_0, dropS_s, forOn_s, lcOn_s, R.bind_ok, R.bind_exc, R.bind_bad, R.on_ok, R.on_exc, R.on_bad, onBl_bl, ifB_bl, O.then_nx, O.turn_nx, O.turn_ct, O.turn_bk, O.turn_rt, O.turn_ex, O.then_rt, O.then_ex, O.then_bk, O.then_ct, O.then_bad, onPart_int, onPart_abs, List.getElem?_cons_zero, List.getElem?_cons_succ, List.set_cons_zero, List.set_cons_succ, List.length_cons, List.length_nil, List.map_cons, List.map_nil, List.cons_append, List.nil_append, List.replicate_succ, List.replicate_zero, Nat.reduceAdd, Nat.reduceSub, Nat.reduceEqDiff, Nat.reduceLT, Nat.reduceLeDiff, if_true, if_false, ite_true, ite_false, eq_self, eqop_int, neop_int, eqop_bl, neop_bl, Bool.not_true, Bool.not_false, Bool.true_eq_false, Bool.false_eq_true, Bool.or_true, Bool.or_false, Bool.true_or, Bool.false_or, Bool.and_true, Bool.and_false, reduceIte, reduceCtorEq, decide_true, decide_false, decide_eq_true_eq, Bool.not_eq_true', decide_eq_false_iff_not, Nat.zero_le, lim1, lim2, lim3, lim4, lim5, Int.reduceLE, Int.reduceLT, Int.reduceEq, Int.reduceNe, ne_eq, not_false_eq_true, not_true_eq_false, Int.reduceNeg, and_true, true_and, and_false, false_and, or_true, true_or, or_false, false_or, alloc_e, seen_s, seen_none,  fmp, p10_4, p10_6, p10_9, p10_12, p10_18, p10_20, p10_28, p10_30, p10_40, p10_44, p10_50, p10_57, p10_58, p10_59, p10_60, getV_R, ix_R0, ix_R1, ty_R, len_R, isNon_R, tupOp_R, callOn_R, items_R, consOp_R, R0n, R0d, R1n, R1d, onTup_R, eq_R, ne_R, R_eta, R_0, R_1, R_neg, R_den', R_den1, R_den0, h.gv, z]
  | cons c r =>
    have hlen : (((c :: r).length : Nat) : Int) = ((r.length + 1 : Nat) : Int) := by simp
    rw [hlen] at hln
    have hpos : (((r.length + 1 : Nat) : Int) = 0) = False := by simp only [eq_iff_iff, iff_false]; omega
    have i0 : L2.atI ((c :: r).map dC) 0 = some (dC c) := by rw [List.map_cons]; exact atI_0
    have s2 : Sz c.2 := (hz c List.mem_cons_self).2.sz (by decide)
    by_cases h2 : s < 0
    · simp only [getV_C, ix_C0, ix_C1, C_eta, tupOp_C, callOn_C, consOp_C, ty_C, len_C, onTup_C, eq_C, getV_F, ix_F0, ix_F1, ty_F, len_F, runF_mk, ofO_nx, ofO_rt, ofO_ex, x_non, x_bl, x_int, x_str, x_v, x_k, x_f, x_nil, x_absent, x_cons, x_tup, x_lst, x_bin, x_neg, x_not, x_and, x_or, x_cmp, x_isn, x_notn, x_ix, x_sl, x_call, x_callv, x_bi, x_isi, x_ise, x_me, x_lc, x_rng, x_rev, s_pass, s_seq, s_set, s_setix, s_aug, s_ex, s_ite, s_wh, s_for, s_ret, s_retn, s_brk, s_cnt, s_raise, s_tryN, s_tryA, consOp_t, tupOp_t, lstOp_t, negOp_i, onTup_t, callOn_t, getV_int, getV_bl, getV_str, getV_tup, getV_ref, getV_fn, getV_non, onFn_f, onExc_f, onInt_i, augNx_s, augop_a, augop_s, okOnly_ok, b_add, b_sub, b_mul, b_fdiv, b_mod, b_addt, c_lt, c_le, c_gt, c_ge, c_eq, c_ne, onL_s, onLo_s, onV_s, atV_s, lr_len, lr_list, lr_tuple, ix_t', ix_r', me_app, me_pop, me_rev, sl_r', sl_t', recv_app, recv_pop, recv_popAt, recv_clear, recv_rev, recv_ins, getL_at0, getL_at1, getL_at2, getL_at3, setL_at0, setL_at1, setL_at2, getL_0, getL_1, getL_2, getL_3, getL_4, setL_1, setL_2, setL_3, atI_0, atI_1, atI_2, atI_m1, List.append_assoc, List.length_append, Nat.add_one_ne_zero, bi_abs, bi_lent, bi_max, bi_min, bi_int, bi_intb, bi_listt, bi_tupt, ty_non, ty_bl, ty_int, ty_str, ty_tup, tb1, tb2, tb3, tb4, tb5, tn1, tn2, tn3, tn4, tn5, tn6, isNon_non, isNon_tup, isNon_int, isNon_ref, items_t, items_r, Option.map_some, fw_nil_n, fw_cons_n, fw_nil_s, fw_cons_s, takeS_0, takeS_s, dropS_0, dropS_s, forOn_s, lcOn_s, R.bind_ok, R.bind_exc, R.bind_bad, R.on_ok, R.on_exc, R.on_bad, onBl_bl, ifB_bl, O.then_nx, O.turn_nx, O.turn_ct, O.turn_bk, O.turn_rt, O.turn_ex, O.then_rt, O.then_ex, O.then_bk, O.then_ct, O.then_bad, onPart_int, onPart_abs, List.getElem?_cons_zero, List.getElem?_cons_succ, List.set_cons_zero, List.set_cons_succ, List.length_cons, List.length_nil, List.map_cons, List.map_nil, List.cons_append, List.nil_append, List.replicate_succ, List.replicate_zero, Nat.reduceAdd, Nat.reduceSub, Nat.reduceEqDiff, Nat.reduceLT, Nat.reduceLeDiff, if_true, if_false, ite_true, ite_false, eq_self, eqop_int, neop_int, eqop_bl, neop_bl, Bool.not_true, Bool.not_false, Bool.true_eq_false, Bool.false_eq_true, Bool.or_true, Bool.or_false, Bool.true_or, Bool.false_or, Bool.and_true, Bool.and_false, reduceIte, reduceCtorEq, decide_true, decide_false, decide_eq_true_eq, Bool.not_eq_true', decide_eq_false_iff_not, Nat.zero_le, lim1, lim2, lim3, lim4, lim5, Int.reduceLE, Int.reduceLT, Int.reduceEq, Int.reduceNe, ne_eq, not_false_eq_true, not_true_eq_false, Int.reduceNeg, and_true, true_and, and_false, false_and, or_true, true_or, or_false, false_or, alloc_e, seen_s, seen_none,  fmp, p10_4, p10_6, p10_9, p10_12, p10_18, p10_20, p10_28, p10_30, p10_40, p10_44, p10_50, p10_57, p10_58, p10_59, p10_60, getV_R, ix_R0, ix_R1, ty_R, len_R, isNon_R, tupOp_R, callOn_R, items_R, consOp_R, R0n, R0d, R1n, R1d, onTup_R, eq_R, ne_R, R_eta, R_0, R_1, R_neg, R_den', R_den1, R_den0, h.gv, hln, hpos, r_under, hs, Sz0, h2]
    · by_cases h0 : c.1 = 0
      · by_cases h1 : c.2 < 0
        · simp only [getV_C, ix_C0, ix_C1, C_eta, tupOp_C, callOn_C, consOp_C, ty_C, len_C, onTup_C, eq_C, getV_F, ix_F0, ix_F1, ty_F, len_F, runF_mk, ofO_nx, ofO_rt, ofO_ex, x_non, x_bl, x_int, x_str, x_v, x_k, x_f, x_nil, x_absent, x_cons, x_tup, x_lst, x_bin, x_neg, x_not, x_and, x_or, x_cmp, x_isn, x_notn, x_ix, x_sl, x_call, x_callv, x_bi, x_isi, x_ise, x_me, x_lc, x_rng, x_rev, s_pass, s_seq, s_set, s_setix, s_aug, s_ex, s_ite, s_wh, s_for, s_ret, s_retn, s_brk, s_cnt, s_raise, s_tryN, s_tryA, consOp_t, tupOp_t, lstOp_t, negOp_i, onTup_t, callOn_t, getV_int, getV_bl, getV_str, getV_tup, getV_ref, getV_fn, getV_non, onFn_f, onExc_f, onInt_i, augNx_s, augop_a, augop_s, okOnly_ok, b_add, b_sub, b_mul, b_fdiv, b_mod, b_addt, c_lt, c_le, c_gt, c_ge, c_eq, c_ne, onL_s, onLo_s, onV_s, atV_s, lr_len, lr_list, lr_tuple, ix_t', ix_r', me_app, me_pop, me_rev, sl_r', sl_t', recv_app, recv_pop, recv_popAt, recv_clear, recv_rev, recv_ins, getL_at0, getL_at1, getL_at2, getL_at3, setL_at0, setL_at1, setL_at2, getL_0, getL_1, getL_2, getL_3, getL_4, setL_1, setL_2, setL_3, atI_0, atI_1, atI_2, atI_m1, List.append_assoc, List.length_append, Nat.add_one_ne_zero, bi_abs, bi_lent, bi_max, bi_min, bi_int, bi_intb, bi_listt, bi_tupt, ty_non, ty_bl, ty_int, ty_str, ty_tup, tb1, tb2, tb3, tb4, tb5, tn1, tn2, tn3, tn4, tn5, tn6, isNon_non, isNon_tup, isNon_int, isNon_ref, items_t, items_r, Option.map_some, fw_nil_n, fw_cons_n, fw_nil_s, fw_cons_s, takeS_0, takeS_s, dropS_0, dropS_s, forOn_s, lcOn_s, R.bind_ok, R.bind_exc, R.bind_bad, R.on_ok, R.on_exc, R.on_bad, onBl_bl, ifB_bl, O.then_nx, O.turn_nx, O.turn_ct, O.turn_bk, O.turn_rt, O.turn_ex, O.then_rt, O.then_ex, O.then_bk, O.then_ct, O.then_bad, onPart_int, onPart_abs, List.getElem?_cons_zero, List.getElem?_cons_succ, List.set_cons_zero, List.set_cons_succ, List.length_cons, List.length_nil, List.map_cons, List.map_nil, List.cons_append, List.nil_append, List.replicate_succ, List.replicate_zero, Nat.reduceAdd, Nat.reduceSub, Nat.reduceEqDiff, Nat.reduceLT, Nat.reduceLeDiff, if_true, if_false, ite_true, ite_false, eq_self, eqop_int, neop_int, eqop_bl, neop_bl, Bool.not_true, Bool.not_false, Bool.true_eq_false, Bool.false_eq_true, Bool.or_true, Bool.or_false, Bool.true_or, Bool.false_or, Bool.and_true, Bool.and_false, reduceIte, reduceCtorEq, decide_true, decide_false, decide_eq_true_eq, Bool.not_eq_true', decide_eq_false_iff_not, Nat.zero_le, lim1, lim2, lim3, lim4, lim5, Int.reduceLE, Int.reduceLT, Int.reduceEq, Int.reduceNe, ne_eq, not_false_eq_true, not_true_eq_false, Int.reduceNeg, and_true, true_and, and_false, false_and, or_true, true_or, or_false, false_or, alloc_e, seen_s, seen_none,  fmp, p10_4, p10_6, p10_9, p10_12, p10_18, p10_20, p10_28, p10_30, p10_40, p10_44, p10_50, p10_57, p10_58, p10_59, p10_60, getV_R, ix_R0, ix_R1, ty_R, len_R, isNon_R, tupOp_R, callOn_R, items_R, consOp_R, R0n, R0d, R1n, R1d, onTup_R, eq_R, ne_R, R_eta, R_0, R_1, R_neg, R_den', R_den1, R_den0, h.gv, hln, hix, i0, hpos, r_under, hs, s2, Sz0, h2, h0, h1]
        · have hb : ¬ (Ups c r ∧ Nds c r) := by
            rcases bad with b | b | ⟨c', r', e, b⟩
            · cases b
            · exact absurd b h2
            · injection e with e1 e2
              subst e1 e2
              rcases b with b | b | b
              · exact absurd h0 b
              · exact absurd b h1
              · exact b
          obtain ⟨ρ, hl⟩ := cu_bad n L X (c :: r) (some (dR s)) (steps 1 1 r.length) h hz r [] c 1 none rfl rfl hb
          have hr := rng1 r.length (by simp at hn; omega)
          simp only [getV_C, ix_C0, ix_C1, C_eta, tupOp_C, callOn_C, consOp_C, ty_C, len_C, onTup_C, eq_C, getV_F, ix_F0, ix_F1, ty_F, len_F, runF_mk, ofO_nx, ofO_rt, ofO_ex, x_non, x_bl, x_int, x_str, x_v, x_k, x_f, x_nil, x_absent, x_cons, x_tup, x_lst, x_bin, x_neg, x_not, x_and, x_or, x_cmp, x_isn, x_notn, x_ix, x_sl, x_call, x_callv, x_bi, x_isi, x_ise, x_me, x_lc, x_rng, x_rev, s_pass, s_seq, s_set, s_setix, s_aug, s_ex, s_ite, s_wh, s_for, s_ret, s_retn, s_brk, s_cnt, s_raise, s_tryN, s_tryA, consOp_t, tupOp_t, lstOp_t, negOp_i, onTup_t, callOn_t, getV_int, getV_bl, getV_str, getV_tup, getV_ref, getV_fn, getV_non, onFn_f, onExc_f, onInt_i, augNx_s, augop_a, augop_s, okOnly_ok, b_add, b_sub, b_mul, b_fdiv, b_mod, b_addt, c_lt, c_le, c_gt, c_ge, c_eq, c_ne, onL_s, onLo_s, onV_s, atV_s, lr_len, lr_list, lr_tuple, ix_t', ix_r', me_app, me_pop, me_rev, sl_r', sl_t', recv_app, recv_pop, recv_popAt, recv_clear, recv_rev, recv_ins, getL_at0, getL_at1, getL_at2, getL_at3, setL_at0, setL_at1, setL_at2, getL_0, getL_1, getL_2, getL_3, getL_4, setL_1, setL_2, setL_3, atI_0, atI_1, atI_2, atI_m1, List.append_assoc, List.length_append, Nat.add_one_ne_zero, bi_abs, bi_lent, bi_max, bi_min, bi_int, bi_intb, bi_listt, bi_tupt, ty_non, ty_bl, ty_int, ty_str, ty_tup, tb1, tb2, tb3, tb4, tb5, tn1, tn2, tn3, tn4, tn5, tn6, isNon_non, isNon_tup, isNon_int, isNon_ref, items_t, items_r, Option.map_some, fw_nil_n, fw_cons_n, fw_nil_s, fw_cons_s, takeS_0, takeS_s, dropS_0, dropS_s, forOn_s, lcOn_s, R.bind_ok, R.bind_exc, R.bind_bad, R.on_ok, R.on_exc, R.on_bad, onBl_bl, ifB_bl, O.then_nx, O.turn_nx, O.turn_ct, O.turn_bk, O.turn_rt, O.turn_ex, O.then_rt, O.then_ex, O.then_bk, O.then_ct, O.then_bad, onPart_int, onPart_abs, List.getElem?_cons_zero, List.getElem?_cons_succ, List.set_cons_zero, List.set_cons_succ, List.length_cons, List.length_nil, List.map_cons, List.map_nil, List.cons_append, List.nil_append, List.replicate_succ, List.replicate_zero, Nat.reduceAdd, Nat.reduceSub, Nat.reduceEqDiff, Nat.reduceLT, Nat.reduceLeDiff, if_true, if_false, ite_true, ite_false, eq_self, eqop_int, neop_int, eqop_bl, neop_bl, Bool.not_true, Bool.not_false, Bool.true_eq_false, Bool.false_eq_true, Bool.or_true, Bool.or_false, Bool.true_or, Bool.false_or, Bool.and_true, Bool.and_false, reduceIte, reduceCtorEq, decide_true, decide_false, decide_eq_true_eq, Bool.not_eq_true', decide_eq_false_iff_not, Nat.zero_le, lim1, lim2, lim3, lim4, lim5, Int.reduceLE, Int.reduceLT, Int.reduceEq, Int.reduceNe, ne_eq, not_false_eq_true, not_true_eq_false, Int.reduceNeg, and_true, true_and, and_false, false_and, or_true, true_or, or_false, false_or, alloc_e, seen_s, seen_none,  fmp, p10_4, p10_6, p10_9, p10_12, p10_18, p10_20, p10_28, p10_30, p10_40, p10_44, p10_50, p10_57, p10_58, p10_59, p10_60, getV_R, ix_R0, ix_R1, ty_R, len_R, isNon_R, tupOp_R, callOn_R, items_R, consOp_R, R0n, R0d, R1n, R1d, onTup_R, eq_R, ne_R, R_eta, R_0, R_1, R_neg, R_den', R_den1, R_den0, h.gv, hln, hix, i0, hpos, r_under, hs, s2, Sz0, h2, h0, h1, hr, hl]
      · simp only [getV_C, ix_C0, ix_C1, C_eta, tupOp_C, callOn_C, consOp_C, ty_C, len_C, onTup_C, eq_C, getV_F, ix_F0, ix_F1, ty_F, len_F, runF_mk, ofO_nx, ofO_rt, ofO_ex, x_non, x_bl, x_int, x_str, x_v, x_k, x_f, x_nil, x_absent, x_cons, x_tup, x_lst, x_bin, x_neg, x_not, x_and, x_or, x_cmp, x_isn, x_notn, x_ix, x_sl, x_call, x_callv, x_bi, x_isi, x_ise, x_me, x_lc, x_rng, x_rev, s_pass, s_seq, s_set, s_setix, s_aug, s_ex, s_ite, s_wh, s_for, s_ret, s_retn, s_brk, s_cnt, s_raise, s_tryN, s_tryA, consOp_t, tupOp_t, lstOp_t, negOp_i, onTup_t, callOn_t, getV_int, getV_bl, getV_str, getV_tup, getV_ref, getV_fn, getV_non, onFn_f, onExc_f, onInt_i, augNx_s, augop_a, augop_s, okOnly_ok, b_add, b_sub, b_mul, b_fdiv, b_mod, b_addt, c_lt, c_le, c_gt, c_ge, c_eq, c_ne, onL_s, onLo_s, onV_s, atV_s, lr_len, lr_list, lr_tuple, ix_t', ix_r', me_app, me_pop, me_rev, sl_r', sl_t', recv_app, recv_pop, recv_popAt, recv_clear, recv_rev, recv_ins, getL_at0, getL_at1, getL_at2, getL_at3, setL_at0, setL_at1, setL_at2, getL_0, getL_1, getL_2, getL_3, getL_4, setL_1, setL_2, setL_3, atI_0, atI_1, atI_2, atI_m1, List.append_assoc, List.length_append, Nat.add_one_ne_zero, bi_abs, bi_lent, bi_max, bi_min, bi_int, bi_intb, bi_listt, bi_tupt, ty_non, ty_bl, ty_int, ty_str, ty_tup, tb1, tb2, tb3, tb4, tb5, tn1, tn2, tn3, tn4, tn5, tn6, isNon_non, isNon_tup, isNon_int, isNon_ref, items_t, items_r, Option.map_some, fw_nil_n, fw_cons_n, fw_nil_s, fw_cons_s, takeS_0, takeS_s, dropS_0, dropS_s, forOn_s, lcOn_s, R.bind_ok, R.bind_exc, R.bind_bad, R.on_ok, R.on_exc, R.on_bad, onBl_bl, ifB_bl, O.then_nx, O.turn_nx, O.turn_ct, O.turn_bk, O.turn_rt, O.turn_ex, O.then_rt, O.then_ex, O.then_bk, O.then_ct, O.then_bad, onPart_int, onPart_abs, List.getElem?_cons_zero, List.getElem?_cons_succ, List.set_cons_zero, List.set_cons_succ, List.length_cons, List.length_nil, List.map_cons, List.map_nil, List.cons_append, List.nil_append, List.replicate_succ, List.replicate_zero, Nat.reduceAdd, Nat.reduceSub, Nat.reduceEqDiff, Nat.reduceLT, Nat.reduceLeDiff, if_true, if_false, ite_true, ite_false, eq_self, eqop_int, neop_int, eqop_bl, neop_bl, Bool.not_true, Bool.not_false, Bool.true_eq_false, Bool.false_eq_true, Bool.or_true, Bool.or_false, Bool.true_or, Bool.false_or, Bool.and_true, Bool.and_false, reduceIte, reduceCtorEq, decide_true, decide_false, decide_eq_true_eq, Bool.not_eq_true', decide_eq_false_iff_not, Nat.zero_le, lim1, lim2, lim3, lim4, lim5, Int.reduceLE, Int.reduceLT, Int.reduceEq, Int.reduceNe, ne_eq, not_false_eq_true, not_true_eq_false, Int.reduceNeg, and_true, true_and, and_false, false_and, or_true, true_or, or_false, false_or, alloc_e, seen_s, seen_none,  fmp, p10_4, p10_6, p10_9, p10_12, p10_18, p10_20, p10_28, p10_30, p10_40, p10_44, p10_50, p10_57, p10_58, p10_59, p10_60, getV_R, ix_R0, ix_R1, ty_R, len_R, isNon_R, tupOp_R, callOn_R, items_R, consOp_R, R0n, R0d, R1n, R1d, onTup_R, eq_R, ne_R, R_eta, R_0, R_1, R_neg, R_den', R_den1, R_den0, h.gv, hln, hix, i0, hpos, r_under, hs, s2, Sz0, h2, h0]
end Q

namespace Q
open PySem MP
theorem cell_at_run (Φ : Str → List D → Hd → R D) (ns : List Int) (k : Int) (L : Hd) (h0 : 0 ≤ k) : runF Φ F__law_cell_at [.ref 0, .int k] (SC ns L) = .ok (.int (cell ns k)) (SC ns L) := by
  unfold F__law_cell_at
  by_cases h : k < ns.length
  · simp only [runF_mk, ofO_nx, ofO_rt, ofO_ex, x_non, x_bl, x_int, x_str, x_v, x_k, x_f, x_nil, x_absent, x_cons, x_tup, x_lst, x_bin, x_neg, x_not, x_and, x_or, x_cmp, x_isn, x_notn, x_ix, x_sl, x_call, x_callv, x_bi, x_isi, x_ise, x_me, x_lc, x_rng, x_rev, s_pass, s_seq, s_set, s_setix, s_aug, s_ex, s_ite, s_wh, s_for, s_ret, s_retn, s_brk, s_cnt, s_raise, s_tryN, s_tryA, consOp_t, tupOp_t, lstOp_t, negOp_i, onTup_t, callOn_t, getV_int, getV_bl, getV_str, getV_tup, getV_ref, getV_fn, getV_non, onFn_f, onExc_f, onInt_i, augNx_s, augop_a, augop_s, okOnly_ok, b_add, b_sub, b_mul, b_fdiv, b_mod, b_addt, c_lt, c_le, c_gt, c_ge, c_eq, c_ne, onL_s, onLo_s, onV_s, atV_s, lr_len, lr_list, lr_tuple, ix_t', ix_r', me_app, me_pop, me_rev, sl_r', sl_t', recv_app, recv_pop, recv_popAt, recv_clear, recv_rev, recv_ins, getL_at0, getL_at1, getL_at2, getL_at3, setL_at0, setL_at1, setL_at2, getL_0, getL_1, getL_2, getL_3, getL_4, setL_1, setL_2, setL_3, atI_0, atI_1, atI_2, atI_m1, List.append_assoc, List.length_append, Nat.add_one_ne_zero, bi_abs, bi_lent, bi_max, bi_min, bi_int, bi_intb, bi_listt, bi_tupt, ty_non, ty_bl, ty_int, ty_str, ty_tup, tb1, tb2, tb3, tb4, tb5, tn1, tn2, tn3, tn4, tn5, tn6, isNon_non, isNon_tup, isNon_int, isNon_ref, items_t, items_r, Option.map_some, fw_nil_n, fw_cons_n, fw_nil_s, fw_cons_s, takeS_0, takeS_s, dropS_0, dropS_s, forOn_s, lcOn_s, R.bind_ok, R.bind_exc, R.bind_bad, R.on_ok, R.on_exc, R.on_bad, onBl_bl, ifB_bl, O.then_nx, O.turn_nx, O.turn_ct, O.turn_bk, O.turn_rt, O.turn_ex, O.then_rt, O.then_ex, O.then_bk, O.then_ct, O.then_bad, onPart_int, onPart_abs, List.getElem?_cons_zero, List.getElem?_cons_succ, List.set_cons_zero, List.set_cons_succ, List.length_cons, List.length_nil, List.map_cons, List.map_nil, List.cons_append, List.nil_append, List.replicate_succ, List.replicate_zero, Nat.reduceAdd, Nat.reduceSub, Nat.reduceEqDiff, Nat.reduceLT, Nat.reduceLeDiff, if_true, if_false, ite_true, ite_false, eq_self, eqop_int, neop_int, eqop_bl, neop_bl, Bool.not_true, Bool.not_false, Bool.true_eq_false, Bool.false_eq_true, Bool.or_true, Bool.or_false, Bool.true_or, Bool.false_or, Bool.and_true, Bool.and_false, reduceIte, reduceCtorEq, decide_true, decide_false, decide_eq_true_eq, Bool.not_eq_true', decide_eq_false_iff_not, Nat.zero_le, lim1, lim2, lim3, lim4, lim5, Int.reduceLE, Int.reduceLT, Int.reduceEq, Int.reduceNe, ne_eq, not_false_eq_true, not_true_eq_false, Int.reduceNeg, and_true, true_and, and_false, false_and, or_true, true_or, or_false, false_or, List.length_map, h, atI_map ns k h0 h]
  · have hc : cell ns k = 0 := by
      unfold cell
      rw [List.getD_eq_getElem?_getD, List.getElem?_eq_none (by omega)]
      rfl
    simp only [runF_mk, ofO_nx, ofO_rt, ofO_ex, x_non, x_bl, x_int, x_str, x_v, x_k, x_f, x_nil, x_absent, x_cons, x_tup, x_lst, x_bin, x_neg, x_not, x_and, x_or, x_cmp, x_isn, x_notn, x_ix, x_sl, x_call, x_callv, x_bi, x_isi, x_ise, x_me, x_lc, x_rng, x_rev, s_pass, s_seq, s_set, s_setix, s_aug, s_ex, s_ite, s_wh, s_for, s_ret, s_retn, s_brk, s_cnt, s_raise, s_tryN, s_tryA, consOp_t, tupOp_t, lstOp_t, negOp_i, onTup_t, callOn_t, getV_int, getV_bl, getV_str, getV_tup, getV_ref, getV_fn, getV_non, onFn_f, onExc_f, onInt_i, augNx_s, augop_a, augop_s, okOnly_ok, b_add, b_sub, b_mul, b_fdiv, b_mod, b_addt, c_lt, c_le, c_gt, c_ge, c_eq, c_ne, onL_s, onLo_s, onV_s, atV_s, lr_len, lr_list, lr_tuple, ix_t', ix_r', me_app, me_pop, me_rev, sl_r', sl_t', recv_app, recv_pop, recv_popAt, recv_clear, recv_rev, recv_ins, getL_at0, getL_at1, getL_at2, getL_at3, setL_at0, setL_at1, setL_at2, getL_0, getL_1, getL_2, getL_3, getL_4, setL_1, setL_2, setL_3, atI_0, atI_1, atI_2, atI_m1, List.append_assoc, List.length_append, Nat.add_one_ne_zero, bi_abs, bi_lent, bi_max, bi_min, bi_int, bi_intb, bi_listt, bi_tupt, ty_non, ty_bl, ty_int, ty_str, ty_tup, tb1, tb2, tb3, tb4, tb5, tn1, tn2, tn3, tn4, tn5, tn6, isNon_non, isNon_tup, isNon_int, isNon_ref, items_t, items_r, Option.map_some, fw_nil_n, fw_cons_n, fw_nil_s, fw_cons_s, takeS_0, takeS_s, dropS_0, dropS_s, forOn_s, lcOn_s, R.bind_ok, R.bind_exc, R.bind_bad, R.on_ok, R.on_exc, R.on_bad, onBl_bl, ifB_bl, O.then_nx, O.turn_nx, O.turn_ct, O.turn_bk, O.turn_rt, O.turn_ex, O.then_rt, O.then_ex, O.then_bk, O.then_ct, O.then_bad, onPart_int, onPart_abs, List.getElem?_cons_zero, List.getElem?_cons_succ, List.set_cons_zero, List.set_cons_succ, List.length_cons, List.length_nil, List.map_cons, List.map_nil, List.cons_append, List.nil_append, List.replicate_succ, List.replicate_zero, Nat.reduceAdd, Nat.reduceSub, Nat.reduceEqDiff, Nat.reduceLT, Nat.reduceLeDiff, if_true, if_false, ite_true, ite_false, eq_self, eqop_int, neop_int, eqop_bl, neop_bl, Bool.not_true, Bool.not_false, Bool.true_eq_false, Bool.false_eq_true, Bool.or_true, Bool.or_false, Bool.true_or, Bool.false_or, Bool.and_true, Bool.and_false, reduceIte, reduceCtorEq, decide_true, decide_false, decide_eq_true_eq, Bool.not_eq_true', decide_eq_false_iff_not, Nat.zero_le, lim1, lim2, lim3, lim4, lim5, Int.reduceLE, Int.reduceLT, Int.reduceEq, Int.reduceNe, ne_eq, not_false_eq_true, not_true_eq_false, Int.reduceNeg, and_true, true_and, and_false, false_and, or_true, true_or, or_false, false_or, List.length_map, h, hc]
theorem r_cell_at (n : Nat) (ns : List Int) (k : Int) (L : Hd) (h0 : 0 ≤ k) : runT T (n + 1) "_law_cell_at" [.ref 0, .int k] (SC ns L) = .ok (.int (cell ns k)) (SC ns L) := by
  rw [runT_succ T__law_cell_at]
  exact cell_at_run _ ns k L h0
end Q

namespace Q
open PySem MP
def rb (c o m : Int) : Rat := Rat.divInt (sg c m) (lo o m)
theorem rb_Rb (c o m : Int) {k : Nat} (h : 1 < m) (hm : m.natAbs ≤ 2 ^ k) : Rb (rb c o m) k := Rb.div (sg_big c m (by omega) hm) (lo_big o m h hm) (by have := lo_pos o m; omega)
end Q

namespace Q
open PySem MP
theorem low_loop {Φ : Str → List D → Hd → R D} {L : Hd} (e0 e1 : Option D) : ∀ (n : Nat) (a b : Nat) (r : Option D), b ≤ n → ∃ r', whW Φ C__law_lowest_1 B__law_lowest_1 [e0, e1, some (.int a), some (.int b), r] L = .nx [e0, e1, some (.int (Nat.gcd a b)), some (.int 0), r'] L
  | n, a, 0, r, _ => by
    rw [whW_step]
    simp only [UC__law_lowest_1, UB__law_lowest_1, runF_mk, ofO_nx, ofO_rt, ofO_ex, x_non, x_bl, x_int, x_str, x_v, x_k, x_f, x_nil, x_absent, x_cons, x_tup, x_lst, x_bin, x_neg, x_not, x_and, x_or, x_cmp, x_isn, x_notn, x_ix, x_sl, x_call, x_callv, x_bi, x_isi, x_ise, x_me, x_lc, x_rng, x_rev, s_pass, s_seq, s_set, s_setix, s_aug, s_ex, s_ite, s_wh, s_for, s_ret, s_retn, s_brk, s_cnt, s_raise, s_tryN, s_tryA, consOp_t, tupOp_t, lstOp_t, negOp_i, onTup_t, callOn_t, getV_int, getV_bl, getV_str, getV_tup, getV_ref, getV_fn, getV_non, onFn_f, onExc_f, onInt_i, augNx_s, augop_a, augop_s, okOnly_ok, b_add, b_sub, b_mul, b_fdiv, b_mod, b_addt, c_lt, c_le, c_gt, c_ge, c_eq, c_ne, onL_s, onLo_s, onV_s, atV_s, lr_len, lr_list, lr_tuple, ix_t', ix_r', me_app, me_pop, me_rev, sl_r', sl_t', recv_app, recv_pop, recv_popAt, recv_clear, recv_rev, recv_ins, getL_at0, getL_at1, getL_at2, getL_at3, setL_at0, setL_at1, setL_at2, getL_0, getL_1, getL_2, getL_3, getL_4, setL_1, setL_2, setL_3, atI_0, atI_1, atI_2, atI_m1, List.append_assoc, List.length_append, Nat.add_one_ne_zero, bi_abs, bi_lent, bi_max, bi_min, bi_int, bi_intb, bi_listt, bi_tupt, ty_non, ty_bl, ty_int, ty_str, ty_tup, tb1, tb2, tb3, tb4, tb5, tn1, tn2, tn3, tn4, tn5, tn6, isNon_non, isNon_tup, isNon_int, isNon_ref, items_t, items_r, Option.map_some, fw_nil_n, fw_cons_n, fw_nil_s, fw_cons_s, takeS_0, takeS_s, dropS_0, dropS_s, forOn_s, lcOn_s, R.bind_ok, R.bind_exc, R.bind_bad, R.on_ok, R.on_exc, R.on_bad, onBl_bl, ifB_bl, O.then_nx, O.turn_nx, O.turn_ct, O.turn_bk, O.turn_rt, O.turn_ex, O.then_rt, O.then_ex, O.then_bk, O.then_ct, O.then_bad, onPart_int, onPart_abs, List.getElem?_cons_zero, List.getElem?_cons_succ, List.set_cons_zero, List.set_cons_succ, List.length_cons, List.length_nil, List.map_cons, List.map_nil, List.cons_append, List.nil_append, List.replicate_succ, List.replicate_zero, Nat.reduceAdd, Nat.reduceSub, Nat.reduceEqDiff, Nat.reduceLT, Nat.reduceLeDiff, if_true, if_false, ite_true, ite_false, eq_self, eqop_int, neop_int, eqop_bl, neop_bl, Bool.not_true, Bool.not_false, Bool.true_eq_false, Bool.false_eq_true, Bool.or_true, Bool.or_false, Bool.true_or, Bool.false_or, Bool.and_true, Bool.and_false, reduceIte, reduceCtorEq, decide_true, decide_false, decide_eq_true_eq, Bool.not_eq_true', decide_eq_false_iff_not, Nat.zero_le, lim1, lim2, lim3, lim4, lim5, Int.reduceLE, Int.reduceLT, Int.reduceEq, Int.reduceNe, ne_eq, not_false_eq_true, not_true_eq_false, Int.reduceNeg, and_true, true_and, and_false, false_and, or_true, true_or, or_false, false_or]
    exact ⟨r, by simp⟩
  | 0, a, b + 1, r, h => absurd h (by omega)
  | n + 1, a, b + 1, r, h => by
    have hb : ((b + 1 : Nat) : Int) ≠ 0 := by omega
    have hlt : a % (b + 1) < b + 1 := Nat.mod_lt _ (by omega)
    obtain ⟨r', ih⟩ := low_loop e0 e1 n (b + 1) (a % (b + 1)) (some (.int ((a % (b + 1) : Nat) : Int))) (by omega)
    refine ⟨r', ?_⟩
    rw [whW_step]
    have hm : (a : Int).fmod ((b + 1 : Nat) : Int) = ((a % (b + 1) : Nat) : Int) := by
      rw [Int.fmod_eq_emod_of_nonneg _ (by omega)]
      rfl
    simp only [UC__law_lowest_1, UB__law_lowest_1, runF_mk, ofO_nx, ofO_rt, ofO_ex, x_non, x_bl, x_int, x_str, x_v, x_k, x_f, x_nil, x_absent, x_cons, x_tup, x_lst, x_bin, x_neg, x_not, x_and, x_or, x_cmp, x_isn, x_notn, x_ix, x_sl, x_call, x_callv, x_bi, x_isi, x_ise, x_me, x_lc, x_rng, x_rev, s_pass, s_seq, s_set, s_setix, s_aug, s_ex, s_ite, s_wh, s_for, s_ret, s_retn, s_brk, s_cnt, s_raise, s_tryN, s_tryA, consOp_t, tupOp_t, lstOp_t, negOp_i, onTup_t, callOn_t, getV_int, getV_bl, getV_str, getV_tup, getV_ref, getV_fn, getV_non, onFn_f, onExc_f, onInt_i, augNx_s, augop_a, augop_s, okOnly_ok, b_add, b_sub, b_mul, b_fdiv, b_mod, b_addt, c_lt, c_le, c_gt, c_ge, c_eq, c_ne, onL_s, onLo_s, onV_s, atV_s, lr_len, lr_list, lr_tuple, ix_t', ix_r', me_app, me_pop, me_rev, sl_r', sl_t', recv_app, recv_pop, recv_popAt, recv_clear, recv_rev, recv_ins, getL_at0, getL_at1, getL_at2, getL_at3, setL_at0, setL_at1, setL_at2, getL_0, getL_1, getL_2, getL_3, getL_4, setL_1, setL_2, setL_3, atI_0, atI_1, atI_2, atI_m1, List.append_assoc, List.length_append, Nat.add_one_ne_zero, bi_abs, bi_lent, bi_max, bi_min, bi_int, bi_intb, bi_listt, bi_tupt, ty_non, ty_bl, ty_int, ty_str, ty_tup, tb1, tb2, tb3, tb4, tb5, tn1, tn2, tn3, tn4, tn5, tn6, isNon_non, isNon_tup, isNon_int, isNon_ref, items_t, items_r, Option.map_some, fw_nil_n, fw_cons_n, fw_nil_s, fw_cons_s, takeS_0, takeS_s, dropS_0, dropS_s, forOn_s, lcOn_s, R.bind_ok, R.bind_exc, R.bind_bad, R.on_ok, R.on_exc, R.on_bad, onBl_bl, ifB_bl, O.then_nx, O.turn_nx, O.turn_ct, O.turn_bk, O.turn_rt, O.turn_ex, O.then_rt, O.then_ex, O.then_bk, O.then_ct, O.then_bad, onPart_int, onPart_abs, List.getElem?_cons_zero, List.getElem?_cons_succ, List.set_cons_zero, List.set_cons_succ, List.length_cons, List.length_nil, List.map_cons, List.map_nil, List.cons_append, List.nil_append, List.replicate_succ, List.replicate_zero, Nat.reduceAdd, Nat.reduceSub, Nat.reduceEqDiff, Nat.reduceLT, Nat.reduceLeDiff, if_true, if_false, ite_true, ite_false, eq_self, eqop_int, neop_int, eqop_bl, neop_bl, Bool.not_true, Bool.not_false, Bool.true_eq_false, Bool.false_eq_true, Bool.or_true, Bool.or_false, Bool.true_or, Bool.false_or, Bool.and_true, Bool.and_false, reduceIte, reduceCtorEq, decide_true, decide_false, decide_eq_true_eq, Bool.not_eq_true', decide_eq_false_iff_not, Nat.zero_le, lim1, lim2, lim3, lim4, lim5, Int.reduceLE, Int.reduceLT, Int.reduceEq, Int.reduceNe, ne_eq, not_false_eq_true, not_true_eq_false, Int.reduceNeg, and_true, true_and, and_false, false_and, or_true, true_or, or_false, false_or, hb, hm]
    rw [ih, Nat.gcd_comm a, Nat.gcd_rec (b + 1) a, Nat.gcd_comm]
theorem r_lowest (n : Nat) (t b : Int) (L : Hd) (hb : 0 < b) (ht : t.natAbs < 2 ^ BIG) (hbb : b.natAbs < 2 ^ BIG) : runT T (n + 1) "_law_lowest" [.int t, .int b] L = .ok (dR (Rat.divInt t b)) L := by
  rw [runT_succ T__law_lowest]
  obtain ⟨r, hl⟩ := low_loop (Φ := runT T n) (L := L) (some (.int t)) (some (.int b)) b.natAbs t.natAbs b.natAbs none (Nat.le_refl _)
  have hb' : ((b.natAbs : Nat) : Int) = b := by omega
  rw [hb'] at hl
  have hg : ((Nat.gcd t.natAbs b.natAbs : Nat) : Int) ≠ 0 := by
    intro h
    have h' : Int.gcd t b = 0 := by show Nat.gcd t.natAbs b.natAbs = 0; omega
    have := (Int.gcd_eq_zero_iff.mp h').2
    omega
  have hp := div_pos_parts t b hb
  have d1 := divOk_of hg ht
  have d2 := divOk_of hg hbb
  have p1 : t.fdiv (Nat.gcd t.natAbs b.natAbs : Nat) = (Rat.divInt t b).num := hp.1
  have p2 : b.fdiv (Nat.gcd t.natAbs b.natAbs : Nat) = ((Rat.divInt t b).den : Int) := hp.2
  unfold F__law_lowest
  simp only [runF_mk, ofO_nx, ofO_rt, ofO_ex, x_non, x_bl, x_int, x_str, x_v, x_k, x_f, x_nil, x_absent, x_cons, x_tup, x_lst, x_bin, x_neg, x_not, x_and, x_or, x_cmp, x_isn, x_notn, x_ix, x_sl, x_call, x_callv, x_bi, x_isi, x_ise, x_me, x_lc, x_rng, x_rev, s_pass, s_seq, s_set, s_setix, s_aug, s_ex, s_ite, s_wh, s_for, s_ret, s_retn, s_brk, s_cnt, s_raise, s_tryN, s_tryA, consOp_t, tupOp_t, lstOp_t, negOp_i, onTup_t, callOn_t, getV_int, getV_bl, getV_str, getV_tup, getV_ref, getV_fn, getV_non, onFn_f, onExc_f, onInt_i, augNx_s, augop_a, augop_s, okOnly_ok, b_add, b_sub, b_mul, b_fdiv, b_mod, b_addt, c_lt, c_le, c_gt, c_ge, c_eq, c_ne, onL_s, onLo_s, onV_s, atV_s, lr_len, lr_list, lr_tuple, ix_t', ix_r', me_app, me_pop, me_rev, sl_r', sl_t', recv_app, recv_pop, recv_popAt, recv_clear, recv_rev, recv_ins, getL_at0, getL_at1, getL_at2, getL_at3, setL_at0, setL_at1, setL_at2, getL_0, getL_1, getL_2, getL_3, getL_4, setL_1, setL_2, setL_3, atI_0, atI_1, atI_2, atI_m1, List.append_assoc, List.length_append, Nat.add_one_ne_zero, bi_abs, bi_lent, bi_max, bi_min, bi_int, bi_intb, bi_listt, bi_tupt, ty_non, ty_bl, ty_int, ty_str, ty_tup, tb1, tb2, tb3, tb4, tb5, tn1, tn2, tn3, tn4, tn5, tn6, isNon_non, isNon_tup, isNon_int, isNon_ref, items_t, items_r, Option.map_some, fw_nil_n, fw_cons_n, fw_nil_s, fw_cons_s, takeS_0, takeS_s, dropS_0, dropS_s, forOn_s, lcOn_s, R.bind_ok, R.bind_exc, R.bind_bad, R.on_ok, R.on_exc, R.on_bad, onBl_bl, ifB_bl, O.then_nx, O.turn_nx, O.turn_ct, O.turn_bk, O.turn_rt, O.turn_ex, O.then_rt, O.then_ex, O.then_bk, O.then_ct, O.then_bad, onPart_int, onPart_abs, List.getElem?_cons_zero, List.getElem?_cons_succ, List.set_cons_zero, List.set_cons_succ, List.length_cons, List.length_nil, List.map_cons, List.map_nil, List.cons_append, List.nil_append, List.replicate_succ, List.replicate_zero, Nat.reduceAdd, Nat.reduceSub, Nat.reduceEqDiff, Nat.reduceLT, Nat.reduceLeDiff, if_true, if_false, ite_true, ite_false, eq_self, eqop_int, neop_int, eqop_bl, neop_bl, Bool.not_true, Bool.not_false, Bool.true_eq_false, Bool.false_eq_true, Bool.or_true, Bool.or_false, Bool.true_or, Bool.false_or, Bool.and_true, Bool.and_false, reduceIte, reduceCtorEq, decide_true, decide_false, decide_eq_true_eq, Bool.not_eq_true', decide_eq_false_iff_not, Nat.zero_le, lim1, lim2, lim3, lim4, lim5, Int.reduceLE, Int.reduceLT, Int.reduceEq, Int.reduceNe, ne_eq, not_false_eq_true, not_true_eq_false, Int.reduceNeg, and_true, true_and, and_false, false_and, or_true, true_or, or_false, false_or, alloc_e, seen_s, seen_none,  fmp, p10_4, p10_6, p10_9, p10_12, p10_18, p10_20, p10_28, p10_30, p10_40, p10_44, p10_50, p10_57, p10_58, p10_59, p10_60, getV_R, ix_R0, ix_R1, ty_R, len_R, isNon_R, tupOp_R, callOn_R, items_R, consOp_R, R0n, R0d, R1n, R1d, onTup_R, eq_R, ne_R, R_eta, R_0, R_1, R_neg, R_den', R_den1, R_den0, abs_nat, hl, d1, d2, p1, p2]
end Q

namespace Q
open PySem MP
theorem nn_div {a b : Int} (ha : 0 ≤ a) (hb : 0 < b) : ¬ Rat.divInt a b < 0 := by
  rw [Rat.lt_iff]
  have h : 0 ≤ (Rat.divInt a b).num := by
    rw [Rat.num_divInt, Int.sign_eq_one_of_pos hb, Int.one_mul]
    exact Int.ediv_nonneg ha (by omega)
  show ¬ ((Rat.divInt a b).num * ((1 : Nat) : Int) < 0 * _)
  rw [Int.zero_mul]
  omega
theorem divOk3 (c : Int) : divOk c 3 := ⟨by decide, by
  unfold Builtin.divisionGoesByPylong
  simp only [Bool.and_eq_false_iff, decide_eq_false_iff_not, Nat.not_lt]
  left
  decide⟩
theorem fdiv3 (c : Int) : c.fdiv 3 = c / 3 := Int.fdiv_eq_ediv_of_nonneg _ (by omega)
end Q

namespace Q
open PySem MP
theorem cut_map {α β : Type} (f : α → β) (xs : List α) (lo hi : Option Int) : cut (xs.map f) lo hi = (cut xs lo hi).map f := by
  unfold cut
  rw [List.length_map, ← List.map_drop, ← List.map_take]
theorem cut_len {α : Type} (xs : List α) (lo hi : Option Int) : (cut xs lo hi).length ≤ xs.length := by
  unfold cut
  rw [List.length_take, List.length_drop]
  omega
theorem lc_nil {Φ : Str → List D → Hd → R D} {s : Nat} {c e : Ex} {ρ : MP.Env} {all : List D} {L : Hd} : lcW Φ s c e ρ none all [] L = .ok [] L := if_pos trivial
theorem lc_cons {Φ : Str → List D → Hd → R D} {s : Nat} {c e : Ex} {ρ : MP.Env} {all xs ys : List D} {x y : D} {L : Hd} (h1 : evE Φ c (ρ.set s (some x)) L = .ok (.bl true) L) (h2 : evE Φ e (ρ.set s (some x)) L = .ok y L) (h3 : lcW Φ s c e ρ none all xs L = .ok ys L) : lcW Φ s c e ρ none all (x :: xs) L = .ok (y :: ys) L := by
  unfold lcW at h3 ⊢
  rw [lcGo, if_pos (show seen none all L from trivial)]
  simp only [h1, h2, h3]
theorem many_lc (Φ : Str → List D → Hd → R D) (e0 e1 e2 : Option D) (m : Int) (r : Option D) (all : List D) (L : Hd) (hm : m.natAbs < 2 ^ 110) : ∀ (n : Nat) (k : Int), 0 ≤ k → k + n ≤ 1000 → ∃ ms : List Int, ms.length = n ∧ lcW Φ 4 C__law_many_cells_1 E__law_many_cells_1 [e0, e1, e2, some (.int m), r] none all (steps k 1 n) L = .ok (ms.map D.int) L
  | 0, k, _, _ => ⟨[], rfl, lc_nil⟩
  | n + 1, k, h0, hk => by
    obtain ⟨ms, hl, ih⟩ := many_lc Φ e0 e1 e2 m r all L hm n (k + 1) (by omega) (by omega)
    refine ⟨(m + k * k + 7) * 48271 % 1000003 * 69621 % 999983 :: ms, by rw [List.length_cons, hl], ?_⟩
    have m1 : mulOk k k := mulOk_small (by omega)
    have m2 : mulOk (m + k * k + 7) 48271 := mulOk_small (by decide)
    have m3 : mulOk ((m + k * k + 7) * 48271 % 1000003) 69621 := mulOk_small (by decide)
    refine lc_cons ?_ ?_ ih
    · simp only [UC__law_many_cells_1, runF_mk, ofO_nx, ofO_rt, ofO_ex, x_non, x_bl, x_int, x_str, x_v, x_k, x_f, x_nil, x_absent, x_cons, x_tup, x_lst, x_bin, x_neg, x_not, x_and, x_or, x_cmp, x_isn, x_notn, x_ix, x_sl, x_call, x_callv, x_bi, x_isi, x_ise, x_me, x_lc, x_rng, x_rev, s_pass, s_seq, s_set, s_setix, s_aug, s_ex, s_ite, s_wh, s_for, s_ret, s_retn, s_brk, s_cnt, s_raise, s_tryN, s_tryA, consOp_t, tupOp_t, lstOp_t, negOp_i, onTup_t, callOn_t, getV_int, getV_bl, getV_str, getV_tup, getV_ref, getV_fn, getV_non, onFn_f, onExc_f, onInt_i, augNx_s, augop_a, augop_s, okOnly_ok, b_add, b_sub, b_mul, b_fdiv, b_mod, b_addt, c_lt, c_le, c_gt, c_ge, c_eq, c_ne, onL_s, onLo_s, onV_s, atV_s, lr_len, lr_list, lr_tuple, ix_t', ix_r', me_app, me_pop, me_rev, sl_r', sl_t', recv_app, recv_pop, recv_popAt, recv_clear, recv_rev, recv_ins, getL_at0, getL_at1, getL_at2, getL_at3, setL_at0, setL_at1, setL_at2, getL_0, getL_1, getL_2, getL_3, getL_4, setL_1, setL_2, setL_3, atI_0, atI_1, atI_2, atI_m1, List.append_assoc, List.length_append, Nat.add_one_ne_zero, bi_abs, bi_lent, bi_max, bi_min, bi_int, bi_intb, bi_listt, bi_tupt, ty_non, ty_bl, ty_int, ty_str, ty_tup, tb1, tb2, tb3, tb4, tb5, tn1, tn2, tn3, tn4, tn5, tn6, isNon_non, isNon_tup, isNon_int, isNon_ref, items_t, items_r, Option.map_some, fw_nil_n, fw_cons_n, fw_nil_s, fw_cons_s, takeS_0, takeS_s, dropS_0, dropS_s, forOn_s, lcOn_s, R.bind_ok, R.bind_exc, R.bind_bad, R.on_ok, R.on_exc, R.on_bad, onBl_bl, ifB_bl, O.then_nx, O.turn_nx, O.turn_ct, O.turn_bk, O.turn_rt, O.turn_ex, O.then_rt, O.then_ex, O.then_bk, O.then_ct, O.then_bad, onPart_int, onPart_abs, List.getElem?_cons_zero, List.getElem?_cons_succ, List.set_cons_zero, List.set_cons_succ, List.length_cons, List.length_nil, List.map_cons, List.map_nil, List.cons_append, List.nil_append, List.replicate_succ, List.replicate_zero, Nat.reduceAdd, Nat.reduceSub, Nat.reduceEqDiff, Nat.reduceLT, Nat.reduceLeDiff, if_true, if_false, ite_true, ite_false, eq_self, eqop_int, neop_int, eqop_bl, neop_bl, Bool.not_true, Bool.not_false, Bool.true_eq_false, Bool.false_eq_true, Bool.or_true, Bool.or_false, Bool.true_or, Bool.false_or, Bool.and_true, Bool.and_false, reduceIte, reduceCtorEq, decide_true, decide_false, decide_eq_true_eq, Bool.not_eq_true', decide_eq_false_iff_not, Nat.zero_le, lim1, lim2, lim3, lim4, lim5, Int.reduceLE, Int.reduceLT, Int.reduceEq, Int.reduceNe, ne_eq, not_false_eq_true, not_true_eq_false, Int.reduceNeg, and_true, true_and, and_false, false_and, or_true, true_or, or_false, false_or, alloc_e, seen_s, seen_none,  fmp, p10_4, p10_6, p10_9, p10_12, p10_18, p10_20, p10_28, p10_30, p10_40, p10_44, p10_50, p10_57, p10_58, p10_59, p10_60]
    · simp only [UE__law_many_cells_1, runF_mk, ofO_nx, ofO_rt, ofO_ex, x_non, x_bl, x_int, x_str, x_v, x_k, x_f, x_nil, x_absent, x_cons, x_tup, x_lst, x_bin, x_neg, x_not, x_and, x_or, x_cmp, x_isn, x_notn, x_ix, x_sl, x_call, x_callv, x_bi, x_isi, x_ise, x_me, x_lc, x_rng, x_rev, s_pass, s_seq, s_set, s_setix, s_aug, s_ex, s_ite, s_wh, s_for, s_ret, s_retn, s_brk, s_cnt, s_raise, s_tryN, s_tryA, consOp_t, tupOp_t, lstOp_t, negOp_i, onTup_t, callOn_t, getV_int, getV_bl, getV_str, getV_tup, getV_ref, getV_fn, getV_non, onFn_f, onExc_f, onInt_i, augNx_s, augop_a, augop_s, okOnly_ok, b_add, b_sub, b_mul, b_fdiv, b_mod, b_addt, c_lt, c_le, c_gt, c_ge, c_eq, c_ne, onL_s, onLo_s, onV_s, atV_s, lr_len, lr_list, lr_tuple, ix_t', ix_r', me_app, me_pop, me_rev, sl_r', sl_t', recv_app, recv_pop, recv_popAt, recv_clear, recv_rev, recv_ins, getL_at0, getL_at1, getL_at2, getL_at3, setL_at0, setL_at1, setL_at2, getL_0, getL_1, getL_2, getL_3, getL_4, setL_1, setL_2, setL_3, atI_0, atI_1, atI_2, atI_m1, List.append_assoc, List.length_append, Nat.add_one_ne_zero, bi_abs, bi_lent, bi_max, bi_min, bi_int, bi_intb, bi_listt, bi_tupt, ty_non, ty_bl, ty_int, ty_str, ty_tup, tb1, tb2, tb3, tb4, tb5, tn1, tn2, tn3, tn4, tn5, tn6, isNon_non, isNon_tup, isNon_int, isNon_ref, items_t, items_r, Option.map_some, fw_nil_n, fw_cons_n, fw_nil_s, fw_cons_s, takeS_0, takeS_s, dropS_0, dropS_s, forOn_s, lcOn_s, R.bind_ok, R.bind_exc, R.bind_bad, R.on_ok, R.on_exc, R.on_bad, onBl_bl, ifB_bl, O.then_nx, O.turn_nx, O.turn_ct, O.turn_bk, O.turn_rt, O.turn_ex, O.then_rt, O.then_ex, O.then_bk, O.then_ct, O.then_bad, onPart_int, onPart_abs, List.getElem?_cons_zero, List.getElem?_cons_succ, List.set_cons_zero, List.set_cons_succ, List.length_cons, List.length_nil, List.map_cons, List.map_nil, List.cons_append, List.nil_append, List.replicate_succ, List.replicate_zero, Nat.reduceAdd, Nat.reduceSub, Nat.reduceEqDiff, Nat.reduceLT, Nat.reduceLeDiff, if_true, if_false, ite_true, ite_false, eq_self, eqop_int, neop_int, eqop_bl, neop_bl, Bool.not_true, Bool.not_false, Bool.true_eq_false, Bool.false_eq_true, Bool.or_true, Bool.or_false, Bool.true_or, Bool.false_or, Bool.and_true, Bool.and_false, reduceIte, reduceCtorEq, decide_true, decide_false, decide_eq_true_eq, Bool.not_eq_true', decide_eq_false_iff_not, Nat.zero_le, lim1, lim2, lim3, lim4, lim5, Int.reduceLE, Int.reduceLT, Int.reduceEq, Int.reduceNe, ne_eq, not_false_eq_true, not_true_eq_false, Int.reduceNeg, and_true, true_and, and_false, false_and, or_true, true_or, or_false, false_or, alloc_e, seen_s, seen_none,  fmp, p10_4, p10_6, p10_9, p10_12, p10_18, p10_20, p10_28, p10_30, p10_40, p10_44, p10_50, p10_57, p10_58, p10_59, p10_60, m1, m2, m3]
theorem r_many_cells (n : Nat) (ns : List Int) (J : Hd) (b seed : Int) (hn : ns.length ≤ 63) : ∃ (ms : List Int) (m : Nat) (J' : Hd), runT T (n + 1) "_law_many_cells" [.ref 0, .int b, .int seed] (SC ns J) = .ok (.ref m) (SC ns J ++ J') ∧ getL (SC ns J ++ J') m = some (ms.map D.int) ∧ m ≠ 0 ∧ ms.length ≤ 118 := by
  rw [runT_succ T__law_many_cells]
  unfold F__law_many_cells
  by_cases hs : seed % 4 = 1
  · have d4 : divOk seed 4 := ⟨by decide, by
      unfold Builtin.divisionGoesByPylong
      simp only [Bool.and_eq_false_iff, decide_eq_false_iff_not, Nat.not_lt]
      left
      decide⟩
    have f4 : seed.fdiv 4 = seed / 4 := Int.fdiv_eq_ediv_of_nonneg _ (by omega)
    obtain ⟨M, hM⟩ : ∃ M, M = seed / 4 % 1000000000000000000000000000000 := ⟨_, rfl⟩
    have hM1 : M.natAbs < 2 ^ 110 := by omega
    obtain ⟨k, hk⟩ : ∃ k : Nat, 2 * (M % 60) = (k : Int) := ⟨(2 * (M % 60)).toNat, by omega⟩
    have hk2 : k ≤ 118 := by omega
    obtain ⟨ms, hl, he⟩ := many_lc (runT T n) (some (.ref 0)) (some (.int b)) (some (.int seed)) M none (steps 0 1 k) (SC ns J) hM1 k 0 (by decide) (by omega)
    have e : ∀ L, rngop [.int (k : Int)] L = .ok (.tup (steps 0 1 k)) L := fun L => by
      have e0 : rngop [.int (k : Int)] L = if small (k : Int) then .ok (.tup (steps 0 1 (k : Int).toNat)) L else .bad := rfl
      rw [e0, if_pos (by unfold small; omega), Int.toNat_natCast]
    have m1 : mulOk 2 (M % 60) := mulOk_small' (by decide)
    have hll : ms.length ≤ LIM := by unfold LIM; omega
    refine ⟨ms, (SC ns J).length, [.lst (ms.map D.int)], ?_, getL_at0, by simp, by omega⟩
    simp only [runF_mk, ofO_nx, ofO_rt, ofO_ex, x_non, x_bl, x_int, x_str, x_v, x_k, x_f, x_nil, x_absent, x_cons, x_tup, x_lst, x_bin, x_neg, x_not, x_and, x_or, x_cmp, x_isn, x_notn, x_ix, x_sl, x_call, x_callv, x_bi, x_isi, x_ise, x_me, x_lc, x_rng, x_rev, s_pass, s_seq, s_set, s_setix, s_aug, s_ex, s_ite, s_wh, s_for, s_ret, s_retn, s_brk, s_cnt, s_raise, s_tryN, s_tryA, consOp_t, tupOp_t, lstOp_t, negOp_i, onTup_t, callOn_t, getV_int, getV_bl, getV_str, getV_tup, getV_ref, getV_fn, getV_non, onFn_f, onExc_f, onInt_i, augNx_s, augop_a, augop_s, okOnly_ok, b_add, b_sub, b_mul, b_fdiv, b_mod, b_addt, c_lt, c_le, c_gt, c_ge, c_eq, c_ne, onL_s, onLo_s, onV_s, atV_s, lr_len, lr_list, lr_tuple, ix_t', ix_r', me_app, me_pop, me_rev, sl_r', sl_t', recv_app, recv_pop, recv_popAt, recv_clear, recv_rev, recv_ins, getL_at0, getL_at1, getL_at2, getL_at3, setL_at0, setL_at1, setL_at2, getL_0, getL_1, getL_2, getL_3, getL_4, setL_1, setL_2, setL_3, atI_0, atI_1, atI_2, atI_m1, List.append_assoc, List.length_append, Nat.add_one_ne_zero, bi_abs, bi_lent, bi_max, bi_min, bi_int, bi_intb, bi_listt, bi_tupt, ty_non, ty_bl, ty_int, ty_str, ty_tup, tb1, tb2, tb3, tb4, tb5, tn1, tn2, tn3, tn4, tn5, tn6, isNon_non, isNon_tup, isNon_int, isNon_ref, items_t, items_r, Option.map_some, fw_nil_n, fw_cons_n, fw_nil_s, fw_cons_s, takeS_0, takeS_s, dropS_0, dropS_s, forOn_s, lcOn_s, R.bind_ok, R.bind_exc, R.bind_bad, R.on_ok, R.on_exc, R.on_bad, onBl_bl, ifB_bl, O.then_nx, O.turn_nx, O.turn_ct, O.turn_bk, O.turn_rt, O.turn_ex, O.then_rt, O.then_ex, O.then_bk, O.then_ct, O.then_bad, onPart_int, onPart_abs, List.getElem?_cons_zero, List.getElem?_cons_succ, List.set_cons_zero, List.set_cons_succ, List.length_cons, List.length_nil, List.map_cons, List.map_nil, List.cons_append, List.nil_append, List.replicate_succ, List.replicate_zero, Nat.reduceAdd, Nat.reduceSub, Nat.reduceEqDiff, Nat.reduceLT, Nat.reduceLeDiff, if_true, if_false, ite_true, ite_false, eq_self, eqop_int, neop_int, eqop_bl, neop_bl, Bool.not_true, Bool.not_false, Bool.true_eq_false, Bool.false_eq_true, Bool.or_true, Bool.or_false, Bool.true_or, Bool.false_or, Bool.and_true, Bool.and_false, reduceIte, reduceCtorEq, decide_true, decide_false, decide_eq_true_eq, Bool.not_eq_true', decide_eq_false_iff_not, Nat.zero_le, lim1, lim2, lim3, lim4, lim5, Int.reduceLE, Int.reduceLT, Int.reduceEq, Int.reduceNe, ne_eq, not_false_eq_true, not_true_eq_false, Int.reduceNeg, and_true, true_and, and_false, false_and, or_true, true_or, or_false, false_or, alloc_e, seen_s, seen_none,  fmp, p10_4, p10_6, p10_9, p10_12, p10_18, p10_20, p10_28, p10_30, p10_40, p10_44, p10_50, p10_57, p10_58, p10_59, p10_60, hs, d4, f4, ← hM, m1, hk, e, he, List.length_map, hll]
  · have hl : (cut ns (some b) (some (b + 118))).length ≤ LIM := by
      have := cut_len ns (some b) (some (b + 118))
      unfold LIM
      omega
    refine ⟨cut ns (some b) (some (b + 118)), (SC ns J).length, [.lst ((cut ns (some b) (some (b + 118))).map D.int)], ?_, getL_at0, by simp, by have := cut_len ns (some b) (some (b + 118)); omega⟩
    simp only [runF_mk, ofO_nx, ofO_rt, ofO_ex, x_non, x_bl, x_int, x_str, x_v, x_k, x_f, x_nil, x_absent, x_cons, x_tup, x_lst, x_bin, x_neg, x_not, x_and, x_or, x_cmp, x_isn, x_notn, x_ix, x_sl, x_call, x_callv, x_bi, x_isi, x_ise, x_me, x_lc, x_rng, x_rev, s_pass, s_seq, s_set, s_setix, s_aug, s_ex, s_ite, s_wh, s_for, s_ret, s_retn, s_brk, s_cnt, s_raise, s_tryN, s_tryA, consOp_t, tupOp_t, lstOp_t, negOp_i, onTup_t, callOn_t, getV_int, getV_bl, getV_str, getV_tup, getV_ref, getV_fn, getV_non, onFn_f, onExc_f, onInt_i, augNx_s, augop_a, augop_s, okOnly_ok, b_add, b_sub, b_mul, b_fdiv, b_mod, b_addt, c_lt, c_le, c_gt, c_ge, c_eq, c_ne, onL_s, onLo_s, onV_s, atV_s, lr_len, lr_list, lr_tuple, ix_t', ix_r', me_app, me_pop, me_rev, sl_r', sl_t', recv_app, recv_pop, recv_popAt, recv_clear, recv_rev, recv_ins, getL_at0, getL_at1, getL_at2, getL_at3, setL_at0, setL_at1, setL_at2, getL_0, getL_1, getL_2, getL_3, getL_4, setL_1, setL_2, setL_3, atI_0, atI_1, atI_2, atI_m1, List.append_assoc, List.length_append, Nat.add_one_ne_zero, bi_abs, bi_lent, bi_max, bi_min, bi_int, bi_intb, bi_listt, bi_tupt, ty_non, ty_bl, ty_int, ty_str, ty_tup, tb1, tb2, tb3, tb4, tb5, tn1, tn2, tn3, tn4, tn5, tn6, isNon_non, isNon_tup, isNon_int, isNon_ref, items_t, items_r, Option.map_some, fw_nil_n, fw_cons_n, fw_nil_s, fw_cons_s, takeS_0, takeS_s, dropS_0, dropS_s, forOn_s, lcOn_s, R.bind_ok, R.bind_exc, R.bind_bad, R.on_ok, R.on_exc, R.on_bad, onBl_bl, ifB_bl, O.then_nx, O.turn_nx, O.turn_ct, O.turn_bk, O.turn_rt, O.turn_ex, O.then_rt, O.then_ex, O.then_bk, O.then_ct, O.then_bad, onPart_int, onPart_abs, List.getElem?_cons_zero, List.getElem?_cons_succ, List.set_cons_zero, List.set_cons_succ, List.length_cons, List.length_nil, List.map_cons, List.map_nil, List.cons_append, List.nil_append, List.replicate_succ, List.replicate_zero, Nat.reduceAdd, Nat.reduceSub, Nat.reduceEqDiff, Nat.reduceLT, Nat.reduceLeDiff, if_true, if_false, ite_true, ite_false, eq_self, eqop_int, neop_int, eqop_bl, neop_bl, Bool.not_true, Bool.not_false, Bool.true_eq_false, Bool.false_eq_true, Bool.or_true, Bool.or_false, Bool.true_or, Bool.false_or, Bool.and_true, Bool.and_false, reduceIte, reduceCtorEq, decide_true, decide_false, decide_eq_true_eq, Bool.not_eq_true', decide_eq_false_iff_not, Nat.zero_le, lim1, lim2, lim3, lim4, lim5, Int.reduceLE, Int.reduceLT, Int.reduceEq, Int.reduceNe, ne_eq, not_false_eq_true, not_true_eq_false, Int.reduceNeg, and_true, true_and, and_false, false_and, or_true, true_or, or_false, false_or, alloc_e, seen_s, seen_none,  fmp, p10_4, p10_6, p10_9, p10_12, p10_18, p10_20, p10_28, p10_30, p10_40, p10_44, p10_50, p10_57, p10_58, p10_59, p10_60, hs, cut_map, List.length_map, hl]
end Q

namespace Q
open PySem MP
theorem dlt {a b d : Int} (hd : 0 < d) : Rat.divInt a d < Rat.divInt b d ↔ a < b := by
  have h : (0 : Rat) < (d : Rat) := Rat.intCast_pos.mpr hd
  rw [Rat.divInt_eq_div, Rat.divInt_eq_div, Rat.div_lt_iff h, Rat.div_mul_cancel (by grind), Rat.intCast_lt_intCast]
/-- corners as the laws draw them -/
structure Good (c : Cn) (r : List Cn) : Prop where
  up : Ups c r
  nd : Nds c r
  sz : ∀ x ∈ c :: r, Rb x.1 110 ∧ Rb x.2 110
theorem divOk4 (c : Int) : divOk c 4 := ⟨by decide, by
  unfold Builtin.divisionGoesByPylong
  simp only [Bool.and_eq_false_iff, decide_eq_false_iff_not, Nat.not_lt]
  left
  decide⟩
theorem fdiv4 (c : Int) : c.fdiv 4 = c / 4 := Int.fdiv_eq_ediv_of_nonneg _ (by omega)
theorem cb_loop (n0 : Nat) (L : Hd) (m : Nat) (ms : List Int) (e1 : Option D) (low high : Int) (all : List D) (hL : L.length ≠ 0) (hm : getL L m = some (ms.map D.int)) (hlow : 0 < low ∧ low.natAbs < 2 ^ 110) (hhigh : 0 < high ∧ high.natAbs < 2 ^ 110) : ∀ (n : Nat) (k at_ v gap rise : Int) (acc : List Cn) (r9 r10 : Option D), 0 ≤ k → k + 2 * n ≤ ms.length → acc.length + n ≤ 1000 → 0 ≤ at_ → at_ + n * 10 ^ 28 < 2 ^ 110 → 0 ≤ v → v + n * 10 ^ 28 < 2 ^ 110 → 1 ≤ gap ∧ gap ≤ 10 ^ 28 → 0 ≤ rise ∧ rise < 10 ^ 28 → ∃ r ρ', forW (runT T (n0 + 1)) 9 B__law_corners_by_1 none all (steps k 2 n) [some (.ref m), e1, some (.int low), some (.int high), some (.int at_), some (.int v), some (.int gap), some (.int rise), some (.ref L.length), r9, r10] (L ++ [.lst (acc.map dC)]) = .nx ρ' (L ++ [.lst ((acc ++ r).map dC)]) ∧ ρ'[8]? = some (some (.ref L.length)) ∧ r.length = n ∧ Ups (Rat.divInt at_ low, Rat.divInt v high) r ∧ Nds (Rat.divInt at_ low, Rat.divInt v high) r ∧ ∀ x ∈ r, Rb x.1 110 ∧ Rb x.2 110
  | 0, k, at_, v, gap, rise, acc, r9, r10, _, _, _, _, _, _, _, _, _ => ⟨[], [some (.ref m), e1, some (.int low), some (.int high), some (.int at_), some (.int v), some (.int gap), some (.int rise), some (.ref L.length), r9, r10], by simp only [steps, runF_mk, ofO_nx, ofO_rt, ofO_ex, x_non, x_bl, x_int, x_str, x_v, x_k, x_f, x_nil, x_absent, x_cons, x_tup, x_lst, x_bin, x_neg, x_not, x_and, x_or, x_cmp, x_isn, x_notn, x_ix, x_sl, x_call, x_callv, x_bi, x_isi, x_ise, x_me, x_lc, x_rng, x_rev, s_pass, s_seq, s_set, s_setix, s_aug, s_ex, s_ite, s_wh, s_for, s_ret, s_retn, s_brk, s_cnt, s_raise, s_tryN, s_tryA, consOp_t, tupOp_t, lstOp_t, negOp_i, onTup_t, callOn_t, getV_int, getV_bl, getV_str, getV_tup, getV_ref, getV_fn, getV_non, onFn_f, onExc_f, onInt_i, augNx_s, augop_a, augop_s, okOnly_ok, b_add, b_sub, b_mul, b_fdiv, b_mod, b_addt, c_lt, c_le, c_gt, c_ge, c_eq, c_ne, onL_s, onLo_s, onV_s, atV_s, lr_len, lr_list, lr_tuple, ix_t', ix_r', me_app, me_pop, me_rev, sl_r', sl_t', recv_app, recv_pop, recv_popAt, recv_clear, recv_rev, recv_ins, getL_at0, getL_at1, getL_at2, getL_at3, setL_at0, setL_at1, setL_at2, getL_0, getL_1, getL_2, getL_3, getL_4, setL_1, setL_2, setL_3, atI_0, atI_1, atI_2, atI_m1, List.append_assoc, List.length_append, Nat.add_one_ne_zero, bi_abs, bi_lent, bi_max, bi_min, bi_int, bi_intb, bi_listt, bi_tupt, ty_non, ty_bl, ty_int, ty_str, ty_tup, tb1, tb2, tb3, tb4, tb5, tn1, tn2, tn3, tn4, tn5, tn6, isNon_non, isNon_tup, isNon_int, isNon_ref, items_t, items_r, Option.map_some, fw_nil_n, fw_cons_n, fw_nil_s, fw_cons_s, takeS_0, takeS_s, dropS_0, dropS_s, forOn_s, lcOn_s, R.bind_ok, R.bind_exc, R.bind_bad, R.on_ok, R.on_exc, R.on_bad, onBl_bl, ifB_bl, O.then_nx, O.turn_nx, O.turn_ct, O.turn_bk, O.turn_rt, O.turn_ex, O.then_rt, O.then_ex, O.then_bk, O.then_ct, O.then_bad, onPart_int, onPart_abs, List.getElem?_cons_zero, List.getElem?_cons_succ, List.set_cons_zero, List.set_cons_succ, List.length_cons, List.length_nil, List.map_cons, List.map_nil, List.cons_append, List.nil_append, List.replicate_succ, List.replicate_zero, Nat.reduceAdd, Nat.reduceSub, Nat.reduceEqDiff, Nat.reduceLT, Nat.reduceLeDiff, if_true, if_false, ite_true, ite_false, eq_self, eqop_int, neop_int, eqop_bl, neop_bl, Bool.not_true, Bool.not_false, Bool.true_eq_false, Bool.false_eq_true, Bool.or_true, Bool.or_false, Bool.true_or, Bool.false_or, Bool.and_true, Bool.and_false, reduceIte, reduceCtorEq, decide_true, decide_false, decide_eq_true_eq, Bool.not_eq_true', decide_eq_false_iff_not, Nat.zero_le, lim1, lim2, lim3, lim4, lim5, Int.reduceLE, Int.reduceLT, Int.reduceEq, Int.reduceNe, ne_eq, not_false_eq_true, not_true_eq_false, Int.reduceNeg, and_true, true_and, and_false, false_and, or_true, true_or, or_false, false_or, alloc_e, seen_s, seen_none,  fmp, p10_4, p10_6, p10_9, p10_12, p10_18, p10_20, p10_28, p10_30, p10_40, p10_44, p10_50, p10_57, p10_58, p10_59, p10_60, List.append_nil], rfl, rfl, trivial, trivial, fun x hx => absurd hx List.not_mem_nil⟩
  | n + 1, k, at_, v, gap, rise, acc, r9, r10, hk, hkl, hacc, ha, ha2, hv, hv2, hg, hr => by
    obtain ⟨x, hx⟩ : ∃ x, ms[k.toNat]? = some x := ⟨_, List.getElem?_eq_getElem (by omega)⟩
    obtain ⟨y, hy⟩ : ∃ y, ms[(k + 1).toNat]? = some y := ⟨_, List.getElem?_eq_getElem (by omega)⟩
    have i1 : L2.atI (ms.map D.int) k = some (.int x) := by
      have := atI_nat (xs := ms.map D.int) (k := k.toNat) (by simp; omega)
      rw [show ((k.toNat : Nat) : Int) = k by omega, List.getElem?_map, hx] at this
      exact this
    have i2 : L2.atI (ms.map D.int) (k + 1) = some (.int y) := by
      have := atI_nat (xs := ms.map D.int) (k := (k + 1).toNat) (by simp; omega)
      rw [show (((k + 1).toNat : Nat) : Int) = k + 1 by omega, List.getElem?_map, hy] at this
      exact this
    have hgm : ∀ J, getL (L ++ J) m = some (ms.map D.int) := fun J => getL_mono hm
    have x4 := divOk4 x
    have hal : acc.length < LIM := by unfold LIM; omega
    have step : ∀ gap' rise' : Int, 1 ≤ gap' ∧ gap' ≤ 10 ^ 28 → 0 ≤ rise' ∧ rise' < 10 ^ 28 → ∀ r10 : Option D, ∃ r ρ', forW (runT T (n0 + 1)) 9 B__law_corners_by_1 none all (steps (k + 2) 2 n) [some (.ref m), e1, some (.int low), some (.int high), some (.int (at_ + gap')), some (.int (v + rise')), some (.int gap'), some (.int rise'), some (.ref L.length), some (.int k), r10] (L ++ [.lst ((acc ++ [(Rat.divInt (at_ + gap') low, Rat.divInt (v + rise') high)]).map dC)]) = .nx ρ' (L ++ [.lst ((acc ++ r).map dC)]) ∧ ρ'[8]? = some (some (.ref L.length)) ∧ r.length = n + 1 ∧ Ups (Rat.divInt at_ low, Rat.divInt v high) r ∧ Nds (Rat.divInt at_ low, Rat.divInt v high) r ∧ ∀ x ∈ r, Rb x.1 110 ∧ Rb x.2 110 := fun gap' rise' hg' hr' r10 => by
      obtain ⟨r, ρ', h1, h2, h3, h4, h5, h6⟩ := cb_loop n0 L m ms e1 low high all hL hm hlow hhigh n (k + 2) (at_ + gap') (v + rise') gap' rise' (acc ++ [(Rat.divInt (at_ + gap') low, Rat.divInt (v + rise') high)]) (some (.int k)) r10 (by omega) (by omega) (by simp; omega) (by omega) (by omega) (by omega) (by omega) hg' hr'
      refine ⟨(Rat.divInt (at_ + gap') low, Rat.divInt (v + rise') high) :: r, ρ', ?_, h2, by simp [h3], ⟨?_, h4⟩, ⟨?_, h5⟩, ?_⟩
      · rw [h1, List.append_assoc]
        rfl
      · exact (dlt hlow.1).mpr (by omega)
      · show ¬ Rat.divInt (v + rise') high < Rat.divInt v high
        rw [dlt hhigh.1]
        omega
      · intro z hz
        rcases List.mem_cons.mp hz with h | h
        · subst h
          exact ⟨Rb.div (by omega) hlow.2 (by omega), Rb.div (by omega) hhigh.2 (by omega)⟩
        · exact h6 z h
    have hlo : ∀ (a : Int), a.natAbs < 2 ^ 110 → ∀ L', runT T (n0 + 1) "_law_lowest" [.int a, .int low] L' = .ok (dR (Rat.divInt a low)) L' := fun a ha L' => r_lowest n0 a low L' hlow.1 (up_lt ha (le_big (by decide))) (up_lt hlow.2 (le_big (by decide)))
    have hhi : ∀ (a : Int), a.natAbs < 2 ^ 110 → ∀ L', runT T (n0 + 1) "_law_lowest" [.int a, .int high] L' = .ok (dR (Rat.divInt a high)) L' := fun a ha L' => r_lowest n0 a high L' hhigh.1 (up_lt ha (le_big (by decide))) (up_lt hhigh.2 (le_big (by decide)))
    have g1 : 1 ≤ 1 + x / 4 % 10000000000000000000000000000 ∧ 1 + x / 4 % 10000000000000000000000000000 ≤ 10 ^ 28 := by omega
    have g2 : 0 ≤ y % 10000000000000000000000000000 ∧ y % 10000000000000000000000000000 < 10 ^ 28 := by omega
    by_cases hk1 : x % 4 = 1
    · obtain ⟨r, ρ', h⟩ := step gap rise hg hr (some (.int (x % 4)))
      refine ⟨r, ρ', ?_, h.2⟩
      have e1 := hlo (at_ + gap) (by omega)
      have e2 := hhi (v + rise) (by omega)
      rw [← h.1, List.map_append]
      simp only [hk1, steps, getV_C, ix_C0, ix_C1, C_eta, tupOp_C, callOn_C, consOp_C, ty_C, len_C, onTup_C, eq_C, getV_F, ix_F0, ix_F1, ty_F, len_F, runF_mk, ofO_nx, ofO_rt, ofO_ex, x_non, x_bl, x_int, x_str, x_v, x_k, x_f, x_nil, x_absent, x_cons, x_tup, x_lst, x_bin, x_neg, x_not, x_and, x_or, x_cmp, x_isn, x_notn, x_ix, x_sl, x_call, x_callv, x_bi, x_isi, x_ise, x_me, x_lc, x_rng, x_rev, s_pass, s_seq, s_set, s_setix, s_aug, s_ex, s_ite, s_wh, s_for, s_ret, s_retn, s_brk, s_cnt, s_raise, s_tryN, s_tryA, consOp_t, tupOp_t, lstOp_t, negOp_i, onTup_t, callOn_t, getV_int, getV_bl, getV_str, getV_tup, getV_ref, getV_fn, getV_non, onFn_f, onExc_f, onInt_i, augNx_s, augop_a, augop_s, okOnly_ok, b_add, b_sub, b_mul, b_fdiv, b_mod, b_addt, c_lt, c_le, c_gt, c_ge, c_eq, c_ne, onL_s, onLo_s, onV_s, atV_s, lr_len, lr_list, lr_tuple, ix_t', ix_r', me_app, me_pop, me_rev, sl_r', sl_t', recv_app, recv_pop, recv_popAt, recv_clear, recv_rev, recv_ins, getL_at0, getL_at1, getL_at2, getL_at3, setL_at0, setL_at1, setL_at2, getL_0, getL_1, getL_2, getL_3, getL_4, setL_1, setL_2, setL_3, atI_0, atI_1, atI_2, atI_m1, List.append_assoc, List.length_append, Nat.add_one_ne_zero, bi_abs, bi_lent, bi_max, bi_min, bi_int, bi_intb, bi_listt, bi_tupt, ty_non, ty_bl, ty_int, ty_str, ty_tup, tb1, tb2, tb3, tb4, tb5, tn1, tn2, tn3, tn4, tn5, tn6, isNon_non, isNon_tup, isNon_int, isNon_ref, items_t, items_r, Option.map_some, fw_nil_n, fw_cons_n, fw_nil_s, fw_cons_s, takeS_0, takeS_s, dropS_0, dropS_s, forOn_s, lcOn_s, R.bind_ok, R.bind_exc, R.bind_bad, R.on_ok, R.on_exc, R.on_bad, onBl_bl, ifB_bl, O.then_nx, O.turn_nx, O.turn_ct, O.turn_bk, O.turn_rt, O.turn_ex, O.then_rt, O.then_ex, O.then_bk, O.then_ct, O.then_bad, onPart_int, onPart_abs, List.getElem?_cons_zero, List.getElem?_cons_succ, List.set_cons_zero, List.set_cons_succ, List.length_cons, List.length_nil, List.map_cons, List.map_nil, List.cons_append, List.nil_append, List.replicate_succ, List.replicate_zero, Nat.reduceAdd, Nat.reduceSub, Nat.reduceEqDiff, Nat.reduceLT, Nat.reduceLeDiff, if_true, if_false, ite_true, ite_false, eq_self, eqop_int, neop_int, eqop_bl, neop_bl, Bool.not_true, Bool.not_false, Bool.true_eq_false, Bool.false_eq_true, Bool.or_true, Bool.or_false, Bool.true_or, Bool.false_or, Bool.and_true, Bool.and_false, reduceIte, reduceCtorEq, decide_true, decide_false, decide_eq_true_eq, Bool.not_eq_true', decide_eq_false_iff_not, Nat.zero_le, lim1, lim2, lim3, lim4, lim5, Int.reduceLE, Int.reduceLT, Int.reduceEq, Int.reduceNe, ne_eq, not_false_eq_true, not_true_eq_false, Int.reduceNeg, and_true, true_and, and_false, false_and, or_true, true_or, or_false, false_or, alloc_e, seen_s, seen_none,  fmp, p10_4, p10_6, p10_9, p10_12, p10_18, p10_20, p10_28, p10_30, p10_40, p10_44, p10_50, p10_57, p10_58, p10_59, p10_60, getV_R, ix_R0, ix_R1, ty_R, len_R, isNon_R, tupOp_R, callOn_R, items_R, consOp_R, R0n, R0d, R1n, R1d, onTup_R, eq_R, ne_R, R_eta, R_0, R_1, R_neg, R_den', R_den1, R_den0, UB__law_corners_by_1, hgm, i1, e1, e2, hL, hal, List.length_map]
    · by_cases hk0 : x % 4 = 0
      · obtain ⟨r, ρ', h⟩ := step _ 0 g1 (by decide) (some (.int (x % 4)))
        refine ⟨r, ρ', ?_, h.2⟩
        have e1 := hlo (at_ + (1 + x / 4 % 10000000000000000000000000000)) (by omega)
        have e2 := hhi (v + 0) (by omega)
        rw [← h.1, List.map_append]
        simp only [hk0, steps, getV_C, ix_C0, ix_C1, C_eta, tupOp_C, callOn_C, consOp_C, ty_C, len_C, onTup_C, eq_C, getV_F, ix_F0, ix_F1, ty_F, len_F, runF_mk, ofO_nx, ofO_rt, ofO_ex, x_non, x_bl, x_int, x_str, x_v, x_k, x_f, x_nil, x_absent, x_cons, x_tup, x_lst, x_bin, x_neg, x_not, x_and, x_or, x_cmp, x_isn, x_notn, x_ix, x_sl, x_call, x_callv, x_bi, x_isi, x_ise, x_me, x_lc, x_rng, x_rev, s_pass, s_seq, s_set, s_setix, s_aug, s_ex, s_ite, s_wh, s_for, s_ret, s_retn, s_brk, s_cnt, s_raise, s_tryN, s_tryA, consOp_t, tupOp_t, lstOp_t, negOp_i, onTup_t, callOn_t, getV_int, getV_bl, getV_str, getV_tup, getV_ref, getV_fn, getV_non, onFn_f, onExc_f, onInt_i, augNx_s, augop_a, augop_s, okOnly_ok, b_add, b_sub, b_mul, b_fdiv, b_mod, b_addt, c_lt, c_le, c_gt, c_ge, c_eq, c_ne, onL_s, onLo_s, onV_s, atV_s, lr_len, lr_list, lr_tuple, ix_t', ix_r', me_app, me_pop, me_rev, sl_r', sl_t', recv_app, recv_pop, recv_popAt, recv_clear, recv_rev, recv_ins, getL_at0, getL_at1, getL_at2, getL_at3, setL_at0, setL_at1, setL_at2, getL_0, getL_1, getL_2, getL_3, getL_4, setL_1, setL_2, setL_3, atI_0, atI_1, atI_2, atI_m1, List.append_assoc, List.length_append, Nat.add_one_ne_zero, bi_abs, bi_lent, bi_max, bi_min, bi_int, bi_intb, bi_listt, bi_tupt, ty_non, ty_bl, ty_int, ty_str, ty_tup, tb1, tb2, tb3, tb4, tb5, tn1, tn2, tn3, tn4, tn5, tn6, isNon_non, isNon_tup, isNon_int, isNon_ref, items_t, items_r, Option.map_some, fw_nil_n, fw_cons_n, fw_nil_s, fw_cons_s, takeS_0, takeS_s, dropS_0, dropS_s, forOn_s, lcOn_s, R.bind_ok, R.bind_exc, R.bind_bad, R.on_ok, R.on_exc, R.on_bad, onBl_bl, ifB_bl, O.then_nx, O.turn_nx, O.turn_ct, O.turn_bk, O.turn_rt, O.turn_ex, O.then_rt, O.then_ex, O.then_bk, O.then_ct, O.then_bad, onPart_int, onPart_abs, List.getElem?_cons_zero, List.getElem?_cons_succ, List.set_cons_zero, List.set_cons_succ, List.length_cons, List.length_nil, List.map_cons, List.map_nil, List.cons_append, List.nil_append, List.replicate_succ, List.replicate_zero, Nat.reduceAdd, Nat.reduceSub, Nat.reduceEqDiff, Nat.reduceLT, Nat.reduceLeDiff, if_true, if_false, ite_true, ite_false, eq_self, eqop_int, neop_int, eqop_bl, neop_bl, Bool.not_true, Bool.not_false, Bool.true_eq_false, Bool.false_eq_true, Bool.or_true, Bool.or_false, Bool.true_or, Bool.false_or, Bool.and_true, Bool.and_false, reduceIte, reduceCtorEq, decide_true, decide_false, decide_eq_true_eq, Bool.not_eq_true', decide_eq_false_iff_not, Nat.zero_le, lim1, lim2, lim3, lim4, lim5, Int.reduceLE, Int.reduceLT, Int.reduceEq, Int.reduceNe, ne_eq, not_false_eq_true, not_true_eq_false, Int.reduceNeg, and_true, true_and, and_false, false_and, or_true, true_or, or_false, false_or, alloc_e, seen_s, seen_none,  fmp, p10_4, p10_6, p10_9, p10_12, p10_18, p10_20, p10_28, p10_30, p10_40, p10_44, p10_50, p10_57, p10_58, p10_59, p10_60, getV_R, ix_R0, ix_R1, ty_R, len_R, isNon_R, tupOp_R, callOn_R, items_R, consOp_R, R0n, R0d, R1n, R1d, onTup_R, eq_R, ne_R, R_eta, R_0, R_1, R_neg, R_den', R_den1, R_den0, UB__law_corners_by_1, hgm, i1, i2, x4, fdiv4, e1, e2, hL, hal, List.length_map]
      · obtain ⟨r, ρ', h⟩ := step _ _ g1 g2 (some (.int (x % 4)))
        refine ⟨r, ρ', ?_, h.2⟩
        have e1 := hlo (at_ + (1 + x / 4 % 10000000000000000000000000000)) (by omega)
        have e2 := hhi (v + y % 10000000000000000000000000000) (by omega)
        rw [← h.1, List.map_append]
        simp only [hk0, hk1, steps, getV_C, ix_C0, ix_C1, C_eta, tupOp_C, callOn_C, consOp_C, ty_C, len_C, onTup_C, eq_C, getV_F, ix_F0, ix_F1, ty_F, len_F, runF_mk, ofO_nx, ofO_rt, ofO_ex, x_non, x_bl, x_int, x_str, x_v, x_k, x_f, x_nil, x_absent, x_cons, x_tup, x_lst, x_bin, x_neg, x_not, x_and, x_or, x_cmp, x_isn, x_notn, x_ix, x_sl, x_call, x_callv, x_bi, x_isi, x_ise, x_me, x_lc, x_rng, x_rev, s_pass, s_seq, s_set, s_setix, s_aug, s_ex, s_ite, s_wh, s_for, s_ret, s_retn, s_brk, s_cnt, s_raise, s_tryN, s_tryA, consOp_t, tupOp_t, lstOp_t, negOp_i, onTup_t, callOn_t, getV_int, getV_bl, getV_str, getV_tup, getV_ref, getV_fn, getV_non, onFn_f, onExc_f, onInt_i, augNx_s, augop_a, augop_s, okOnly_ok, b_add, b_sub, b_mul, b_fdiv, b_mod, b_addt, c_lt, c_le, c_gt, c_ge, c_eq, c_ne, onL_s, onLo_s, onV_s, atV_s, lr_len, lr_list, lr_tuple, ix_t', ix_r', me_app, me_pop, me_rev, sl_r', sl_t', recv_app, recv_pop, recv_popAt, recv_clear, recv_rev, recv_ins, getL_at0, getL_at1, getL_at2, getL_at3, setL_at0, setL_at1, setL_at2, getL_0, getL_1, getL_2, getL_3, getL_4, setL_1, setL_2, setL_3, atI_0, atI_1, atI_2, atI_m1, List.append_assoc, List.length_append, Nat.add_one_ne_zero, bi_abs, bi_lent, bi_max, bi_min, bi_int, bi_intb, bi_listt, bi_tupt, ty_non, ty_bl, ty_int, ty_str, ty_tup, tb1, tb2, tb3, tb4, tb5, tn1, tn2, tn3, tn4, tn5, tn6, isNon_non, isNon_tup, isNon_int, isNon_ref, items_t, items_r, Option.map_some, fw_nil_n, fw_cons_n, fw_nil_s, fw_cons_s, takeS_0, takeS_s, dropS_0, dropS_s, forOn_s, lcOn_s, R.bind_ok, R.bind_exc, R.bind_bad, R.on_ok, R.on_exc, R.on_bad, onBl_bl, ifB_bl, O.then_nx, O.turn_nx, O.turn_ct, O.turn_bk, O.turn_rt, O.turn_ex, O.then_rt, O.then_ex, O.then_bk, O.then_ct, O.then_bad, onPart_int, onPart_abs, List.getElem?_cons_zero, List.getElem?_cons_succ, List.set_cons_zero, List.set_cons_succ, List.length_cons, List.length_nil, List.map_cons, List.map_nil, List.cons_append, List.nil_append, List.replicate_succ, List.replicate_zero, Nat.reduceAdd, Nat.reduceSub, Nat.reduceEqDiff, Nat.reduceLT, Nat.reduceLeDiff, if_true, if_false, ite_true, ite_false, eq_self, eqop_int, neop_int, eqop_bl, neop_bl, Bool.not_true, Bool.not_false, Bool.true_eq_false, Bool.false_eq_true, Bool.or_true, Bool.or_false, Bool.true_or, Bool.false_or, Bool.and_true, Bool.and_false, reduceIte, reduceCtorEq, decide_true, decide_false, decide_eq_true_eq, Bool.not_eq_true', decide_eq_false_iff_not, Nat.zero_le, lim1, lim2, lim3, lim4, lim5, Int.reduceLE, Int.reduceLT, Int.reduceEq, Int.reduceNe, ne_eq, not_false_eq_true, not_true_eq_false, Int.reduceNeg, and_true, true_and, and_false, false_and, or_true, true_or, or_false, false_or, alloc_e, seen_s, seen_none,  fmp, p10_4, p10_6, p10_9, p10_12, p10_18, p10_20, p10_28, p10_30, p10_40, p10_44, p10_50, p10_57, p10_58, p10_59, p10_60, getV_R, ix_R0, ix_R1, ty_R, len_R, isNon_R, tupOp_R, callOn_R, items_R, consOp_R, R0n, R0d, R1n, R1d, onTup_R, eq_R, ne_R, R_eta, R_0, R_1, R_neg, R_den', R_den1, R_den0, UB__law_corners_by_1, hgm, i1, i2, x4, fdiv4, e1, e2, hL, hal, List.length_map]
theorem rng118 (l : Nat) (hl : l ≤ 118) (L : Hd) : rngop [.int 0, .int ((l : Int) - 1), .int 2] L = .ok (.tup (steps 0 2 (l / 2))) L := by
  have : ∀ m ∈ List.range 119, ((2 : Int) ≠ 0 ∧ (2 : Int).natAbs < 1073741824 ∧ Builtin.Range.small 0 ((m : Int) - 1) 2 = true ∧ 0 ≤ Builtin.Range.rangeSize 0 ((m : Int) - 1) 2) ∧ (Builtin.Range.rangeSize 0 ((m : Int) - 1) 2).toNat = m / 2 := by decide +kernel
  obtain ⟨h1, h2⟩ := this l (List.mem_range.mpr (by omega))
  have e : rngop [.int 0, .int ((l : Int) - 1), .int 2] L = if rngOk 0 ((l : Int) - 1) 2 then .ok (.tup (steps 0 2 (Builtin.Range.rangeSize 0 ((l : Int) - 1) 2).toNat)) L else .bad := rfl
  rw [e, if_pos (show rngOk 0 ((l : Int) - 1) 2 from h1), h2]
theorem r_corners_by (n : Nat) (L : Hd) (m : Nat) (ms : List Int) (start low high : Int) (hL : L.length ≠ 0) (hm : getL L m = some (ms.map D.int)) (hl : ms.length ≤ 118) (hlow : 0 < low ∧ low.natAbs < 2 ^ 110) (hhigh : 0 < high ∧ high.natAbs < 2 ^ 110) (hs : 0 ≤ start ∧ start < 10 ^ 28) : ∃ c r, runT T (n + 2) "_law_corners_by" [.ref m, .int start, .int low, .int high] L = .ok (.ref L.length) (L ++ [.lst ((c :: r).map dC)]) ∧ Good c r ∧ c.1 = 0 ∧ ¬ c.2 < 0 ∧ r.length ≤ 60 := by
  rw [runT_succ T__law_corners_by]
  have e0 : Rat.divInt 0 low = 0 := by rw [Rat.zero_divInt]
  have hst := fun L' => r_lowest n start high L' hhigh.1 (up_lt (k := 110) (by omega) (le_big (by decide))) (up_lt hhigh.2 (le_big (by decide)))
  obtain ⟨r, ρ', h1, h2, h3, h4, h5, h6⟩ := cb_loop n L m ms (some (.int start)) low high (steps 0 2 (ms.length / 2)) hL hm hlow hhigh (ms.length / 2) 0 0 start 1 0 [(0, Rat.divInt start high)] none none (by decide) (by omega) (by simp; omega) (by decide) (by omega) hs.1 (by omega) (by decide) (by decide)
  rw [e0] at h4 h5
  refine ⟨(0, Rat.divInt start high), r, ?_, ⟨h4, h5, ?_⟩, rfl, nn_div hs.1 hhigh.1, by omega⟩
  · have hr := rng118 ms.length hl
    have hgm : ∀ J, getL (L ++ J) m = some (ms.map D.int) := fun J => getL_mono hm
    rw [List.map_cons, List.map_nil] at h1
    unfold F__law_corners_by
    simp only [getV_C, ix_C0, ix_C1, C_eta, tupOp_C, callOn_C, consOp_C, ty_C, len_C, onTup_C, eq_C, getV_F, ix_F0, ix_F1, ty_F, len_F, runF_mk, ofO_nx, ofO_rt, ofO_ex, x_non, x_bl, x_int, x_str, x_v, x_k, x_f, x_nil, x_absent, x_cons, x_tup, x_lst, x_bin, x_neg, x_not, x_and, x_or, x_cmp, x_isn, x_notn, x_ix, x_sl, x_call, x_callv, x_bi, x_isi, x_ise, x_me, x_lc, x_rng, x_rev, s_pass, s_seq, s_set, s_setix, s_aug, s_ex, s_ite, s_wh, s_for, s_ret, s_retn, s_brk, s_cnt, s_raise, s_tryN, s_tryA, consOp_t, tupOp_t, lstOp_t, negOp_i, onTup_t, callOn_t, getV_int, getV_bl, getV_str, getV_tup, getV_ref, getV_fn, getV_non, onFn_f, onExc_f, onInt_i, augNx_s, augop_a, augop_s, okOnly_ok, b_add, b_sub, b_mul, b_fdiv, b_mod, b_addt, c_lt, c_le, c_gt, c_ge, c_eq, c_ne, onL_s, onLo_s, onV_s, atV_s, lr_len, lr_list, lr_tuple, ix_t', ix_r', me_app, me_pop, me_rev, sl_r', sl_t', recv_app, recv_pop, recv_popAt, recv_clear, recv_rev, recv_ins, getL_at0, getL_at1, getL_at2, getL_at3, setL_at0, setL_at1, setL_at2, getL_0, getL_1, getL_2, getL_3, getL_4, setL_1, setL_2, setL_3, atI_0, atI_1, atI_2, atI_m1, List.append_assoc, List.length_append, Nat.add_one_ne_zero, bi_abs, bi_lent, bi_max, bi_min, bi_int, bi_intb, bi_listt, bi_tupt, ty_non, ty_bl, ty_int, ty_str, ty_tup, tb1, tb2, tb3, tb4, tb5, tn1, tn2, tn3, tn4, tn5, tn6, isNon_non, isNon_tup, isNon_int, isNon_ref, items_t, items_r, Option.map_some, fw_nil_n, fw_cons_n, fw_nil_s, fw_cons_s, takeS_0, takeS_s, dropS_0, dropS_s, forOn_s, lcOn_s, R.bind_ok, R.bind_exc, R.bind_bad, R.on_ok, R.on_exc, R.on_bad, onBl_bl, ifB_bl, O.then_nx, O.turn_nx, O.turn_ct, O.turn_bk, O.turn_rt, O.turn_ex, O.then_rt, O.then_ex, O.then_bk, O.then_ct, O.then_bad, onPart_int, onPart_abs, List.getElem?_cons_zero, List.getElem?_cons_succ, List.set_cons_zero, List.set_cons_succ, List.length_cons, List.length_nil, List.map_cons, List.map_nil, List.cons_append, List.nil_append, List.replicate_succ, List.replicate_zero, Nat.reduceAdd, Nat.reduceSub, Nat.reduceEqDiff, Nat.reduceLT, Nat.reduceLeDiff, if_true, if_false, ite_true, ite_false, eq_self, eqop_int, neop_int, eqop_bl, neop_bl, Bool.not_true, Bool.not_false, Bool.true_eq_false, Bool.false_eq_true, Bool.or_true, Bool.or_false, Bool.true_or, Bool.false_or, Bool.and_true, Bool.and_false, reduceIte, reduceCtorEq, decide_true, decide_false, decide_eq_true_eq, Bool.not_eq_true', decide_eq_false_iff_not, Nat.zero_le, lim1, lim2, lim3, lim4, lim5, Int.reduceLE, Int.reduceLT, Int.reduceEq, Int.reduceNe, ne_eq, not_false_eq_true, not_true_eq_false, Int.reduceNeg, and_true, true_and, and_false, false_and, or_true, true_or, or_false, false_or, alloc_e, seen_s, seen_none,  fmp, p10_4, p10_6, p10_9, p10_12, p10_18, p10_20, p10_28, p10_30, p10_40, p10_44, p10_50, p10_57, p10_58, p10_59, p10_60, getV_R, ix_R0, ix_R1, ty_R, len_R, isNon_R, tupOp_R, callOn_R, items_R, consOp_R, R0n, R0d, R1n, R1d, onTup_R, eq_R, ne_R, R_eta, R_0, R_1, R_neg, R_den', R_den1, R_den0, hst, hgm, List.length_map, hr, h1, h2]
  · intro z hz
    rcases List.mem_cons.mp hz with h | h
    · subst h
      exact ⟨(show Rb 0 2 from ⟨by decide, by decide⟩).mono (by decide), Rb.div (by show start.natAbs < _; omega) hhigh.2 (by omega)⟩
    · exact h6 z h
end Q

namespace Q
open PySem MP
theorem adj : ∀ {pre : List Cn} {c : Cn} {r : List Cn} {p l : Cn} {t : List Cn}, c :: r = pre ++ p :: l :: t → Ups c r → Nds c r → p.1 < l.1 ∧ ¬ l.2 < p.2
  | [], c, r, p, l, t, h, hu, hd => by
    rw [List.nil_append] at h
    injection h with h1 h2
    subst h1 h2
    exact ⟨hu.1, hd.1⟩
  | x :: pre, c, r, p, l, t, h, hu, hd => by
    rw [List.cons_append] at h
    injection h with h1 h2
    cases r with
    | nil =>
      have := congrArg List.length h2
      simp at this
    | cons d r => exact adj h2 hu.2 hd.2
theorem two_last : ∀ (r : List Cn) (c d : Cn), ∃ pre p l, c :: d :: r = pre ++ [p, l]
  | [], c, d => ⟨[], c, d, rfl⟩
  | e :: r, c, d => by
    obtain ⟨pre, p, l, h⟩ := two_last r d e
    exact ⟨c :: pre, p, l, by rw [h]; rfl⟩
theorem atI_m2 {xs : List D} {a b : D} : L2.atI (xs ++ [a, b]) (-2) = some a := by
  unfold L2.atI L2.ixN
  rw [if_neg (by decide), if_pos (by simp; omega)]
  have e : (-2 + ((xs ++ [a, b]).length : Int)).toNat = xs.length := by simp; omega
  show (xs ++ [a, b])[(-2 + ((xs ++ [a, b]).length : Int)).toNat]? = _
  rw [e]
  simp
theorem r_lminus (n : Nat) (p q : Rat) (L : Hd) (hp : Sz p) (hq : Sz q) : runT T (n + 1) "_law_minus" [dR p, dR q] L = .ok (.tup [.int (p.num * q.den - q.num * p.den), .int ((p.den : Int) * q.den)]) L := by
  rw [runT_succ T__law_minus]
  unfold F__law_minus
  have m1 := mulOk_of hp.1 (den_lt hq) zm
  have m2 := mulOk_of hq.1 (den_lt hp) zm
  have m3 := mulOk_of (den_lt hp) (den_lt hq) zm
  simp only [runF_mk, ofO_nx, ofO_rt, ofO_ex, x_non, x_bl, x_int, x_str, x_v, x_k, x_f, x_nil, x_absent, x_cons, x_tup, x_lst, x_bin, x_neg, x_not, x_and, x_or, x_cmp, x_isn, x_notn, x_ix, x_sl, x_call, x_callv, x_bi, x_isi, x_ise, x_me, x_lc, x_rng, x_rev, s_pass, s_seq, s_set, s_setix, s_aug, s_ex, s_ite, s_wh, s_for, s_ret, s_retn, s_brk, s_cnt, s_raise, s_tryN, s_tryA, consOp_t, tupOp_t, lstOp_t, negOp_i, onTup_t, callOn_t, getV_int, getV_bl, getV_str, getV_tup, getV_ref, getV_fn, getV_non, onFn_f, onExc_f, onInt_i, augNx_s, augop_a, augop_s, okOnly_ok, b_add, b_sub, b_mul, b_fdiv, b_mod, b_addt, c_lt, c_le, c_gt, c_ge, c_eq, c_ne, onL_s, onLo_s, onV_s, atV_s, lr_len, lr_list, lr_tuple, ix_t', ix_r', me_app, me_pop, me_rev, sl_r', sl_t', recv_app, recv_pop, recv_popAt, recv_clear, recv_rev, recv_ins, getL_at0, getL_at1, getL_at2, getL_at3, setL_at0, setL_at1, setL_at2, getL_0, getL_1, getL_2, getL_3, getL_4, setL_1, setL_2, setL_3, atI_0, atI_1, atI_2, atI_m1, List.append_assoc, List.length_append, Nat.add_one_ne_zero, bi_abs, bi_lent, bi_max, bi_min, bi_int, bi_intb, bi_listt, bi_tupt, ty_non, ty_bl, ty_int, ty_str, ty_tup, tb1, tb2, tb3, tb4, tb5, tn1, tn2, tn3, tn4, tn5, tn6, isNon_non, isNon_tup, isNon_int, isNon_ref, items_t, items_r, Option.map_some, fw_nil_n, fw_cons_n, fw_nil_s, fw_cons_s, takeS_0, takeS_s, dropS_0, dropS_s, forOn_s, lcOn_s, R.bind_ok, R.bind_exc, R.bind_bad, R.on_ok, R.on_exc, R.on_bad, onBl_bl, ifB_bl, O.then_nx, O.turn_nx, O.turn_ct, O.turn_bk, O.turn_rt, O.turn_ex, O.then_rt, O.then_ex, O.then_bk, O.then_ct, O.then_bad, onPart_int, onPart_abs, List.getElem?_cons_zero, List.getElem?_cons_succ, List.set_cons_zero, List.set_cons_succ, List.length_cons, List.length_nil, List.map_cons, List.map_nil, List.cons_append, List.nil_append, List.replicate_succ, List.replicate_zero, Nat.reduceAdd, Nat.reduceSub, Nat.reduceEqDiff, Nat.reduceLT, Nat.reduceLeDiff, if_true, if_false, ite_true, ite_false, eq_self, eqop_int, neop_int, eqop_bl, neop_bl, Bool.not_true, Bool.not_false, Bool.true_eq_false, Bool.false_eq_true, Bool.or_true, Bool.or_false, Bool.true_or, Bool.false_or, Bool.and_true, Bool.and_false, reduceIte, reduceCtorEq, decide_true, decide_false, decide_eq_true_eq, Bool.not_eq_true', decide_eq_false_iff_not, Nat.zero_le, lim1, lim2, lim3, lim4, lim5, Int.reduceLE, Int.reduceLT, Int.reduceEq, Int.reduceNe, ne_eq, not_false_eq_true, not_true_eq_false, Int.reduceNeg, and_true, true_and, and_false, false_and, or_true, true_or, or_false, false_or, alloc_e, seen_s, seen_none,  fmp, p10_4, p10_6, p10_9, p10_12, p10_18, p10_20, p10_28, p10_30, p10_40, p10_44, p10_50, p10_57, p10_58, p10_59, p10_60, getV_R, ix_R0, ix_R1, ty_R, len_R, isNon_R, tupOp_R, callOn_R, items_R, consOp_R, R0n, R0d, R1n, R1d, onTup_R, eq_R, ne_R, R_eta, R_0, R_1, R_neg, R_den', R_den1, R_den0, m1, m2, m3]
theorem pdiff {p q : Rat} (h : q < p) : 0 < p.num * (q.den : Int) - q.num * (p.den : Int) := by
  rw [Rat.lt_iff] at h
  omega
theorem ndiff {p q : Rat} (h : ¬ p < q) : 0 ≤ p.num * (q.den : Int) - q.num * (p.den : Int) := by
  rw [Rat.lt_iff] at h
  omega
theorem r_last_by (n : Nat) (L : Hd) (m : Nat) (c : Cn) (r : List Cn) (x o : Int) (hm : getL L m = some ((c :: r).map dC)) (g : Good c r) : ∃ s, runT T (n + 2) "_law_last_by" [.int x, .int o, .ref m] L = .ok (dR s) L ∧ Rb s 500 ∧ ¬ s < 0 := by
  rw [runT_succ T__law_last_by]
  unfold F__law_last_by
  have x3 := divOk3 x
  have h1 := Int.emod_nonneg (x / 3) (b := 100000000000000000000000000000000000000000000000000000000000) (by omega)
  have h2 := Int.emod_lt_of_pos (x / 3) (b := 100000000000000000000000000000000000000000000000000000000000) (by omega)
  have hl : (if o % 100000000000000000000000000000000000000000000000000000000000 > 1 then o % 100000000000000000000000000000000000000000000000000000000000 else 1) = lo o 100000000000000000000000000000000000000000000000000000000000 := rfl
  have hlb : (lo o 100000000000000000000000000000000000000000000000000000000000).natAbs < 2 ^ 200 := lo_big o _ (by decide) (by decide)
  have hlp := lo_pos o 100000000000000000000000000000000000000000000000000000000000
  have e3 := fun L => r_lowest n (x / 3 % 100000000000000000000000000000000000000000000000000000000000) (lo o 100000000000000000000000000000000000000000000000000000000000) L hlp (up_lt (k := 200) (by omega) (le_big (by decide))) (up_lt hlb (le_big (by decide)))
  have b3 : Rb (Rat.divInt (x / 3 % 100000000000000000000000000000000000000000000000000000000000) (lo o 100000000000000000000000000000000000000000000000000000000000)) 500 := (Rb.div (k := 200) (by omega) hlb (by omega)).mono (by decide)
  have nb3 := nn_div (a := x / 3 % 100000000000000000000000000000000000000000000000000000000000) (b := lo o 100000000000000000000000000000000000000000000000000000000000) h1 hlp
  by_cases c1 : x % 3 = 1
  · refine ⟨0, ?_, (show Rb 0 2 from ⟨by decide, by decide⟩).mono (by decide), by decide⟩
    simp only [getV_C, ix_C0, ix_C1, C_eta, tupOp_C, callOn_C, consOp_C, ty_C, len_C, onTup_C, eq_C, getV_F, ix_F0, ix_F1, ty_F, len_F, runF_mk, ofO_nx, ofO_rt, ofO_ex, x_non, x_bl, x_int, x_str, x_v, x_k, x_f, x_nil, x_absent, x_cons, x_tup, x_lst, x_bin, x_neg, x_not, x_and, x_or, x_cmp, x_isn, x_notn, x_ix, x_sl, x_call, x_callv, x_bi, x_isi, x_ise, x_me, x_lc, x_rng, x_rev, s_pass, s_seq, s_set, s_setix, s_aug, s_ex, s_ite, s_wh, s_for, s_ret, s_retn, s_brk, s_cnt, s_raise, s_tryN, s_tryA, consOp_t, tupOp_t, lstOp_t, negOp_i, onTup_t, callOn_t, getV_int, getV_bl, getV_str, getV_tup, getV_ref, getV_fn, getV_non, onFn_f, onExc_f, onInt_i, augNx_s, augop_a, augop_s, okOnly_ok, b_add, b_sub, b_mul, b_fdiv, b_mod, b_addt, c_lt, c_le, c_gt, c_ge, c_eq, c_ne, onL_s, onLo_s, onV_s, atV_s, lr_len, lr_list, lr_tuple, ix_t', ix_r', me_app, me_pop, me_rev, sl_r', sl_t', recv_app, recv_pop, recv_popAt, recv_clear, recv_rev, recv_ins, getL_at0, getL_at1, getL_at2, getL_at3, setL_at0, setL_at1, setL_at2, getL_0, getL_1, getL_2, getL_3, getL_4, setL_1, setL_2, setL_3, atI_0, atI_1, atI_2, atI_m1, List.append_assoc, List.length_append, Nat.add_one_ne_zero, bi_abs, bi_lent, bi_max, bi_min, bi_int, bi_intb, bi_listt, bi_tupt, ty_non, ty_bl, ty_int, ty_str, ty_tup, tb1, tb2, tb3, tb4, tb5, tn1, tn2, tn3, tn4, tn5, tn6, isNon_non, isNon_tup, isNon_int, isNon_ref, items_t, items_r, Option.map_some, fw_nil_n, fw_cons_n, fw_nil_s, fw_cons_s, takeS_0, takeS_s, dropS_0, dropS_s, forOn_s, lcOn_s, R.bind_ok, R.bind_exc, R.bind_bad, R.on_ok, R.on_exc, R.on_bad, onBl_bl, ifB_bl, O.then_nx, O.turn_nx, O.turn_ct, O.turn_bk, O.turn_rt, O.turn_ex, O.then_rt, O.then_ex, O.then_bk, O.then_ct, O.then_bad, onPart_int, onPart_abs, List.getElem?_cons_zero, List.getElem?_cons_succ, List.set_cons_zero, List.set_cons_succ, List.length_cons, List.length_nil, List.map_cons, List.map_nil, List.cons_append, List.nil_append, List.replicate_succ, List.replicate_zero, Nat.reduceAdd, Nat.reduceSub, Nat.reduceEqDiff, Nat.reduceLT, Nat.reduceLeDiff, if_true, if_false, ite_true, ite_false, eq_self, eqop_int, neop_int, eqop_bl, neop_bl, Bool.not_true, Bool.not_false, Bool.true_eq_false, Bool.false_eq_true, Bool.or_true, Bool.or_false, Bool.true_or, Bool.false_or, Bool.and_true, Bool.and_false, reduceIte, reduceCtorEq, decide_true, decide_false, decide_eq_true_eq, Bool.not_eq_true', decide_eq_false_iff_not, Nat.zero_le, lim1, lim2, lim3, lim4, lim5, Int.reduceLE, Int.reduceLT, Int.reduceEq, Int.reduceNe, ne_eq, not_false_eq_true, not_true_eq_false, Int.reduceNeg, and_true, true_and, and_false, false_and, or_true, true_or, or_false, false_or, alloc_e, seen_s, seen_none,  fmp, p10_4, p10_6, p10_9, p10_12, p10_18, p10_20, p10_28, p10_30, p10_40, p10_44, p10_50, p10_57, p10_58, p10_59, p10_60, getV_R, ix_R0, ix_R1, ty_R, len_R, isNon_R, tupOp_R, callOn_R, items_R, consOp_R, R0n, R0d, R1n, R1d, onTup_R, eq_R, ne_R, R_eta, R_0, R_1, R_neg, R_den', R_den1, R_den0, c1]
  · by_cases c0 : x % 3 = 0
    · cases hr : r with
      | nil =>
        subst hr
        refine ⟨_, ?_, b3, nb3⟩
        simp only [getV_C, ix_C0, ix_C1, C_eta, tupOp_C, callOn_C, consOp_C, ty_C, len_C, onTup_C, eq_C, getV_F, ix_F0, ix_F1, ty_F, len_F, runF_mk, ofO_nx, ofO_rt, ofO_ex, x_non, x_bl, x_int, x_str, x_v, x_k, x_f, x_nil, x_absent, x_cons, x_tup, x_lst, x_bin, x_neg, x_not, x_and, x_or, x_cmp, x_isn, x_notn, x_ix, x_sl, x_call, x_callv, x_bi, x_isi, x_ise, x_me, x_lc, x_rng, x_rev, s_pass, s_seq, s_set, s_setix, s_aug, s_ex, s_ite, s_wh, s_for, s_ret, s_retn, s_brk, s_cnt, s_raise, s_tryN, s_tryA, consOp_t, tupOp_t, lstOp_t, negOp_i, onTup_t, callOn_t, getV_int, getV_bl, getV_str, getV_tup, getV_ref, getV_fn, getV_non, onFn_f, onExc_f, onInt_i, augNx_s, augop_a, augop_s, okOnly_ok, b_add, b_sub, b_mul, b_fdiv, b_mod, b_addt, c_lt, c_le, c_gt, c_ge, c_eq, c_ne, onL_s, onLo_s, onV_s, atV_s, lr_len, lr_list, lr_tuple, ix_t', ix_r', me_app, me_pop, me_rev, sl_r', sl_t', recv_app, recv_pop, recv_popAt, recv_clear, recv_rev, recv_ins, getL_at0, getL_at1, getL_at2, getL_at3, setL_at0, setL_at1, setL_at2, getL_0, getL_1, getL_2, getL_3, getL_4, setL_1, setL_2, setL_3, atI_0, atI_1, atI_2, atI_m1, List.append_assoc, List.length_append, Nat.add_one_ne_zero, bi_abs, bi_lent, bi_max, bi_min, bi_int, bi_intb, bi_listt, bi_tupt, ty_non, ty_bl, ty_int, ty_str, ty_tup, tb1, tb2, tb3, tb4, tb5, tn1, tn2, tn3, tn4, tn5, tn6, isNon_non, isNon_tup, isNon_int, isNon_ref, items_t, items_r, Option.map_some, fw_nil_n, fw_cons_n, fw_nil_s, fw_cons_s, takeS_0, takeS_s, dropS_0, dropS_s, forOn_s, lcOn_s, R.bind_ok, R.bind_exc, R.bind_bad, R.on_ok, R.on_exc, R.on_bad, onBl_bl, ifB_bl, O.then_nx, O.turn_nx, O.turn_ct, O.turn_bk, O.turn_rt, O.turn_ex, O.then_rt, O.then_ex, O.then_bk, O.then_ct, O.then_bad, onPart_int, onPart_abs, List.getElem?_cons_zero, List.getElem?_cons_succ, List.set_cons_zero, List.set_cons_succ, List.length_cons, List.length_nil, List.map_cons, List.map_nil, List.cons_append, List.nil_append, List.replicate_succ, List.replicate_zero, Nat.reduceAdd, Nat.reduceSub, Nat.reduceEqDiff, Nat.reduceLT, Nat.reduceLeDiff, if_true, if_false, ite_true, ite_false, eq_self, eqop_int, neop_int, eqop_bl, neop_bl, Bool.not_true, Bool.not_false, Bool.true_eq_false, Bool.false_eq_true, Bool.or_true, Bool.or_false, Bool.true_or, Bool.false_or, Bool.and_true, Bool.and_false, reduceIte, reduceCtorEq, decide_true, decide_false, decide_eq_true_eq, Bool.not_eq_true', decide_eq_false_iff_not, Nat.zero_le, lim1, lim2, lim3, lim4, lim5, Int.reduceLE, Int.reduceLT, Int.reduceEq, Int.reduceNe, ne_eq, not_false_eq_true, not_true_eq_false, Int.reduceNeg, and_true, true_and, and_false, false_and, or_true, true_or, or_false, false_or, alloc_e, seen_s, seen_none,  fmp, p10_4, p10_6, p10_9, p10_12, p10_18, p10_20, p10_28, p10_30, p10_40, p10_44, p10_50, p10_57, p10_58, p10_59, p10_60, getV_R, ix_R0, ix_R1, ty_R, len_R, isNon_R, tupOp_R, callOn_R, items_R, consOp_R, R0n, R0d, R1n, R1d, onTup_R, eq_R, ne_R, R_eta, R_0, R_1, R_neg, R_den', R_den1, R_den0, c0, hm, List.map_cons, List.map_nil, x3, fdiv3, hl, e3, Int.reduceAdd, Int.cast_ofNat_Int]
      | cons d t =>
        obtain ⟨pre, p, l, hpl⟩ : ∃ pre p l, c :: r = pre ++ [p, l] := by
          rw [hr]
          exact two_last t c d
        obtain ⟨hup, hnd⟩ := adj hpl g.up g.nd
        have zp := g.sz p (by rw [hpl]; simp)
        have zl := g.sz l (by rw [hpl]; simp)
        have i1 : L2.atI ((c :: r).map dC) (-1) = some (dC l) := by
          rw [hpl, show pre ++ [p, l] = (pre ++ [p]) ++ [l] by simp, List.map_append]
          exact atI_m1
        have i2 : L2.atI ((c :: r).map dC) (-2) = some (dC p) := by
          rw [hpl, List.map_append]
          exact atI_m2
        have s1 : Sz p.1 := zp.1.sz (by decide)
        have s2 : Sz p.2 := zp.2.sz (by decide)
        have s3 : Sz l.1 := zl.1.sz (by decide)
        have s4 : Sz l.2 := zl.2.sz (by decide)
        have hT := pdiff hup
        have hV := ndiff hnd
        have bT := sub_lt (mul_lt zl.1.1 (den_lt zp.1)) (mul_lt zp.1.1 (den_lt zl.1))
        have bV := sub_lt (mul_lt zl.2.1 (den_lt zp.2)) (mul_lt zp.2.1 (den_lt zl.2))
        have bd1 := mul_lt (den_lt zl.1) (den_lt zp.1)
        have bd2 := mul_lt (den_lt zl.2) (den_lt zp.2)
        have dp1 : 0 < (l.1.den : Int) * (p.1.den : Int) := Int.mul_pos (by have := l.1.den_pos; omega) (by have := p.1.den_pos; omega)
        have dp2 : 0 < (l.2.den : Int) * (p.2.den : Int) := Int.mul_pos (by have := l.2.den_pos; omega) (by have := p.2.den_pos; omega)
        have m1 := mulOk_of bV bd1 (by decide)
        have m2 := mulOk_of bd2 bT (by decide)
        have bt := mul_lt bV bd1
        have bb := mul_lt bd2 bT
        have hbp := Int.mul_pos dp2 hT
        have e := fun L => r_lowest n _ _ L hbp (up_lt bt (le_big (by decide))) (up_lt bb (le_big (by decide)))
        have hlen : (1 : Int) < ((c :: r).length : Int) := by rw [hr]; simp; omega
        generalize c :: r = cs at hm i1 i2 hlen
        refine ⟨_, ?_, Rb.div (up_lt bt (by decide)) (up_lt bb (by decide)) (by omega), nn_div (Int.mul_nonneg hV (by omega)) hbp⟩
        simp only [getV_C, ix_C0, ix_C1, C_eta, tupOp_C, callOn_C, consOp_C, ty_C, len_C, onTup_C, eq_C, getV_F, ix_F0, ix_F1, ty_F, len_F, runF_mk, ofO_nx, ofO_rt, ofO_ex, x_non, x_bl, x_int, x_str, x_v, x_k, x_f, x_nil, x_absent, x_cons, x_tup, x_lst, x_bin, x_neg, x_not, x_and, x_or, x_cmp, x_isn, x_notn, x_ix, x_sl, x_call, x_callv, x_bi, x_isi, x_ise, x_me, x_lc, x_rng, x_rev, s_pass, s_seq, s_set, s_setix, s_aug, s_ex, s_ite, s_wh, s_for, s_ret, s_retn, s_brk, s_cnt, s_raise, s_tryN, s_tryA, consOp_t, tupOp_t, lstOp_t, negOp_i, onTup_t, callOn_t, getV_int, getV_bl, getV_str, getV_tup, getV_ref, getV_fn, getV_non, onFn_f, onExc_f, onInt_i, augNx_s, augop_a, augop_s, okOnly_ok, b_add, b_sub, b_mul, b_fdiv, b_mod, b_addt, c_lt, c_le, c_gt, c_ge, c_eq, c_ne, onL_s, onLo_s, onV_s, atV_s, lr_len, lr_list, lr_tuple, ix_t', ix_r', me_app, me_pop, me_rev, sl_r', sl_t', recv_app, recv_pop, recv_popAt, recv_clear, recv_rev, recv_ins, getL_at0, getL_at1, getL_at2, getL_at3, setL_at0, setL_at1, setL_at2, getL_0, getL_1, getL_2, getL_3, getL_4, setL_1, setL_2, setL_3, atI_0, atI_1, atI_2, atI_m1, List.append_assoc, List.length_append, Nat.add_one_ne_zero, bi_abs, bi_lent, bi_max, bi_min, bi_int, bi_intb, bi_listt, bi_tupt, ty_non, ty_bl, ty_int, ty_str, ty_tup, tb1, tb2, tb3, tb4, tb5, tn1, tn2, tn3, tn4, tn5, tn6, isNon_non, isNon_tup, isNon_int, isNon_ref, items_t, items_r, Option.map_some, fw_nil_n, fw_cons_n, fw_nil_s, fw_cons_s, takeS_0, takeS_s, dropS_0, dropS_s, forOn_s, lcOn_s, R.bind_ok, R.bind_exc, R.bind_bad, R.on_ok, R.on_exc, R.on_bad, onBl_bl, ifB_bl, O.then_nx, O.turn_nx, O.turn_ct, O.turn_bk, O.turn_rt, O.turn_ex, O.then_rt, O.then_ex, O.then_bk, O.then_ct, O.then_bad, onPart_int, onPart_abs, List.getElem?_cons_zero, List.getElem?_cons_succ, List.set_cons_zero, List.set_cons_succ, List.length_cons, List.length_nil, List.map_cons, List.map_nil, List.cons_append, List.nil_append, List.replicate_succ, List.replicate_zero, Nat.reduceAdd, Nat.reduceSub, Nat.reduceEqDiff, Nat.reduceLT, Nat.reduceLeDiff, if_true, if_false, ite_true, ite_false, eq_self, eqop_int, neop_int, eqop_bl, neop_bl, Bool.not_true, Bool.not_false, Bool.true_eq_false, Bool.false_eq_true, Bool.or_true, Bool.or_false, Bool.true_or, Bool.false_or, Bool.and_true, Bool.and_false, reduceIte, reduceCtorEq, decide_true, decide_false, decide_eq_true_eq, Bool.not_eq_true', decide_eq_false_iff_not, Nat.zero_le, lim1, lim2, lim3, lim4, lim5, Int.reduceLE, Int.reduceLT, Int.reduceEq, Int.reduceNe, ne_eq, not_false_eq_true, not_true_eq_false, Int.reduceNeg, and_true, true_and, and_false, false_and, or_true, true_or, or_false, false_or, alloc_e, seen_s, seen_none,  fmp, p10_4, p10_6, p10_9, p10_12, p10_18, p10_20, p10_28, p10_30, p10_40, p10_44, p10_50, p10_57, p10_58, p10_59, p10_60, getV_R, ix_R0, ix_R1, ty_R, len_R, isNon_R, tupOp_R, callOn_R, items_R, consOp_R, R0n, R0d, R1n, R1d, onTup_R, eq_R, ne_R, R_eta, R_0, R_1, R_neg, R_den', R_den1, R_den0, c0, hm, List.length_map, hlen, i1, i2, r_lminus, s1, s2, s3, s4, m1, m2, e]
    · refine ⟨_, ?_, b3, nb3⟩
      simp only [getV_C, ix_C0, ix_C1, C_eta, tupOp_C, callOn_C, consOp_C, ty_C, len_C, onTup_C, eq_C, getV_F, ix_F0, ix_F1, ty_F, len_F, runF_mk, ofO_nx, ofO_rt, ofO_ex, x_non, x_bl, x_int, x_str, x_v, x_k, x_f, x_nil, x_absent, x_cons, x_tup, x_lst, x_bin, x_neg, x_not, x_and, x_or, x_cmp, x_isn, x_notn, x_ix, x_sl, x_call, x_callv, x_bi, x_isi, x_ise, x_me, x_lc, x_rng, x_rev, s_pass, s_seq, s_set, s_setix, s_aug, s_ex, s_ite, s_wh, s_for, s_ret, s_retn, s_brk, s_cnt, s_raise, s_tryN, s_tryA, consOp_t, tupOp_t, lstOp_t, negOp_i, onTup_t, callOn_t, getV_int, getV_bl, getV_str, getV_tup, getV_ref, getV_fn, getV_non, onFn_f, onExc_f, onInt_i, augNx_s, augop_a, augop_s, okOnly_ok, b_add, b_sub, b_mul, b_fdiv, b_mod, b_addt, c_lt, c_le, c_gt, c_ge, c_eq, c_ne, onL_s, onLo_s, onV_s, atV_s, lr_len, lr_list, lr_tuple, ix_t', ix_r', me_app, me_pop, me_rev, sl_r', sl_t', recv_app, recv_pop, recv_popAt, recv_clear, recv_rev, recv_ins, getL_at0, getL_at1, getL_at2, getL_at3, setL_at0, setL_at1, setL_at2, getL_0, getL_1, getL_2, getL_3, getL_4, setL_1, setL_2, setL_3, atI_0, atI_1, atI_2, atI_m1, List.append_assoc, List.length_append, Nat.add_one_ne_zero, bi_abs, bi_lent, bi_max, bi_min, bi_int, bi_intb, bi_listt, bi_tupt, ty_non, ty_bl, ty_int, ty_str, ty_tup, tb1, tb2, tb3, tb4, tb5, tn1, tn2, tn3, tn4, tn5, tn6, isNon_non, isNon_tup, isNon_int, isNon_ref, items_t, items_r, Option.map_some, fw_nil_n, fw_cons_n, fw_nil_s, fw_cons_s, takeS_0, takeS_s, dropS_0, dropS_s, forOn_s, lcOn_s, R.bind_ok, R.bind_exc, R.bind_bad, R.on_ok, R.on_exc, R.on_bad, onBl_bl, ifB_bl, O.then_nx, O.turn_nx, O.turn_ct, O.turn_bk, O.turn_rt, O.turn_ex, O.then_rt, O.then_ex, O.then_bk, O.then_ct, O.then_bad, onPart_int, onPart_abs, List.getElem?_cons_zero, List.getElem?_cons_succ, List.set_cons_zero, List.set_cons_succ, List.length_cons, List.length_nil, List.map_cons, List.map_nil, List.cons_append, List.nil_append, List.replicate_succ, List.replicate_zero, Nat.reduceAdd, Nat.reduceSub, Nat.reduceEqDiff, Nat.reduceLT, Nat.reduceLeDiff, if_true, if_false, ite_true, ite_false, eq_self, eqop_int, neop_int, eqop_bl, neop_bl, Bool.not_true, Bool.not_false, Bool.true_eq_false, Bool.false_eq_true, Bool.or_true, Bool.or_false, Bool.true_or, Bool.false_or, Bool.and_true, Bool.and_false, reduceIte, reduceCtorEq, decide_true, decide_false, decide_eq_true_eq, Bool.not_eq_true', decide_eq_false_iff_not, Nat.zero_le, lim1, lim2, lim3, lim4, lim5, Int.reduceLE, Int.reduceLT, Int.reduceEq, Int.reduceNe, ne_eq, not_false_eq_true, not_true_eq_false, Int.reduceNeg, and_true, true_and, and_false, false_and, or_true, true_or, or_false, false_or, alloc_e, seen_s, seen_none,  fmp, p10_4, p10_6, p10_9, p10_12, p10_18, p10_20, p10_28, p10_30, p10_40, p10_44, p10_50, p10_57, p10_58, p10_59, p10_60, getV_R, ix_R0, ix_R1, ty_R, len_R, isNon_R, tupOp_R, callOn_R, items_R, consOp_R, R0n, R0d, R1n, R1d, onTup_R, eq_R, ne_R, R_eta, R_0, R_1, R_neg, R_den', R_den1, R_den0, c0, c1, x3, fdiv3, hl, e3]
end Q

namespace Q
open PySem MP
theorem r_heap (n : Nat) (v s : Rat) (L : Hd) (hv : Sz v) (hs : Sz s) (h1 : ¬ v < 0) (h2 : ¬ s < 0) : runT T (n + 2) "heap" [dR v, dR s] L = .ok (dF [(0, v)] s) L := by
  rw [runT_succ T_heap]
  unfold F_heap
  simp only [getV_C, ix_C0, ix_C1, C_eta, tupOp_C, callOn_C, consOp_C, ty_C, len_C, onTup_C, eq_C, getV_F, ix_F0, ix_F1, ty_F, len_F, runF_mk, ofO_nx, ofO_rt, ofO_ex, x_non, x_bl, x_int, x_str, x_v, x_k, x_f, x_nil, x_absent, x_cons, x_tup, x_lst, x_bin, x_neg, x_not, x_and, x_or, x_cmp, x_isn, x_notn, x_ix, x_sl, x_call, x_callv, x_bi, x_isi, x_ise, x_me, x_lc, x_rng, x_rev, s_pass, s_seq, s_set, s_setix, s_aug, s_ex, s_ite, s_wh, s_for, s_ret, s_retn, s_brk, s_cnt, s_raise, s_tryN, s_tryA, consOp_t, tupOp_t, lstOp_t, negOp_i, onTup_t, callOn_t, getV_int, getV_bl, getV_str, getV_tup, getV_ref, getV_fn, getV_non, onFn_f, onExc_f, onInt_i, augNx_s, augop_a, augop_s, okOnly_ok, b_add, b_sub, b_mul, b_fdiv, b_mod, b_addt, c_lt, c_le, c_gt, c_ge, c_eq, c_ne, onL_s, onLo_s, onV_s, atV_s, lr_len, lr_list, lr_tuple, ix_t', ix_r', me_app, me_pop, me_rev, sl_r', sl_t', recv_app, recv_pop, recv_popAt, recv_clear, recv_rev, recv_ins, getL_at0, getL_at1, getL_at2, getL_at3, setL_at0, setL_at1, setL_at2, getL_0, getL_1, getL_2, getL_3, getL_4, setL_1, setL_2, setL_3, atI_0, atI_1, atI_2, atI_m1, List.append_assoc, List.length_append, Nat.add_one_ne_zero, bi_abs, bi_lent, bi_max, bi_min, bi_int, bi_intb, bi_listt, bi_tupt, ty_non, ty_bl, ty_int, ty_str, ty_tup, tb1, tb2, tb3, tb4, tb5, tn1, tn2, tn3, tn4, tn5, tn6, isNon_non, isNon_tup, isNon_int, isNon_ref, items_t, items_r, Option.map_some, fw_nil_n, fw_cons_n, fw_nil_s, fw_cons_s, takeS_0, takeS_s, dropS_0, dropS_s, forOn_s, lcOn_s, R.bind_ok, R.bind_exc, R.bind_bad, R.on_ok, R.on_exc, R.on_bad, onBl_bl, ifB_bl, O.then_nx, O.turn_nx, O.turn_ct, O.turn_bk, O.turn_rt, O.turn_ex, O.then_rt, O.then_ex, O.then_bk, O.then_ct, O.then_bad, onPart_int, onPart_abs, List.getElem?_cons_zero, List.getElem?_cons_succ, List.set_cons_zero, List.set_cons_succ, List.length_cons, List.length_nil, List.map_cons, List.map_nil, List.cons_append, List.nil_append, List.replicate_succ, List.replicate_zero, Nat.reduceAdd, Nat.reduceSub, Nat.reduceEqDiff, Nat.reduceLT, Nat.reduceLeDiff, if_true, if_false, ite_true, ite_false, eq_self, eqop_int, neop_int, eqop_bl, neop_bl, Bool.not_true, Bool.not_false, Bool.true_eq_false, Bool.false_eq_true, Bool.or_true, Bool.or_false, Bool.true_or, Bool.false_or, Bool.and_true, Bool.and_false, reduceIte, reduceCtorEq, decide_true, decide_false, decide_eq_true_eq, Bool.not_eq_true', decide_eq_false_iff_not, Nat.zero_le, lim1, lim2, lim3, lim4, lim5, Int.reduceLE, Int.reduceLT, Int.reduceEq, Int.reduceNe, ne_eq, not_false_eq_true, not_true_eq_false, Int.reduceNeg, and_true, true_and, and_false, false_and, or_true, true_or, or_false, false_or, alloc_e, seen_s, seen_none,  fmp, p10_4, p10_6, p10_9, p10_12, p10_18, p10_20, p10_28, p10_30, p10_40, p10_44, p10_50, p10_57, p10_58, p10_59, p10_60, getV_R, ix_R0, ix_R1, ty_R, len_R, isNon_R, tupOp_R, callOn_R, items_R, consOp_R, R0n, R0d, R1n, R1d, onTup_R, eq_R, ne_R, R_eta, R_0, R_1, R_neg, R_den', R_den1, R_den0, r_under, hv, hs, Sz0, h1, h2]
  rfl
end Q

namespace Q
open PySem MP
theorem Cz_of {a b : Rat} (ha : Rb a 1600) (hb : Rb b 1600) : Cz (a, b) := ⟨ha, hb⟩
theorem r_late (n : Nat) (t s : Rat) (L : Hd) (hL : L.length ≠ 0) (ht : Rb t 1600) (hs : Rb s 1600) (h1 : ¬ t < 0) (h2 : ¬ s < 0) : ∃ J, runT T (n + 8) "late" [dR t, dR s] L = .ok (dF (if t = 0 ∨ s = 0 then [(0, 0)] else [(0, 0), (t, 0)]) s) (L ++ J) := by
  rw [runT_succ T_late]
  unfold F_late
  have s1 : Sz t := ht.sz (by decide)
  have s2 : Sz s := hs.sz (by decide)
  have r0 : Rb 0 1600 := (show Rb 0 2 from ⟨by decide, by decide⟩).mono (by decide)
  by_cases h0 : t = 0
  · subst h0
    simp only [getV_C, ix_C0, ix_C1, C_eta, tupOp_C, callOn_C, consOp_C, ty_C, len_C, onTup_C, eq_C, getV_F, ix_F0, ix_F1, ty_F, len_F, runF_mk, ofO_nx, ofO_rt, ofO_ex, x_non, x_bl, x_int, x_str, x_v, x_k, x_f, x_nil, x_absent, x_cons, x_tup, x_lst, x_bin, x_neg, x_not, x_and, x_or, x_cmp, x_isn, x_notn, x_ix, x_sl, x_call, x_callv, x_bi, x_isi, x_ise, x_me, x_lc, x_rng, x_rev, s_pass, s_seq, s_set, s_setix, s_aug, s_ex, s_ite, s_wh, s_for, s_ret, s_retn, s_brk, s_cnt, s_raise, s_tryN, s_tryA, consOp_t, tupOp_t, lstOp_t, negOp_i, onTup_t, callOn_t, getV_int, getV_bl, getV_str, getV_tup, getV_ref, getV_fn, getV_non, onFn_f, onExc_f, onInt_i, augNx_s, augop_a, augop_s, okOnly_ok, b_add, b_sub, b_mul, b_fdiv, b_mod, b_addt, c_lt, c_le, c_gt, c_ge, c_eq, c_ne, onL_s, onLo_s, onV_s, atV_s, lr_len, lr_list, lr_tuple, ix_t', ix_r', me_app, me_pop, me_rev, sl_r', sl_t', recv_app, recv_pop, recv_popAt, recv_clear, recv_rev, recv_ins, getL_at0, getL_at1, getL_at2, getL_at3, setL_at0, setL_at1, setL_at2, getL_0, getL_1, getL_2, getL_3, getL_4, setL_1, setL_2, setL_3, atI_0, atI_1, atI_2, atI_m1, List.append_assoc, List.length_append, Nat.add_one_ne_zero, bi_abs, bi_lent, bi_max, bi_min, bi_int, bi_intb, bi_listt, bi_tupt, ty_non, ty_bl, ty_int, ty_str, ty_tup, tb1, tb2, tb3, tb4, tb5, tn1, tn2, tn3, tn4, tn5, tn6, isNon_non, isNon_tup, isNon_int, isNon_ref, items_t, items_r, Option.map_some, fw_nil_n, fw_cons_n, fw_nil_s, fw_cons_s, takeS_0, takeS_s, dropS_0, dropS_s, forOn_s, lcOn_s, R.bind_ok, R.bind_exc, R.bind_bad, R.on_ok, R.on_exc, R.on_bad, onBl_bl, ifB_bl, O.then_nx, O.turn_nx, O.turn_ct, O.turn_bk, O.turn_rt, O.turn_ex, O.then_rt, O.then_ex, O.then_bk, O.then_ct, O.then_bad, onPart_int, onPart_abs, List.getElem?_cons_zero, List.getElem?_cons_succ, List.set_cons_zero, List.set_cons_succ, List.length_cons, List.length_nil, List.map_cons, List.map_nil, List.cons_append, List.nil_append, List.replicate_succ, List.replicate_zero, Nat.reduceAdd, Nat.reduceSub, Nat.reduceEqDiff, Nat.reduceLT, Nat.reduceLeDiff, if_true, if_false, ite_true, ite_false, eq_self, eqop_int, neop_int, eqop_bl, neop_bl, Bool.not_true, Bool.not_false, Bool.true_eq_false, Bool.false_eq_true, Bool.or_true, Bool.or_false, Bool.true_or, Bool.false_or, Bool.and_true, Bool.and_false, reduceIte, reduceCtorEq, decide_true, decide_false, decide_eq_true_eq, Bool.not_eq_true', decide_eq_false_iff_not, Nat.zero_le, lim1, lim2, lim3, lim4, lim5, Int.reduceLE, Int.reduceLT, Int.reduceEq, Int.reduceNe, ne_eq, not_false_eq_true, not_true_eq_false, Int.reduceNeg, and_true, true_and, and_false, false_and, or_true, true_or, or_false, false_or, alloc_e, seen_s, seen_none,  fmp, p10_4, p10_6, p10_9, p10_12, p10_18, p10_20, p10_28, p10_30, p10_40, p10_44, p10_50, p10_57, p10_58, p10_59, p10_60, getV_R, ix_R0, ix_R1, ty_R, len_R, isNon_R, tupOp_R, callOn_R, items_R, consOp_R, R0n, R0d, R1n, R1d, onTup_R, eq_R, ne_R, R_eta, R_0, R_1, R_neg, R_den', R_den1, R_den0, r_under, r_heap, s1, s2, h1, h2, Sz0]
    exact ⟨[], by simp⟩
  · have hup : Ups ((0, 0) : Cn) [(t, 0)] := ⟨by show (0 : Rat) < t; grind, trivial⟩
    have hz : ∀ x ∈ ([(0, 0), (t, 0)] : List Cn), Cz x := fun x hx => by
      simp only [List.mem_cons, List.not_mem_nil, or_false] at hx
      rcases hx with h | h <;> subst h
      · exact Cz_of r0 r0
      · exact Cz_of ht r0
    have e := r_made n (L ++ [.lst [dC (0, 0), dC (t, 0)]]) (.ref L.length) (0, 0) [(t, 0)] s (by simp) (Sq.ref getL_at0) hz (by simp) hup
    simp only [getV_C, ix_C0, ix_C1, C_eta, tupOp_C, callOn_C, consOp_C, ty_C, len_C, onTup_C, eq_C, getV_F, ix_F0, ix_F1, ty_F, len_F, runF_mk, ofO_nx, ofO_rt, ofO_ex, x_non, x_bl, x_int, x_str, x_v, x_k, x_f, x_nil, x_absent, x_cons, x_tup, x_lst, x_bin, x_neg, x_not, x_and, x_or, x_cmp, x_isn, x_notn, x_ix, x_sl, x_call, x_callv, x_bi, x_isi, x_ise, x_me, x_lc, x_rng, x_rev, s_pass, s_seq, s_set, s_setix, s_aug, s_ex, s_ite, s_wh, s_for, s_ret, s_retn, s_brk, s_cnt, s_raise, s_tryN, s_tryA, consOp_t, tupOp_t, lstOp_t, negOp_i, onTup_t, callOn_t, getV_int, getV_bl, getV_str, getV_tup, getV_ref, getV_fn, getV_non, onFn_f, onExc_f, onInt_i, augNx_s, augop_a, augop_s, okOnly_ok, b_add, b_sub, b_mul, b_fdiv, b_mod, b_addt, c_lt, c_le, c_gt, c_ge, c_eq, c_ne, onL_s, onLo_s, onV_s, atV_s, lr_len, lr_list, lr_tuple, ix_t', ix_r', me_app, me_pop, me_rev, sl_r', sl_t', recv_app, recv_pop, recv_popAt, recv_clear, recv_rev, recv_ins, getL_at0, getL_at1, getL_at2, getL_at3, setL_at0, setL_at1, setL_at2, getL_0, getL_1, getL_2, getL_3, getL_4, setL_1, setL_2, setL_3, atI_0, atI_1, atI_2, atI_m1, List.append_assoc, List.length_append, Nat.add_one_ne_zero, bi_abs, bi_lent, bi_max, bi_min, bi_int, bi_intb, bi_listt, bi_tupt, ty_non, ty_bl, ty_int, ty_str, ty_tup, tb1, tb2, tb3, tb4, tb5, tn1, tn2, tn3, tn4, tn5, tn6, isNon_non, isNon_tup, isNon_int, isNon_ref, items_t, items_r, Option.map_some, fw_nil_n, fw_cons_n, fw_nil_s, fw_cons_s, takeS_0, takeS_s, dropS_0, dropS_s, forOn_s, lcOn_s, R.bind_ok, R.bind_exc, R.bind_bad, R.on_ok, R.on_exc, R.on_bad, onBl_bl, ifB_bl, O.then_nx, O.turn_nx, O.turn_ct, O.turn_bk, O.turn_rt, O.turn_ex, O.then_rt, O.then_ex, O.then_bk, O.then_ct, O.then_bad, onPart_int, onPart_abs, List.getElem?_cons_zero, List.getElem?_cons_succ, List.set_cons_zero, List.set_cons_succ, List.length_cons, List.length_nil, List.map_cons, List.map_nil, List.cons_append, List.nil_append, List.replicate_succ, List.replicate_zero, Nat.reduceAdd, Nat.reduceSub, Nat.reduceEqDiff, Nat.reduceLT, Nat.reduceLeDiff, if_true, if_false, ite_true, ite_false, eq_self, eqop_int, neop_int, eqop_bl, neop_bl, Bool.not_true, Bool.not_false, Bool.true_eq_false, Bool.false_eq_true, Bool.or_true, Bool.or_false, Bool.true_or, Bool.false_or, Bool.and_true, Bool.and_false, reduceIte, reduceCtorEq, decide_true, decide_false, decide_eq_true_eq, Bool.not_eq_true', decide_eq_false_iff_not, Nat.zero_le, lim1, lim2, lim3, lim4, lim5, Int.reduceLE, Int.reduceLT, Int.reduceEq, Int.reduceNe, ne_eq, not_false_eq_true, not_true_eq_false, Int.reduceNeg, and_true, true_and, and_false, false_and, or_true, true_or, or_false, false_or, alloc_e, seen_s, seen_none,  fmp, p10_4, p10_6, p10_9, p10_12, p10_18, p10_20, p10_28, p10_30, p10_40, p10_44, p10_50, p10_57, p10_58, p10_59, p10_60, getV_R, ix_R0, ix_R1, ty_R, len_R, isNon_R, tupOp_R, callOn_R, items_R, consOp_R, R0n, R0d, R1n, R1d, onTup_R, eq_R, ne_R, R_eta, R_0, R_1, R_neg, R_den', R_den1, R_den0, r_under, s1, s2, h1, h2, Sz0, h0]
    rw [e]
    have f : foldC (0, 0) [(t, 0)] s = if (t = 0 ∨ s = 0) then [(0, 0)] else [(0, 0), (t, 0)] := by
      have e0 : slope ((0, 0) : Cn) (t, 0) = 0 := by
        show ((0 : Rat) - 0) / (t - 0) = 0
        rw [Rat.div_def]
        grind
      unfold foldC
      simp only [gaps, e0, List.cons_append, List.nil_append, kept, h0, false_or]
      by_cases hs0 : s = 0
      · simp [hs0]
      · have : ¬ (0 : Rat) = s := fun h => hs0 h.symm
        simp [hs0, this]
    rw [f]
    simp only [R.on_ok, O.then_rt, ofO_rt, h0, false_or, List.append_assoc]
    exact ⟨_, rfl⟩
end Q

namespace Q
open PySem MP
theorem setix_r {ρ : MP.Env} {y : D} {n p : Nat} {j : Int} {L : Hd} {xs : List D} (hg : getL L n = some xs) (hn : n ≠ 0) (hj : L2.ixN xs.length j = some p) : setixOp ρ y (.ref n) (.int j) L = .nx ρ (setL L n (xs.set p y)) := by
  show (if n = 0 then O.bad else (match getL L n with
    | some xs => (match L2.ixN xs.length j with
      | some p => .nx ρ (setL L n (xs.set p y))
      | none => .bad)
    | none => .bad)) = _
  rw [if_neg hn, hg]
  show (match L2.ixN xs.length j with
      | some p => O.nx ρ (setL L n (xs.set p y))
      | none => .bad) = _
  rw [hj]
theorem ixN_pos {n : Nat} {j : Int} (h0 : 0 ≤ j) (h : j < n) : L2.ixN n j = some j.toNat := by
  unfold L2.ixN
  rw [if_pos h0, if_pos h]
def BadC (rs : List Cn) : Prop := rs = [] ∨ ∃ c r, rs = c :: r ∧ (c.1 ≠ 0 ∨ c.2 < 0 ∨ ¬ (Ups c r ∧ Nds c r))
theorem bad_adj {pre : List Cn} {p d : Cn} {t : List Cn} (h : ¬ p.1 < d.1 ∨ d.2 < p.2) : BadC (pre ++ p :: d :: t) := by
  right
  cases hp : pre ++ p :: d :: t with
  | nil =>
    have := congrArg List.length hp
    simp at this
  | cons c r =>
    refine ⟨c, r, rfl, .inr (.inr fun hg => ?_)⟩
    obtain ⟨h1, h2⟩ := adj hp.symm hg.1 hg.2
    rcases h with h | h
    · exact h h1
    · exact h2 h
theorem div_ne0 {a b : Int} (hb : b ≠ 0) (ha : a ≠ 0) : Rat.divInt a b ≠ 0 := fun h => by
  rw [← Rat.zero_divInt b, Rat.divInt_eq_divInt_iff hb hb, Int.zero_mul] at h
  rcases Int.mul_eq_zero.mp h with h | h
  · exact ha h
  · exact hb h
end Q

namespace Q
open PySem MP
theorem divOk60 (c : Int) : divOk c 60 := ⟨by decide, by
  unfold Builtin.divisionGoesByPylong
  simp only [Bool.and_eq_false_iff, decide_eq_false_iff_not, Nat.not_lt]
  left
  decide⟩
theorem fdiv60 (c : Int) : c.fdiv 60 = c / 60 := Int.fdiv_eq_ediv_of_nonneg _ (by omega)
/-- what a spoiled list is -/
structure Spo (way : Int) (c : Cn) (r rs : List Cn) : Prop where
  sz : ∀ x ∈ rs, Rb x.1 600 ∧ Rb x.2 600
  ln : rs.length ≤ 62
  gd : way = 0 ∨ way = 6 → rs = c :: r
  bd : 1 ≤ way ∧ way ≤ 5 → BadC rs
theorem set_mid {α : Type} {pre : List α} {p d x : α} {t : List α} : (pre ++ p :: d :: t).set (pre.length + 1) x = pre ++ p :: x :: t := by
  rw [List.set_append_right _ _ (by omega), Nat.add_sub_cancel_left]
  rfl
theorem cut_at {α : Type} : ∀ (xs : List α) (k : Nat), 1 ≤ k → k < xs.length → ∃ pre p d t, xs = pre ++ p :: d :: t ∧ pre.length + 1 = k
  | [], _, _, h => absurd h (by simp)
  | [_], k, h1, h => by
    simp at h
    omega
  | a :: b :: xs, k, h1, h => by
    by_cases hk : k = 1
    · exact ⟨[], a, b, xs, rfl, by simp [hk]⟩
    · obtain ⟨pre, p, d, t, e, hl⟩ := cut_at (b :: xs) (k - 1) (by omega) (by simp at h ⊢; omega)
      exact ⟨a :: pre, p, d, t, by rw [e]; rfl, by simp; omega⟩
theorem r_spoiled (n : Nat) (L : Hd) (h1 : Nat) (c : Cn) (r : List Cn) (way x : Int) (hL : L.length ≠ 0) (hg : getL L h1 = some ((c :: r).map dC)) (g : Good c r) (hn : r.length ≤ 60) (hw : 0 ≤ way ∧ way ≤ 6) : ∃ rs, runT T (n + 2) "_law_spoiled" [.ref h1, .int way, .int x] L = .ok (.ref L.length) (L ++ [.lst (rs.map dC)]) ∧ Spo way c r rs := by
  rw [runT_succ T__law_spoiled]
  have hz6 : ∀ y ∈ c :: r, Rb y.1 600 ∧ Rb y.2 600 := fun y hy => ⟨(g.sz y hy).1.mono (by decide), (g.sz y hy).2.mono (by decide)⟩
  have hlen : ((c :: r).map dC).length ≤ LIM := by simp; unfold LIM; omega
  have hcases : way = 1 ∨ way = 2 ∨ (way = 3 ∨ way = 4) ∨ way = 5 ∨ way = 0 ∨ way = 6 := by omega
  have zc := g.sz c List.mem_cons_self
  have i0 : L2.atI ((c :: r).map dC) 0 = some (dC c) := by rw [List.map_cons]; exact atI_0
  have j0 : L2.ixN ((c :: r).map dC).length 0 = some 0 := ixN_pos (by decide) (by simp)
  have e0 : ∀ d, ((c :: r).map dC).set 0 (dC d) = (d :: r).map dC := fun d => rfl
  rcases hcases with h | h | h | h | h
  · subst h
    refine ⟨[], ?_, fun y hy => absurd hy List.not_mem_nil, by simp, fun h => by omega, fun _ => .inl rfl⟩
    unfold F__law_spoiled
    simp only [getV_C, ix_C0, ix_C1, C_eta, tupOp_C, callOn_C, consOp_C, ty_C, len_C, onTup_C, eq_C, getV_F, ix_F0, ix_F1, ty_F, len_F, runF_mk, ofO_nx, ofO_rt, ofO_ex, x_non, x_bl, x_int, x_str, x_v, x_k, x_f, x_nil, x_absent, x_cons, x_tup, x_lst, x_bin, x_neg, x_not, x_and, x_or, x_cmp, x_isn, x_notn, x_ix, x_sl, x_call, x_callv, x_bi, x_isi, x_ise, x_me, x_lc, x_rng, x_rev, s_pass, s_seq, s_set, s_setix, s_aug, s_ex, s_ite, s_wh, s_for, s_ret, s_retn, s_brk, s_cnt, s_raise, s_tryN, s_tryA, consOp_t, tupOp_t, lstOp_t, negOp_i, onTup_t, callOn_t, getV_int, getV_bl, getV_str, getV_tup, getV_ref, getV_fn, getV_non, onFn_f, onExc_f, onInt_i, augNx_s, augop_a, augop_s, okOnly_ok, b_add, b_sub, b_mul, b_fdiv, b_mod, b_addt, c_lt, c_le, c_gt, c_ge, c_eq, c_ne, onL_s, onLo_s, onV_s, atV_s, lr_len, lr_list, lr_tuple, ix_t', ix_r', me_app, me_pop, me_rev, sl_r', sl_t', recv_app, recv_pop, recv_popAt, recv_clear, recv_rev, recv_ins, getL_at0, getL_at1, getL_at2, getL_at3, setL_at0, setL_at1, setL_at2, getL_0, getL_1, getL_2, getL_3, getL_4, setL_1, setL_2, setL_3, atI_0, atI_1, atI_2, atI_m1, List.append_assoc, List.length_append, Nat.add_one_ne_zero, bi_abs, bi_lent, bi_max, bi_min, bi_int, bi_intb, bi_listt, bi_tupt, ty_non, ty_bl, ty_int, ty_str, ty_tup, tb1, tb2, tb3, tb4, tb5, tn1, tn2, tn3, tn4, tn5, tn6, isNon_non, isNon_tup, isNon_int, isNon_ref, items_t, items_r, Option.map_some, fw_nil_n, fw_cons_n, fw_nil_s, fw_cons_s, takeS_0, takeS_s, dropS_0, dropS_s, forOn_s, lcOn_s, R.bind_ok, R.bind_exc, R.bind_bad, R.on_ok, R.on_exc, R.on_bad, onBl_bl, ifB_bl, O.then_nx, O.turn_nx, O.turn_ct, O.turn_bk, O.turn_rt, O.turn_ex, O.then_rt, O.then_ex, O.then_bk, O.then_ct, O.then_bad, onPart_int, onPart_abs, List.getElem?_cons_zero, List.getElem?_cons_succ, List.set_cons_zero, List.set_cons_succ, List.length_cons, List.length_nil, List.map_cons, List.map_nil, List.cons_append, List.nil_append, List.replicate_succ, List.replicate_zero, Nat.reduceAdd, Nat.reduceSub, Nat.reduceEqDiff, Nat.reduceLT, Nat.reduceLeDiff, if_true, if_false, ite_true, ite_false, eq_self, eqop_int, neop_int, eqop_bl, neop_bl, Bool.not_true, Bool.not_false, Bool.true_eq_false, Bool.false_eq_true, Bool.or_true, Bool.or_false, Bool.true_or, Bool.false_or, Bool.and_true, Bool.and_false, reduceIte, reduceCtorEq, decide_true, decide_false, decide_eq_true_eq, Bool.not_eq_true', decide_eq_false_iff_not, Nat.zero_le, lim1, lim2, lim3, lim4, lim5, Int.reduceLE, Int.reduceLT, Int.reduceEq, Int.reduceNe, ne_eq, not_false_eq_true, not_true_eq_false, Int.reduceNeg, and_true, true_and, and_false, false_and, or_true, true_or, or_false, false_or, alloc_e, seen_s, seen_none,  fmp, p10_4, p10_6, p10_9, p10_12, p10_18, p10_20, p10_28, p10_30, p10_40, p10_44, p10_50, p10_57, p10_58, p10_59, p10_60, getV_R, ix_R0, ix_R1, ty_R, len_R, isNon_R, tupOp_R, callOn_R, items_R, consOp_R, R0n, R0d, R1n, R1d, onTup_R, eq_R, ne_R, R_eta, R_0, R_1, R_neg, R_den', R_den1, R_den0]
  · subst h
    have x2 := divOk2 x
    have key : ∀ off : Int, off ≠ 0 → off.natAbs < 2 ^ 110 → ∀ M, runT T (n + 1) "_law_lowest" [.int off, .int (1 + x % 7)] M = .ok (dR (Rat.divInt off (1 + x % 7))) M ∧ Rb (Rat.divInt off (1 + x % 7)) 110 ∧ Rat.divInt off (1 + x % 7) ≠ 0 := fun off ho hb M => by
      exact ⟨r_lowest n off (1 + x % 7) M (by omega) (up_lt hb (le_big (by decide))) (up_lt (k := 110) (by omega) (le_big (by decide))), Rb.div hb (by omega) (by omega), div_ne0 (by omega) ho⟩
    have fin : ∀ q : Rat, Rb q 110 → q ≠ 0 → Spo 2 c r ((q, c.2) :: r) := fun q hq hq0 => ⟨fun y hy => by
      rcases List.mem_cons.mp hy with h | h
      · subst h
        exact ⟨hq.mono (by decide), zc.2.mono (by decide)⟩
      · exact hz6 y (List.mem_cons_of_mem _ h), by simp; omega, fun h => by omega, fun _ => .inr ⟨_, _, rfl, .inl hq0⟩⟩
    by_cases hx : x % 2 = 1
    · have k := fun M => key (-(1 + x / 2 % 10000000000000000000000000000)) (by omega) (by omega) M
      refine ⟨_, ?_, fin _ (k L).2.1 (k L).2.2⟩
      have k1 := fun M => (k M).1
      generalize (c :: r).map dC = xs at hg hlen i0 j0 e0
      have sx := fun (y : D) (ρ : MP.Env) => setix_r (ρ := ρ) (y := y) (L := L ++ [.lst xs]) getL_at0 hL j0
      unfold F__law_spoiled
      simp only [getV_C, ix_C0, ix_C1, C_eta, tupOp_C, callOn_C, consOp_C, ty_C, len_C, onTup_C, eq_C, getV_F, ix_F0, ix_F1, ty_F, len_F, runF_mk, ofO_nx, ofO_rt, ofO_ex, x_non, x_bl, x_int, x_str, x_v, x_k, x_f, x_nil, x_absent, x_cons, x_tup, x_lst, x_bin, x_neg, x_not, x_and, x_or, x_cmp, x_isn, x_notn, x_ix, x_sl, x_call, x_callv, x_bi, x_isi, x_ise, x_me, x_lc, x_rng, x_rev, s_pass, s_seq, s_set, s_setix, s_aug, s_ex, s_ite, s_wh, s_for, s_ret, s_retn, s_brk, s_cnt, s_raise, s_tryN, s_tryA, consOp_t, tupOp_t, lstOp_t, negOp_i, onTup_t, callOn_t, getV_int, getV_bl, getV_str, getV_tup, getV_ref, getV_fn, getV_non, onFn_f, onExc_f, onInt_i, augNx_s, augop_a, augop_s, okOnly_ok, b_add, b_sub, b_mul, b_fdiv, b_mod, b_addt, c_lt, c_le, c_gt, c_ge, c_eq, c_ne, onL_s, onLo_s, onV_s, atV_s, lr_len, lr_list, lr_tuple, ix_t', ix_r', me_app, me_pop, me_rev, sl_r', sl_t', recv_app, recv_pop, recv_popAt, recv_clear, recv_rev, recv_ins, getL_at0, getL_at1, getL_at2, getL_at3, setL_at0, setL_at1, setL_at2, getL_0, getL_1, getL_2, getL_3, getL_4, setL_1, setL_2, setL_3, atI_0, atI_1, atI_2, atI_m1, List.append_assoc, List.length_append, Nat.add_one_ne_zero, bi_abs, bi_lent, bi_max, bi_min, bi_int, bi_intb, bi_listt, bi_tupt, ty_non, ty_bl, ty_int, ty_str, ty_tup, tb1, tb2, tb3, tb4, tb5, tn1, tn2, tn3, tn4, tn5, tn6, isNon_non, isNon_tup, isNon_int, isNon_ref, items_t, items_r, Option.map_some, fw_nil_n, fw_cons_n, fw_nil_s, fw_cons_s, takeS_0, takeS_s, dropS_0, dropS_s, forOn_s, lcOn_s, R.bind_ok, R.bind_exc, R.bind_bad, R.on_ok, R.on_exc, R.on_bad, onBl_bl, ifB_bl, O.then_nx, O.turn_nx, O.turn_ct, O.turn_bk, O.turn_rt, O.turn_ex, O.then_rt, O.then_ex, O.then_bk, O.then_ct, O.then_bad, onPart_int, onPart_abs, List.getElem?_cons_zero, List.getElem?_cons_succ, List.set_cons_zero, List.set_cons_succ, List.length_cons, List.length_nil, List.map_cons, List.map_nil, List.cons_append, List.nil_append, List.replicate_succ, List.replicate_zero, Nat.reduceAdd, Nat.reduceSub, Nat.reduceEqDiff, Nat.reduceLT, Nat.reduceLeDiff, if_true, if_false, ite_true, ite_false, eq_self, eqop_int, neop_int, eqop_bl, neop_bl, Bool.not_true, Bool.not_false, Bool.true_eq_false, Bool.false_eq_true, Bool.or_true, Bool.or_false, Bool.true_or, Bool.false_or, Bool.and_true, Bool.and_false, reduceIte, reduceCtorEq, decide_true, decide_false, decide_eq_true_eq, Bool.not_eq_true', decide_eq_false_iff_not, Nat.zero_le, lim1, lim2, lim3, lim4, lim5, Int.reduceLE, Int.reduceLT, Int.reduceEq, Int.reduceNe, ne_eq, not_false_eq_true, not_true_eq_false, Int.reduceNeg, and_true, true_and, and_false, false_and, or_true, true_or, or_false, false_or, alloc_e, seen_s, seen_none,  fmp, p10_4, p10_6, p10_9, p10_12, p10_18, p10_20, p10_28, p10_30, p10_40, p10_44, p10_50, p10_57, p10_58, p10_59, p10_60, getV_R, ix_R0, ix_R1, ty_R, len_R, isNon_R, tupOp_R, callOn_R, items_R, consOp_R, R0n, R0d, R1n, R1d, onTup_R, eq_R, ne_R, R_eta, R_0, R_1, R_neg, R_den', R_den1, R_den0, hg, hlen, x2, fdiv2, hx, i0, k1, sx, e0]
    · have k := fun M => key (1 + x / 2 % 10000000000000000000000000000) (by omega) (by omega) M
      refine ⟨_, ?_, fin _ (k L).2.1 (k L).2.2⟩
      have k1 := fun M => (k M).1
      generalize (c :: r).map dC = xs at hg hlen i0 j0 e0
      have sx := fun (y : D) (ρ : MP.Env) => setix_r (ρ := ρ) (y := y) (L := L ++ [.lst xs]) getL_at0 hL j0
      unfold F__law_spoiled
      simp only [getV_C, ix_C0, ix_C1, C_eta, tupOp_C, callOn_C, consOp_C, ty_C, len_C, onTup_C, eq_C, getV_F, ix_F0, ix_F1, ty_F, len_F, runF_mk, ofO_nx, ofO_rt, ofO_ex, x_non, x_bl, x_int, x_str, x_v, x_k, x_f, x_nil, x_absent, x_cons, x_tup, x_lst, x_bin, x_neg, x_not, x_and, x_or, x_cmp, x_isn, x_notn, x_ix, x_sl, x_call, x_callv, x_bi, x_isi, x_ise, x_me, x_lc, x_rng, x_rev, s_pass, s_seq, s_set, s_setix, s_aug, s_ex, s_ite, s_wh, s_for, s_ret, s_retn, s_brk, s_cnt, s_raise, s_tryN, s_tryA, consOp_t, tupOp_t, lstOp_t, negOp_i, onTup_t, callOn_t, getV_int, getV_bl, getV_str, getV_tup, getV_ref, getV_fn, getV_non, onFn_f, onExc_f, onInt_i, augNx_s, augop_a, augop_s, okOnly_ok, b_add, b_sub, b_mul, b_fdiv, b_mod, b_addt, c_lt, c_le, c_gt, c_ge, c_eq, c_ne, onL_s, onLo_s, onV_s, atV_s, lr_len, lr_list, lr_tuple, ix_t', ix_r', me_app, me_pop, me_rev, sl_r', sl_t', recv_app, recv_pop, recv_popAt, recv_clear, recv_rev, recv_ins, getL_at0, getL_at1, getL_at2, getL_at3, setL_at0, setL_at1, setL_at2, getL_0, getL_1, getL_2, getL_3, getL_4, setL_1, setL_2, setL_3, atI_0, atI_1, atI_2, atI_m1, List.append_assoc, List.length_append, Nat.add_one_ne_zero, bi_abs, bi_lent, bi_max, bi_min, bi_int, bi_intb, bi_listt, bi_tupt, ty_non, ty_bl, ty_int, ty_str, ty_tup, tb1, tb2, tb3, tb4, tb5, tn1, tn2, tn3, tn4, tn5, tn6, isNon_non, isNon_tup, isNon_int, isNon_ref, items_t, items_r, Option.map_some, fw_nil_n, fw_cons_n, fw_nil_s, fw_cons_s, takeS_0, takeS_s, dropS_0, dropS_s, forOn_s, lcOn_s, R.bind_ok, R.bind_exc, R.bind_bad, R.on_ok, R.on_exc, R.on_bad, onBl_bl, ifB_bl, O.then_nx, O.turn_nx, O.turn_ct, O.turn_bk, O.turn_rt, O.turn_ex, O.then_rt, O.then_ex, O.then_bk, O.then_ct, O.then_bad, onPart_int, onPart_abs, List.getElem?_cons_zero, List.getElem?_cons_succ, List.set_cons_zero, List.set_cons_succ, List.length_cons, List.length_nil, List.map_cons, List.map_nil, List.cons_append, List.nil_append, List.replicate_succ, List.replicate_zero, Nat.reduceAdd, Nat.reduceSub, Nat.reduceEqDiff, Nat.reduceLT, Nat.reduceLeDiff, if_true, if_false, ite_true, ite_false, eq_self, eqop_int, neop_int, eqop_bl, neop_bl, Bool.not_true, Bool.not_false, Bool.true_eq_false, Bool.false_eq_true, Bool.or_true, Bool.or_false, Bool.true_or, Bool.false_or, Bool.and_true, Bool.and_false, reduceIte, reduceCtorEq, decide_true, decide_false, decide_eq_true_eq, Bool.not_eq_true', decide_eq_false_iff_not, Nat.zero_le, lim1, lim2, lim3, lim4, lim5, Int.reduceLE, Int.reduceLT, Int.reduceEq, Int.reduceNe, ne_eq, not_false_eq_true, not_true_eq_false, Int.reduceNeg, and_true, true_and, and_false, false_and, or_true, true_or, or_false, false_or, alloc_e, seen_s, seen_none,  fmp, p10_4, p10_6, p10_9, p10_12, p10_18, p10_20, p10_28, p10_30, p10_40, p10_44, p10_50, p10_57, p10_58, p10_59, p10_60, getV_R, ix_R0, ix_R1, ty_R, len_R, isNon_R, tupOp_R, callOn_R, items_R, consOp_R, R0n, R0d, R1n, R1d, onTup_R, eq_R, ne_R, R_eta, R_0, R_1, R_neg, R_den', R_den1, R_den0, hg, hlen, x2, fdiv2, hx, i0, k1, sx, e0]
  · have x60 := divOk60 x
    obtain ⟨ls, hls⟩ : ∃ ls, ls = x / 60 % 100000000000000000000 := ⟨_, rfl⟩
    have hls2 : 0 ≤ ls ∧ ls.natAbs < 2 ^ 70 := by omega
    -- the new corner, behind p
    have low : ∀ (q : Rat), Rb q 110 → ∀ y : Int, 0 ≤ y ∧ y.natAbs < 2 ^ 71 → ∀ M, runT T (n + 1) "_law_lowest" [.int (q.num - y * q.den), .int q.den] M = .ok (dR (Rat.divInt (q.num - y * q.den) q.den)) M := fun q hq y hy M => r_lowest n _ _ M (by have := q.den_pos; omega) (up_lt (sub_lt (up_lt hq.1 (by decide : 110 ≤ 181)) (mul_lt hy.2 (den_lt hq))) (le_big (by decide))) (up_lt (den_lt hq) (le_big (by decide)))
    have lowb : ∀ (q : Rat), Rb q 110 → ∀ y : Int, 0 ≤ y ∧ y.natAbs < 2 ^ 71 → Rb (Rat.divInt (q.num - y * q.den) q.den) 600 := fun q hq y hy => (Rb.div (sub_lt (up_lt hq.1 (by decide : 110 ≤ 181)) (mul_lt hy.2 (den_lt hq))) (up_lt (den_lt hq) (by decide)) R_den).mono (by decide)
    have lown : ∀ (q : Rat) (y : Int), 0 ≤ y → ¬ q < Rat.divInt (q.num - y * q.den) q.den := fun q y hy h => by
      have hd : 0 < (q.den : Int) := by have := q.den_pos; omega
      rw [show q < Rat.divInt (q.num - y * q.den) q.den ↔ Rat.divInt q.num q.den < Rat.divInt (q.num - y * q.den) q.den by rw [Rat.num_divInt_den], dlt hd] at h
      have := Int.mul_nonneg hy (Int.le_of_lt hd)
      omega
    have lowl : ∀ (q : Rat) (y : Int), 0 < y → Rat.divInt (q.num - y * q.den) q.den < q := fun q y hy => by
      have hd : 0 < (q.den : Int) := by have := q.den_pos; omega
      rw [show Rat.divInt (q.num - y * q.den) q.den < q ↔ Rat.divInt (q.num - y * q.den) q.den < Rat.divInt q.num q.den by rw [Rat.num_divInt_den], dlt hd]
      have := Int.mul_pos hy hd
      omega
    have mls : ∀ (q : Rat), Rb q 110 → ∀ y : Int, 0 ≤ y ∧ y.natAbs < 2 ^ 71 → mulOk y q.den := fun q hq y hy => mulOk_of hy.2 (den_lt hq) (by decide)
    have ls0 : 0 ≤ ls ∧ ls.natAbs < 2 ^ 71 := by omega
    have ls1 : 0 ≤ 1 + ls ∧ (1 + ls).natAbs < 2 ^ 71 := by omega
    cases hr : r with
    | nil =>
      subst hr
      have low1 := fun M => low c.1 zc.1 ls ls0 M
      have low2 := fun M => low c.2 zc.2 (1 + ls) ls1 M
      have ml1 := mls c.1 zc.1 ls ls0
      have ml2 := mls c.2 zc.2 (1 + ls) ls1
      have x1 : x % 1 = 0 := Int.emod_one x
      have j1 : L2.ixN ([dC c, dC c] : List D).length 1 = some 1 := rfl
      have sx := fun (y : D) (ρ : MP.Env) => setix_r (ρ := ρ) (y := y) (L := L ++ [.lst [dC c, dC c]]) getL_at0 hL j1
      have l1 : (1 < LIM) = True := by simp [LIM]
      rcases h with h | h
      · subst h
        refine ⟨[c, (Rat.divInt (c.1.num - ls * c.1.den) c.1.den, c.2)], ?_, fun y hy => ?_, by simp, fun h => by omega, fun _ => bad_adj (pre := []) (.inl (lown _ _ ls0.1))⟩
        · unfold F__law_spoiled
          simp only [getV_C, ix_C0, ix_C1, C_eta, tupOp_C, callOn_C, consOp_C, ty_C, len_C, onTup_C, eq_C, getV_F, ix_F0, ix_F1, ty_F, len_F, runF_mk, ofO_nx, ofO_rt, ofO_ex, x_non, x_bl, x_int, x_str, x_v, x_k, x_f, x_nil, x_absent, x_cons, x_tup, x_lst, x_bin, x_neg, x_not, x_and, x_or, x_cmp, x_isn, x_notn, x_ix, x_sl, x_call, x_callv, x_bi, x_isi, x_ise, x_me, x_lc, x_rng, x_rev, s_pass, s_seq, s_set, s_setix, s_aug, s_ex, s_ite, s_wh, s_for, s_ret, s_retn, s_brk, s_cnt, s_raise, s_tryN, s_tryA, consOp_t, tupOp_t, lstOp_t, negOp_i, onTup_t, callOn_t, getV_int, getV_bl, getV_str, getV_tup, getV_ref, getV_fn, getV_non, onFn_f, onExc_f, onInt_i, augNx_s, augop_a, augop_s, okOnly_ok, b_add, b_sub, b_mul, b_fdiv, b_mod, b_addt, c_lt, c_le, c_gt, c_ge, c_eq, c_ne, onL_s, onLo_s, onV_s, atV_s, lr_len, lr_list, lr_tuple, ix_t', ix_r', me_app, me_pop, me_rev, sl_r', sl_t', recv_app, recv_pop, recv_popAt, recv_clear, recv_rev, recv_ins, getL_at0, getL_at1, getL_at2, getL_at3, setL_at0, setL_at1, setL_at2, getL_0, getL_1, getL_2, getL_3, getL_4, setL_1, setL_2, setL_3, atI_0, atI_1, atI_2, atI_m1, List.append_assoc, List.length_append, Nat.add_one_ne_zero, bi_abs, bi_lent, bi_max, bi_min, bi_int, bi_intb, bi_listt, bi_tupt, ty_non, ty_bl, ty_int, ty_str, ty_tup, tb1, tb2, tb3, tb4, tb5, tn1, tn2, tn3, tn4, tn5, tn6, isNon_non, isNon_tup, isNon_int, isNon_ref, items_t, items_r, Option.map_some, fw_nil_n, fw_cons_n, fw_nil_s, fw_cons_s, takeS_0, takeS_s, dropS_0, dropS_s, forOn_s, lcOn_s, R.bind_ok, R.bind_exc, R.bind_bad, R.on_ok, R.on_exc, R.on_bad, onBl_bl, ifB_bl, O.then_nx, O.turn_nx, O.turn_ct, O.turn_bk, O.turn_rt, O.turn_ex, O.then_rt, O.then_ex, O.then_bk, O.then_ct, O.then_bad, onPart_int, onPart_abs, List.getElem?_cons_zero, List.getElem?_cons_succ, List.set_cons_zero, List.set_cons_succ, List.length_cons, List.length_nil, List.map_cons, List.map_nil, List.cons_append, List.nil_append, List.replicate_succ, List.replicate_zero, Nat.reduceAdd, Nat.reduceSub, Nat.reduceEqDiff, Nat.reduceLT, Nat.reduceLeDiff, if_true, if_false, ite_true, ite_false, eq_self, eqop_int, neop_int, eqop_bl, neop_bl, Bool.not_true, Bool.not_false, Bool.true_eq_false, Bool.false_eq_true, Bool.or_true, Bool.or_false, Bool.true_or, Bool.false_or, Bool.and_true, Bool.and_false, reduceIte, reduceCtorEq, decide_true, decide_false, decide_eq_true_eq, Bool.not_eq_true', decide_eq_false_iff_not, Nat.zero_le, lim1, lim2, lim3, lim4, lim5, Int.reduceLE, Int.reduceLT, Int.reduceEq, Int.reduceNe, ne_eq, not_false_eq_true, not_true_eq_false, Int.reduceNeg, and_true, true_and, and_false, false_and, or_true, true_or, or_false, false_or, alloc_e, seen_s, seen_none,  fmp, p10_4, p10_6, p10_9, p10_12, p10_18, p10_20, p10_28, p10_30, p10_40, p10_44, p10_50, p10_57, p10_58, p10_59, p10_60, getV_R, ix_R0, ix_R1, ty_R, len_R, isNon_R, tupOp_R, callOn_R, items_R, consOp_R, R0n, R0d, R1n, R1d, onTup_R, eq_R, ne_R, R_eta, R_0, R_1, R_neg, R_den', R_den1, R_den0, hL, hg, Int.natCast_one, Int.reduceSub, gt_iff_lt, Int.reduceAdd, x1, x60, fdiv60, ← hls, low1, ml1, sx, l1]
        · simp only [List.mem_cons, List.not_mem_nil, or_false] at hy
          rcases hy with h | h <;> subst h
          · exact hz6 _ List.mem_cons_self
          · exact ⟨lowb _ zc.1 _ ls0, zc.2.mono (by decide)⟩
      · subst h
        refine ⟨[c, (c.1, Rat.divInt (c.2.num - (1 + ls) * c.2.den) c.2.den)], ?_, fun y hy => ?_, by simp, fun h => by omega, fun _ => bad_adj (pre := []) (.inr (lowl _ _ (by omega)))⟩
        · unfold F__law_spoiled
          simp only [getV_C, ix_C0, ix_C1, C_eta, tupOp_C, callOn_C, consOp_C, ty_C, len_C, onTup_C, eq_C, getV_F, ix_F0, ix_F1, ty_F, len_F, runF_mk, ofO_nx, ofO_rt, ofO_ex, x_non, x_bl, x_int, x_str, x_v, x_k, x_f, x_nil, x_absent, x_cons, x_tup, x_lst, x_bin, x_neg, x_not, x_and, x_or, x_cmp, x_isn, x_notn, x_ix, x_sl, x_call, x_callv, x_bi, x_isi, x_ise, x_me, x_lc, x_rng, x_rev, s_pass, s_seq, s_set, s_setix, s_aug, s_ex, s_ite, s_wh, s_for, s_ret, s_retn, s_brk, s_cnt, s_raise, s_tryN, s_tryA, consOp_t, tupOp_t, lstOp_t, negOp_i, onTup_t, callOn_t, getV_int, getV_bl, getV_str, getV_tup, getV_ref, getV_fn, getV_non, onFn_f, onExc_f, onInt_i, augNx_s, augop_a, augop_s, okOnly_ok, b_add, b_sub, b_mul, b_fdiv, b_mod, b_addt, c_lt, c_le, c_gt, c_ge, c_eq, c_ne, onL_s, onLo_s, onV_s, atV_s, lr_len, lr_list, lr_tuple, ix_t', ix_r', me_app, me_pop, me_rev, sl_r', sl_t', recv_app, recv_pop, recv_popAt, recv_clear, recv_rev, recv_ins, getL_at0, getL_at1, getL_at2, getL_at3, setL_at0, setL_at1, setL_at2, getL_0, getL_1, getL_2, getL_3, getL_4, setL_1, setL_2, setL_3, atI_0, atI_1, atI_2, atI_m1, List.append_assoc, List.length_append, Nat.add_one_ne_zero, bi_abs, bi_lent, bi_max, bi_min, bi_int, bi_intb, bi_listt, bi_tupt, ty_non, ty_bl, ty_int, ty_str, ty_tup, tb1, tb2, tb3, tb4, tb5, tn1, tn2, tn3, tn4, tn5, tn6, isNon_non, isNon_tup, isNon_int, isNon_ref, items_t, items_r, Option.map_some, fw_nil_n, fw_cons_n, fw_nil_s, fw_cons_s, takeS_0, takeS_s, dropS_0, dropS_s, forOn_s, lcOn_s, R.bind_ok, R.bind_exc, R.bind_bad, R.on_ok, R.on_exc, R.on_bad, onBl_bl, ifB_bl, O.then_nx, O.turn_nx, O.turn_ct, O.turn_bk, O.turn_rt, O.turn_ex, O.then_rt, O.then_ex, O.then_bk, O.then_ct, O.then_bad, onPart_int, onPart_abs, List.getElem?_cons_zero, List.getElem?_cons_succ, List.set_cons_zero, List.set_cons_succ, List.length_cons, List.length_nil, List.map_cons, List.map_nil, List.cons_append, List.nil_append, List.replicate_succ, List.replicate_zero, Nat.reduceAdd, Nat.reduceSub, Nat.reduceEqDiff, Nat.reduceLT, Nat.reduceLeDiff, if_true, if_false, ite_true, ite_false, eq_self, eqop_int, neop_int, eqop_bl, neop_bl, Bool.not_true, Bool.not_false, Bool.true_eq_false, Bool.false_eq_true, Bool.or_true, Bool.or_false, Bool.true_or, Bool.false_or, Bool.and_true, Bool.and_false, reduceIte, reduceCtorEq, decide_true, decide_false, decide_eq_true_eq, Bool.not_eq_true', decide_eq_false_iff_not, Nat.zero_le, lim1, lim2, lim3, lim4, lim5, Int.reduceLE, Int.reduceLT, Int.reduceEq, Int.reduceNe, ne_eq, not_false_eq_true, not_true_eq_false, Int.reduceNeg, and_true, true_and, and_false, false_and, or_true, true_or, or_false, false_or, alloc_e, seen_s, seen_none,  fmp, p10_4, p10_6, p10_9, p10_12, p10_18, p10_20, p10_28, p10_30, p10_40, p10_44, p10_50, p10_57, p10_58, p10_59, p10_60, getV_R, ix_R0, ix_R1, ty_R, len_R, isNon_R, tupOp_R, callOn_R, items_R, consOp_R, R0n, R0d, R1n, R1d, onTup_R, eq_R, ne_R, R_eta, R_0, R_1, R_neg, R_den', R_den1, R_den0, hL, hg, Int.natCast_one, Int.reduceSub, gt_iff_lt, Int.reduceAdd, x1, x60, fdiv60, ← hls, low2, ml2, sx, l1]
        · simp only [List.mem_cons, List.not_mem_nil, or_false] at hy
          rcases hy with h | h <;> subst h
          · exact hz6 _ List.mem_cons_self
          · exact ⟨zc.1.mono (by decide), lowb _ zc.2 _ ls1⟩
    | cons d0 t0 =>
      rw [← hr]
      obtain ⟨m, hm⟩ : ∃ m : Int, m = (r.length : Int) := ⟨_, rfl⟩
      have hm1 : 0 < m := by rw [hm, hr]; simp
      obtain ⟨K, hK⟩ : ∃ K, K = 1 + x % m := ⟨_, rfl⟩
      have hKb : 1 ≤ K ∧ K ≤ m := by
        have h1 := Int.emod_nonneg x (b := m) (by omega)
        have h2 := Int.emod_lt_of_pos x hm1
        omega
      obtain ⟨pre, p, d, t, hcs, hpl⟩ := cut_at (c :: r) K.toNat (by omega) (by simp; omega)
      have zp := g.sz p (by rw [hcs]; simp)
      have zd := g.sz d (by rw [hcs]; simp)
      have i1 : L2.atI ((c :: r).map dC) (K - 1) = some (dC p) := by
        rw [hcs, List.map_append, List.map_cons]
        exact atI_app (by simp; omega)
      have i2 : L2.atI ((c :: r).map dC) K = some (dC d) := by
        rw [hcs, show pre ++ p :: d :: t = (pre ++ [p]) ++ d :: t by simp, List.map_append, List.map_cons]
        exact atI_app (by simp; omega)
      have hxl : ((((c :: r).map dC).length : Nat) : Int) = m + 1 := by rw [hm]; simp
      have mx : (if m + 1 - 1 > 1 then m + 1 - 1 else 1) = m := by split <;> omega
      have hne : (K = m + 1) = False := by simp only [eq_iff_iff, iff_false]; omega
      have hm0 : m ≠ 0 := by omega
      have jK : L2.ixN ((c :: r).map dC).length K = some (pre.length + 1) := by
        rw [ixN_pos (by omega) (by rw [hxl]; omega)]
        congr 1
        omega
      have sK : ∀ q : Cn, ((c :: r).map dC).set (pre.length + 1) (dC q) = (pre ++ p :: q :: t).map dC := fun q => by
        rw [← List.map_set, hcs, set_mid]
      have fin : ∀ q : Cn, Rb q.1 600 ∧ Rb q.2 600 → (¬ p.1 < q.1 ∨ q.2 < p.2) → ∀ way, way = 3 ∨ way = 4 → Spo way c r (pre ++ p :: q :: t) := fun q hq hb way hw => ⟨fun y hy => by
          by_cases hyq : y = q
          · rw [hyq]; exact hq
          · refine hz6 y ?_
            rw [hcs]
            simp only [List.mem_append, List.mem_cons] at hy ⊢
            rcases hy with h | h | h | h
            · exact .inl h
            · exact .inr (.inl h)
            · exact absurd h hyq
            · exact .inr (.inr (.inr h)),
        by have := congrArg List.length hcs; simp at this ⊢; omega, fun h => by omega, fun _ => bad_adj hb⟩
      have low1 := fun M => low p.1 zp.1 ls ls0 M
      have low2 := fun M => low p.2 zp.2 (1 + ls) ls1 M
      have ml1 := mls p.1 zp.1 ls ls0
      have ml2 := mls p.2 zp.2 (1 + ls) ls1
      rcases h with h | h
      · subst h
        refine ⟨pre ++ p :: (Rat.divInt (p.1.num - ls * p.1.den) p.1.den, d.2) :: t, ?_, fin (Rat.divInt (p.1.num - ls * p.1.den) p.1.den, d.2) ⟨lowb _ zp.1 _ ls0, zd.2.mono (by decide)⟩ (.inl (lown p.1 ls ls0.1)) 3 (.inl rfl)⟩
        generalize (c :: r).map dC = xs at hg hlen i1 i2 hxl jK sK
        have sx := fun (y : D) (ρ : MP.Env) => setix_r (ρ := ρ) (y := y) (L := L ++ [.lst xs]) getL_at0 hL jK
        unfold F__law_spoiled
        simp only [getV_C, ix_C0, ix_C1, C_eta, tupOp_C, callOn_C, consOp_C, ty_C, len_C, onTup_C, eq_C, getV_F, ix_F0, ix_F1, ty_F, len_F, runF_mk, ofO_nx, ofO_rt, ofO_ex, x_non, x_bl, x_int, x_str, x_v, x_k, x_f, x_nil, x_absent, x_cons, x_tup, x_lst, x_bin, x_neg, x_not, x_and, x_or, x_cmp, x_isn, x_notn, x_ix, x_sl, x_call, x_callv, x_bi, x_isi, x_ise, x_me, x_lc, x_rng, x_rev, s_pass, s_seq, s_set, s_setix, s_aug, s_ex, s_ite, s_wh, s_for, s_ret, s_retn, s_brk, s_cnt, s_raise, s_tryN, s_tryA, consOp_t, tupOp_t, lstOp_t, negOp_i, onTup_t, callOn_t, getV_int, getV_bl, getV_str, getV_tup, getV_ref, getV_fn, getV_non, onFn_f, onExc_f, onInt_i, augNx_s, augop_a, augop_s, okOnly_ok, b_add, b_sub, b_mul, b_fdiv, b_mod, b_addt, c_lt, c_le, c_gt, c_ge, c_eq, c_ne, onL_s, onLo_s, onV_s, atV_s, lr_len, lr_list, lr_tuple, ix_t', ix_r', me_app, me_pop, me_rev, sl_r', sl_t', recv_app, recv_pop, recv_popAt, recv_clear, recv_rev, recv_ins, getL_at0, getL_at1, getL_at2, getL_at3, setL_at0, setL_at1, setL_at2, getL_0, getL_1, getL_2, getL_3, getL_4, setL_1, setL_2, setL_3, atI_0, atI_1, atI_2, atI_m1, List.append_assoc, List.length_append, Nat.add_one_ne_zero, bi_abs, bi_lent, bi_max, bi_min, bi_int, bi_intb, bi_listt, bi_tupt, ty_non, ty_bl, ty_int, ty_str, ty_tup, tb1, tb2, tb3, tb4, tb5, tn1, tn2, tn3, tn4, tn5, tn6, isNon_non, isNon_tup, isNon_int, isNon_ref, items_t, items_r, Option.map_some, fw_nil_n, fw_cons_n, fw_nil_s, fw_cons_s, takeS_0, takeS_s, dropS_0, dropS_s, forOn_s, lcOn_s, R.bind_ok, R.bind_exc, R.bind_bad, R.on_ok, R.on_exc, R.on_bad, onBl_bl, ifB_bl, O.then_nx, O.turn_nx, O.turn_ct, O.turn_bk, O.turn_rt, O.turn_ex, O.then_rt, O.then_ex, O.then_bk, O.then_ct, O.then_bad, onPart_int, onPart_abs, List.getElem?_cons_zero, List.getElem?_cons_succ, List.set_cons_zero, List.set_cons_succ, List.length_cons, List.length_nil, List.map_cons, List.map_nil, List.cons_append, List.nil_append, List.replicate_succ, List.replicate_zero, Nat.reduceAdd, Nat.reduceSub, Nat.reduceEqDiff, Nat.reduceLT, Nat.reduceLeDiff, if_true, if_false, ite_true, ite_false, eq_self, eqop_int, neop_int, eqop_bl, neop_bl, Bool.not_true, Bool.not_false, Bool.true_eq_false, Bool.false_eq_true, Bool.or_true, Bool.or_false, Bool.true_or, Bool.false_or, Bool.and_true, Bool.and_false, reduceIte, reduceCtorEq, decide_true, decide_false, decide_eq_true_eq, Bool.not_eq_true', decide_eq_false_iff_not, Nat.zero_le, lim1, lim2, lim3, lim4, lim5, Int.reduceLE, Int.reduceLT, Int.reduceEq, Int.reduceNe, ne_eq, not_false_eq_true, not_true_eq_false, Int.reduceNeg, and_true, true_and, and_false, false_and, or_true, true_or, or_false, false_or, alloc_e, seen_s, seen_none,  fmp, p10_4, p10_6, p10_9, p10_12, p10_18, p10_20, p10_28, p10_30, p10_40, p10_44, p10_50, p10_57, p10_58, p10_59, p10_60, getV_R, ix_R0, ix_R1, ty_R, len_R, isNon_R, tupOp_R, callOn_R, items_R, consOp_R, R0n, R0d, R1n, R1d, onTup_R, eq_R, ne_R, R_eta, R_0, R_1, R_neg, R_den', R_den1, R_den0, hL, hg, hlen, hxl, mx, hm0, hm1, ← hK, hne, i1, i2, x60, fdiv60, ← hls, low1, ml1, sx, sK]
      · subst h
        refine ⟨pre ++ p :: (d.1, Rat.divInt (p.2.num - (1 + ls) * p.2.den) p.2.den) :: t, ?_, fin (d.1, Rat.divInt (p.2.num - (1 + ls) * p.2.den) p.2.den) ⟨zd.1.mono (by decide), lowb _ zp.2 _ ls1⟩ (.inr (lowl p.2 (1 + ls) (by omega))) 4 (.inr rfl)⟩
        generalize (c :: r).map dC = xs at hg hlen i1 i2 hxl jK sK
        have sx := fun (y : D) (ρ : MP.Env) => setix_r (ρ := ρ) (y := y) (L := L ++ [.lst xs]) getL_at0 hL jK
        unfold F__law_spoiled
        simp only [getV_C, ix_C0, ix_C1, C_eta, tupOp_C, callOn_C, consOp_C, ty_C, len_C, onTup_C, eq_C, getV_F, ix_F0, ix_F1, ty_F, len_F, runF_mk, ofO_nx, ofO_rt, ofO_ex, x_non, x_bl, x_int, x_str, x_v, x_k, x_f, x_nil, x_absent, x_cons, x_tup, x_lst, x_bin, x_neg, x_not, x_and, x_or, x_cmp, x_isn, x_notn, x_ix, x_sl, x_call, x_callv, x_bi, x_isi, x_ise, x_me, x_lc, x_rng, x_rev, s_pass, s_seq, s_set, s_setix, s_aug, s_ex, s_ite, s_wh, s_for, s_ret, s_retn, s_brk, s_cnt, s_raise, s_tryN, s_tryA, consOp_t, tupOp_t, lstOp_t, negOp_i, onTup_t, callOn_t, getV_int, getV_bl, getV_str, getV_tup, getV_ref, getV_fn, getV_non, onFn_f, onExc_f, onInt_i, augNx_s, augop_a, augop_s, okOnly_ok, b_add, b_sub, b_mul, b_fdiv, b_mod, b_addt, c_lt, c_le, c_gt, c_ge, c_eq, c_ne, onL_s, onLo_s, onV_s, atV_s, lr_len, lr_list, lr_tuple, ix_t', ix_r', me_app, me_pop, me_rev, sl_r', sl_t', recv_app, recv_pop, recv_popAt, recv_clear, recv_rev, recv_ins, getL_at0, getL_at1, getL_at2, getL_at3, setL_at0, setL_at1, setL_at2, getL_0, getL_1, getL_2, getL_3, getL_4, setL_1, setL_2, setL_3, atI_0, atI_1, atI_2, atI_m1, List.append_assoc, List.length_append, Nat.add_one_ne_zero, bi_abs, bi_lent, bi_max, bi_min, bi_int, bi_intb, bi_listt, bi_tupt, ty_non, ty_bl, ty_int, ty_str, ty_tup, tb1, tb2, tb3, tb4, tb5, tn1, tn2, tn3, tn4, tn5, tn6, isNon_non, isNon_tup, isNon_int, isNon_ref, items_t, items_r, Option.map_some, fw_nil_n, fw_cons_n, fw_nil_s, fw_cons_s, takeS_0, takeS_s, dropS_0, dropS_s, forOn_s, lcOn_s, R.bind_ok, R.bind_exc, R.bind_bad, R.on_ok, R.on_exc, R.on_bad, onBl_bl, ifB_bl, O.then_nx, O.turn_nx, O.turn_ct, O.turn_bk, O.turn_rt, O.turn_ex, O.then_rt, O.then_ex, O.then_bk, O.then_ct, O.then_bad, onPart_int, onPart_abs, List.getElem?_cons_zero, List.getElem?_cons_succ, List.set_cons_zero, List.set_cons_succ, List.length_cons, List.length_nil, List.map_cons, List.map_nil, List.cons_append, List.nil_append, List.replicate_succ, List.replicate_zero, Nat.reduceAdd, Nat.reduceSub, Nat.reduceEqDiff, Nat.reduceLT, Nat.reduceLeDiff, if_true, if_false, ite_true, ite_false, eq_self, eqop_int, neop_int, eqop_bl, neop_bl, Bool.not_true, Bool.not_false, Bool.true_eq_false, Bool.false_eq_true, Bool.or_true, Bool.or_false, Bool.true_or, Bool.false_or, Bool.and_true, Bool.and_false, reduceIte, reduceCtorEq, decide_true, decide_false, decide_eq_true_eq, Bool.not_eq_true', decide_eq_false_iff_not, Nat.zero_le, lim1, lim2, lim3, lim4, lim5, Int.reduceLE, Int.reduceLT, Int.reduceEq, Int.reduceNe, ne_eq, not_false_eq_true, not_true_eq_false, Int.reduceNeg, and_true, true_and, and_false, false_and, or_true, true_or, or_false, false_or, alloc_e, seen_s, seen_none,  fmp, p10_4, p10_6, p10_9, p10_12, p10_18, p10_20, p10_28, p10_30, p10_40, p10_44, p10_50, p10_57, p10_58, p10_59, p10_60, getV_R, ix_R0, ix_R1, ty_R, len_R, isNon_R, tupOp_R, callOn_R, items_R, consOp_R, R0n, R0d, R1n, R1d, onTup_R, eq_R, ne_R, R_eta, R_0, R_1, R_neg, R_den', R_den1, R_den0, hL, hg, hlen, hxl, mx, hm0, hm1, ← hK, hne, i1, i2, x60, fdiv60, ← hls, low2, ml2, sx, sK]
  · subst h
    have hq : D.tup [.int (-1 - x % 100000000000000000000), .int 1] = dR (Rat.divInt (-1 - x % 100000000000000000000) 1) := divInt_1 _
    have hb : Rb (Rat.divInt (-1 - x % 100000000000000000000) 1) 110 := Rb.div (by omega) (by decide) (by decide)
    have hneg : Rat.divInt (-1 - x % 100000000000000000000) 1 < 0 := by
      rw [← Rat.zero_divInt 1]
      exact (dlt (by decide)).mpr (by omega)
    refine ⟨(c.1, Rat.divInt (-1 - x % 100000000000000000000) 1) :: r, ?_, fun y hy => ?_, by simp; omega, fun h => by omega, fun _ => .inr ⟨_, _, rfl, .inr (.inl hneg)⟩⟩
    · generalize (c :: r).map dC = xs at hg hlen i0 j0 e0
      have sx := fun (y : D) (ρ : MP.Env) => setix_r (ρ := ρ) (y := y) (L := L ++ [.lst xs]) getL_at0 hL j0
      unfold F__law_spoiled
      simp only [getV_C, ix_C0, ix_C1, C_eta, tupOp_C, callOn_C, consOp_C, ty_C, len_C, onTup_C, eq_C, getV_F, ix_F0, ix_F1, ty_F, len_F, runF_mk, ofO_nx, ofO_rt, ofO_ex, x_non, x_bl, x_int, x_str, x_v, x_k, x_f, x_nil, x_absent, x_cons, x_tup, x_lst, x_bin, x_neg, x_not, x_and, x_or, x_cmp, x_isn, x_notn, x_ix, x_sl, x_call, x_callv, x_bi, x_isi, x_ise, x_me, x_lc, x_rng, x_rev, s_pass, s_seq, s_set, s_setix, s_aug, s_ex, s_ite, s_wh, s_for, s_ret, s_retn, s_brk, s_cnt, s_raise, s_tryN, s_tryA, consOp_t, tupOp_t, lstOp_t, negOp_i, onTup_t, callOn_t, getV_int, getV_bl, getV_str, getV_tup, getV_ref, getV_fn, getV_non, onFn_f, onExc_f, onInt_i, augNx_s, augop_a, augop_s, okOnly_ok, b_add, b_sub, b_mul, b_fdiv, b_mod, b_addt, c_lt, c_le, c_gt, c_ge, c_eq, c_ne, onL_s, onLo_s, onV_s, atV_s, lr_len, lr_list, lr_tuple, ix_t', ix_r', me_app, me_pop, me_rev, sl_r', sl_t', recv_app, recv_pop, recv_popAt, recv_clear, recv_rev, recv_ins, getL_at0, getL_at1, getL_at2, getL_at3, setL_at0, setL_at1, setL_at2, getL_0, getL_1, getL_2, getL_3, getL_4, setL_1, setL_2, setL_3, atI_0, atI_1, atI_2, atI_m1, List.append_assoc, List.length_append, Nat.add_one_ne_zero, bi_abs, bi_lent, bi_max, bi_min, bi_int, bi_intb, bi_listt, bi_tupt, ty_non, ty_bl, ty_int, ty_str, ty_tup, tb1, tb2, tb3, tb4, tb5, tn1, tn2, tn3, tn4, tn5, tn6, isNon_non, isNon_tup, isNon_int, isNon_ref, items_t, items_r, Option.map_some, fw_nil_n, fw_cons_n, fw_nil_s, fw_cons_s, takeS_0, takeS_s, dropS_0, dropS_s, forOn_s, lcOn_s, R.bind_ok, R.bind_exc, R.bind_bad, R.on_ok, R.on_exc, R.on_bad, onBl_bl, ifB_bl, O.then_nx, O.turn_nx, O.turn_ct, O.turn_bk, O.turn_rt, O.turn_ex, O.then_rt, O.then_ex, O.then_bk, O.then_ct, O.then_bad, onPart_int, onPart_abs, List.getElem?_cons_zero, List.getElem?_cons_succ, List.set_cons_zero, List.set_cons_succ, List.length_cons, List.length_nil, List.map_cons, List.map_nil, List.cons_append, List.nil_append, List.replicate_succ, List.replicate_zero, Nat.reduceAdd, Nat.reduceSub, Nat.reduceEqDiff, Nat.reduceLT, Nat.reduceLeDiff, if_true, if_false, ite_true, ite_false, eq_self, eqop_int, neop_int, eqop_bl, neop_bl, Bool.not_true, Bool.not_false, Bool.true_eq_false, Bool.false_eq_true, Bool.or_true, Bool.or_false, Bool.true_or, Bool.false_or, Bool.and_true, Bool.and_false, reduceIte, reduceCtorEq, decide_true, decide_false, decide_eq_true_eq, Bool.not_eq_true', decide_eq_false_iff_not, Nat.zero_le, lim1, lim2, lim3, lim4, lim5, Int.reduceLE, Int.reduceLT, Int.reduceEq, Int.reduceNe, ne_eq, not_false_eq_true, not_true_eq_false, Int.reduceNeg, and_true, true_and, and_false, false_and, or_true, true_or, or_false, false_or, alloc_e, seen_s, seen_none,  fmp, p10_4, p10_6, p10_9, p10_12, p10_18, p10_20, p10_28, p10_30, p10_40, p10_44, p10_50, p10_57, p10_58, p10_59, p10_60, getV_R, ix_R0, ix_R1, ty_R, len_R, isNon_R, tupOp_R, callOn_R, items_R, consOp_R, R0n, R0d, R1n, R1d, onTup_R, eq_R, ne_R, R_eta, R_0, R_1, R_neg, R_den', R_den1, R_den0, hg, hlen, i0, sx, hq, e0]
    · rcases List.mem_cons.mp hy with h | h
      · subst h
        exact ⟨zc.1.mono (by decide), hb.mono (by decide)⟩
      · exact hz6 y (List.mem_cons_of_mem _ h)
  · refine ⟨c :: r, ?_, hz6, by simp; omega, fun _ => rfl, fun h => by omega⟩
    generalize (c :: r).map dC = xs at *
    unfold F__law_spoiled
    rcases h with h | h <;> subst h <;> simp only [getV_C, ix_C0, ix_C1, C_eta, tupOp_C, callOn_C, consOp_C, ty_C, len_C, onTup_C, eq_C, getV_F, ix_F0, ix_F1, ty_F, len_F, runF_mk, ofO_nx, ofO_rt, ofO_ex, x_non, x_bl, x_int, x_str, x_v, x_k, x_f, x_nil, x_absent, x_cons, x_tup, x_lst, x_bin, x_neg, x_not, x_and, x_or, x_cmp, x_isn, x_notn, x_ix, x_sl, x_call, x_callv, x_bi, x_isi, x_ise, x_me, x_lc, x_rng, x_rev, s_pass, s_seq, s_set, s_setix, s_aug, s_ex, s_ite, s_wh, s_for, s_ret, s_retn, s_brk, s_cnt, s_raise, s_tryN, s_tryA, consOp_t, tupOp_t, lstOp_t, negOp_i, onTup_t, callOn_t, getV_int, getV_bl, getV_str, getV_tup, getV_ref, getV_fn, getV_non, onFn_f, onExc_f, onInt_i, augNx_s, augop_a, augop_s, okOnly_ok, b_add, b_sub, b_mul, b_fdiv, b_mod, b_addt, c_lt, c_le, c_gt, c_ge, c_eq, c_ne, onL_s, onLo_s, onV_s, atV_s, lr_len, lr_list, lr_tuple, ix_t', ix_r', me_app, me_pop, me_rev, sl_r', sl_t', recv_app, recv_pop, recv_popAt, recv_clear, recv_rev, recv_ins, getL_at0, getL_at1, getL_at2, getL_at3, setL_at0, setL_at1, setL_at2, getL_0, getL_1, getL_2, getL_3, getL_4, setL_1, setL_2, setL_3, atI_0, atI_1, atI_2, atI_m1, List.append_assoc, List.length_append, Nat.add_one_ne_zero, bi_abs, bi_lent, bi_max, bi_min, bi_int, bi_intb, bi_listt, bi_tupt, ty_non, ty_bl, ty_int, ty_str, ty_tup, tb1, tb2, tb3, tb4, tb5, tn1, tn2, tn3, tn4, tn5, tn6, isNon_non, isNon_tup, isNon_int, isNon_ref, items_t, items_r, Option.map_some, fw_nil_n, fw_cons_n, fw_nil_s, fw_cons_s, takeS_0, takeS_s, dropS_0, dropS_s, forOn_s, lcOn_s, R.bind_ok, R.bind_exc, R.bind_bad, R.on_ok, R.on_exc, R.on_bad, onBl_bl, ifB_bl, O.then_nx, O.turn_nx, O.turn_ct, O.turn_bk, O.turn_rt, O.turn_ex, O.then_rt, O.then_ex, O.then_bk, O.then_ct, O.then_bad, onPart_int, onPart_abs, List.getElem?_cons_zero, List.getElem?_cons_succ, List.set_cons_zero, List.set_cons_succ, List.length_cons, List.length_nil, List.map_cons, List.map_nil, List.cons_append, List.nil_append, List.replicate_succ, List.replicate_zero, Nat.reduceAdd, Nat.reduceSub, Nat.reduceEqDiff, Nat.reduceLT, Nat.reduceLeDiff, if_true, if_false, ite_true, ite_false, eq_self, eqop_int, neop_int, eqop_bl, neop_bl, Bool.not_true, Bool.not_false, Bool.true_eq_false, Bool.false_eq_true, Bool.or_true, Bool.or_false, Bool.true_or, Bool.false_or, Bool.and_true, Bool.and_false, reduceIte, reduceCtorEq, decide_true, decide_false, decide_eq_true_eq, Bool.not_eq_true', decide_eq_false_iff_not, Nat.zero_le, lim1, lim2, lim3, lim4, lim5, Int.reduceLE, Int.reduceLT, Int.reduceEq, Int.reduceNe, ne_eq, not_false_eq_true, not_true_eq_false, Int.reduceNeg, and_true, true_and, and_false, false_and, or_true, true_or, or_false, false_or, alloc_e, seen_s, seen_none,  fmp, p10_4, p10_6, p10_9, p10_12, p10_18, p10_20, p10_28, p10_30, p10_40, p10_44, p10_50, p10_57, p10_58, p10_59, p10_60, getV_R, ix_R0, ix_R1, ty_R, len_R, isNon_R, tupOp_R, callOn_R, items_R, consOp_R, R0n, R0d, R1n, R1d, onTup_R, eq_R, ne_R, R_eta, R_0, R_1, R_neg, R_den', R_den1, R_den0, hg, hlen]
end Q

namespace Q
open PySem MP
theorem try_ex {c c' : Str} {ρ : MP.Env} {L : Hd} {hd : MP.Env → Hd → O} : tryN (.ex c' ρ L) c hd = if isSub c' c = true then (match hd ρ L with | .ex _ _ _ => .bad | o => o) else .ex c' ρ L := rfl
theorem try_nx {c : Str} {ρ : MP.Env} {L : Hd} {hd : MP.Env → Hd → O} : tryN (.nx ρ L) c hd = .nx ρ L := rfl
theorem trA_ex {c c' : Str} {i : Nat} {ρ : MP.Env} {L : Hd} {hd : MP.Env → Hd → O} : tryA (.ex c' ρ L) c i hd = if isSub c' c = true then (match hd (ρ.set i (some (.exc c'))) L with | .rt d L2 => .rt d L2 | _ => .bad) else .ex c' ρ L := rfl
theorem sub_cc : isSub "NoCurve" "NoCurve" = true := by decide
theorem r_refused_good (n : Nat) (L : Hd) (X : D) (c : Cn) (r : List Cn) (s : Rat) (hL : L.length ≠ 0) (h : Sq L X ((c :: r).map dC)) (hz : ∀ x ∈ c :: r, Cz x) (hn : r.length ≤ 900) (hu : Ups c r) (hd : Nds c r) (h0 : c.1 = 0) (h1 : ¬ c.2 < 0) (hs : Sz s) (h2 : ¬ s < 0) : ∃ J, runT T (n + 9) "_law_refused" [X, dR s] L = .ok (.bl false) (L ++ J) := by
  rw [runT_succ T__law_refused]
  have e := r_curve n L X c r s hL h hz hn hu hd h0 h1 hs h2
  unfold F__law_refused
  simp only [getV_C, ix_C0, ix_C1, C_eta, tupOp_C, callOn_C, consOp_C, ty_C, len_C, onTup_C, eq_C, getV_F, ix_F0, ix_F1, ty_F, len_F, runF_mk, ofO_nx, ofO_rt, ofO_ex, x_non, x_bl, x_int, x_str, x_v, x_k, x_f, x_nil, x_absent, x_cons, x_tup, x_lst, x_bin, x_neg, x_not, x_and, x_or, x_cmp, x_isn, x_notn, x_ix, x_sl, x_call, x_callv, x_bi, x_isi, x_ise, x_me, x_lc, x_rng, x_rev, s_pass, s_seq, s_set, s_setix, s_aug, s_ex, s_ite, s_wh, s_for, s_ret, s_retn, s_brk, s_cnt, s_raise, s_tryN, s_tryA, consOp_t, tupOp_t, lstOp_t, negOp_i, onTup_t, callOn_t, getV_int, getV_bl, getV_str, getV_tup, getV_ref, getV_fn, getV_non, onFn_f, onExc_f, onInt_i, augNx_s, augop_a, augop_s, okOnly_ok, b_add, b_sub, b_mul, b_fdiv, b_mod, b_addt, c_lt, c_le, c_gt, c_ge, c_eq, c_ne, onL_s, onLo_s, onV_s, atV_s, lr_len, lr_list, lr_tuple, ix_t', ix_r', me_app, me_pop, me_rev, sl_r', sl_t', recv_app, recv_pop, recv_popAt, recv_clear, recv_rev, recv_ins, getL_at0, getL_at1, getL_at2, getL_at3, setL_at0, setL_at1, setL_at2, getL_0, getL_1, getL_2, getL_3, getL_4, setL_1, setL_2, setL_3, atI_0, atI_1, atI_2, atI_m1, List.append_assoc, List.length_append, Nat.add_one_ne_zero, bi_abs, bi_lent, bi_max, bi_min, bi_int, bi_intb, bi_listt, bi_tupt, ty_non, ty_bl, ty_int, ty_str, ty_tup, tb1, tb2, tb3, tb4, tb5, tn1, tn2, tn3, tn4, tn5, tn6, isNon_non, isNon_tup, isNon_int, isNon_ref, items_t, items_r, Option.map_some, fw_nil_n, fw_cons_n, fw_nil_s, fw_cons_s, takeS_0, takeS_s, dropS_0, dropS_s, forOn_s, lcOn_s, R.bind_ok, R.bind_exc, R.bind_bad, R.on_ok, R.on_exc, R.on_bad, onBl_bl, ifB_bl, O.then_nx, O.turn_nx, O.turn_ct, O.turn_bk, O.turn_rt, O.turn_ex, O.then_rt, O.then_ex, O.then_bk, O.then_ct, O.then_bad, onPart_int, onPart_abs, List.getElem?_cons_zero, List.getElem?_cons_succ, List.set_cons_zero, List.set_cons_succ, List.length_cons, List.length_nil, List.map_cons, List.map_nil, List.cons_append, List.nil_append, List.replicate_succ, List.replicate_zero, Nat.reduceAdd, Nat.reduceSub, Nat.reduceEqDiff, Nat.reduceLT, Nat.reduceLeDiff, if_true, if_false, ite_true, ite_false, eq_self, eqop_int, neop_int, eqop_bl, neop_bl, Bool.not_true, Bool.not_false, Bool.true_eq_false, Bool.false_eq_true, Bool.or_true, Bool.or_false, Bool.true_or, Bool.false_or, Bool.and_true, Bool.and_false, reduceIte, reduceCtorEq, decide_true, decide_false, decide_eq_true_eq, Bool.not_eq_true', decide_eq_false_iff_not, Nat.zero_le, lim1, lim2, lim3, lim4, lim5, Int.reduceLE, Int.reduceLT, Int.reduceEq, Int.reduceNe, ne_eq, not_false_eq_true, not_true_eq_false, Int.reduceNeg, and_true, true_and, and_false, false_and, or_true, true_or, or_false, false_or, alloc_e, seen_s, seen_none,  fmp, p10_4, p10_6, p10_9, p10_12, p10_18, p10_20, p10_28, p10_30, p10_40, p10_44, p10_50, p10_57, p10_58, p10_59, p10_60, getV_R, ix_R0, ix_R1, ty_R, len_R, isNon_R, tupOp_R, callOn_R, items_R, consOp_R, R0n, R0d, R1n, R1d, onTup_R, eq_R, ne_R, R_eta, R_0, R_1, R_neg, R_den', R_den1, R_den0, h.gv, e, try_nx]
  exact ⟨_, rfl⟩
theorem r_refused_bad (n : Nat) (L : Hd) (X : D) (cs : List Cn) (s : Rat) (h : Sq L X (cs.map dC)) (hz : ∀ x ∈ cs, Cz x) (hn : cs.length ≤ 900) (hs : Sz s) (bad : cs = [] ∨ s < 0 ∨ ∃ c r, cs = c :: r ∧ (c.1 ≠ 0 ∨ c.2 < 0 ∨ ¬ (Ups c r ∧ Nds c r))) : runT T (n + 3) "_law_refused" [X, dR s] L = .ok (.bl true) L := by
  rw [runT_succ T__law_refused]
  have e := r_curve_bad n L X cs s h hz hn hs bad
  unfold F__law_refused
  simp only [getV_C, ix_C0, ix_C1, C_eta, tupOp_C, callOn_C, consOp_C, ty_C, len_C, onTup_C, eq_C, getV_F, ix_F0, ix_F1, ty_F, len_F, runF_mk, ofO_nx, ofO_rt, ofO_ex, x_non, x_bl, x_int, x_str, x_v, x_k, x_f, x_nil, x_absent, x_cons, x_tup, x_lst, x_bin, x_neg, x_not, x_and, x_or, x_cmp, x_isn, x_notn, x_ix, x_sl, x_call, x_callv, x_bi, x_isi, x_ise, x_me, x_lc, x_rng, x_rev, s_pass, s_seq, s_set, s_setix, s_aug, s_ex, s_ite, s_wh, s_for, s_ret, s_retn, s_brk, s_cnt, s_raise, s_tryN, s_tryA, consOp_t, tupOp_t, lstOp_t, negOp_i, onTup_t, callOn_t, getV_int, getV_bl, getV_str, getV_tup, getV_ref, getV_fn, getV_non, onFn_f, onExc_f, onInt_i, augNx_s, augop_a, augop_s, okOnly_ok, b_add, b_sub, b_mul, b_fdiv, b_mod, b_addt, c_lt, c_le, c_gt, c_ge, c_eq, c_ne, onL_s, onLo_s, onV_s, atV_s, lr_len, lr_list, lr_tuple, ix_t', ix_r', me_app, me_pop, me_rev, sl_r', sl_t', recv_app, recv_pop, recv_popAt, recv_clear, recv_rev, recv_ins, getL_at0, getL_at1, getL_at2, getL_at3, setL_at0, setL_at1, setL_at2, getL_0, getL_1, getL_2, getL_3, getL_4, setL_1, setL_2, setL_3, atI_0, atI_1, atI_2, atI_m1, List.append_assoc, List.length_append, Nat.add_one_ne_zero, bi_abs, bi_lent, bi_max, bi_min, bi_int, bi_intb, bi_listt, bi_tupt, ty_non, ty_bl, ty_int, ty_str, ty_tup, tb1, tb2, tb3, tb4, tb5, tn1, tn2, tn3, tn4, tn5, tn6, isNon_non, isNon_tup, isNon_int, isNon_ref, items_t, items_r, Option.map_some, fw_nil_n, fw_cons_n, fw_nil_s, fw_cons_s, takeS_0, takeS_s, dropS_0, dropS_s, forOn_s, lcOn_s, R.bind_ok, R.bind_exc, R.bind_bad, R.on_ok, R.on_exc, R.on_bad, onBl_bl, ifB_bl, O.then_nx, O.turn_nx, O.turn_ct, O.turn_bk, O.turn_rt, O.turn_ex, O.then_rt, O.then_ex, O.then_bk, O.then_ct, O.then_bad, onPart_int, onPart_abs, List.getElem?_cons_zero, List.getElem?_cons_succ, List.set_cons_zero, List.set_cons_succ, List.length_cons, List.length_nil, List.map_cons, List.map_nil, List.cons_append, List.nil_append, List.replicate_succ, List.replicate_zero, Nat.reduceAdd, Nat.reduceSub, Nat.reduceEqDiff, Nat.reduceLT, Nat.reduceLeDiff, if_true, if_false, ite_true, ite_false, eq_self, eqop_int, neop_int, eqop_bl, neop_bl, Bool.not_true, Bool.not_false, Bool.true_eq_false, Bool.false_eq_true, Bool.or_true, Bool.or_false, Bool.true_or, Bool.false_or, Bool.and_true, Bool.and_false, reduceIte, reduceCtorEq, decide_true, decide_false, decide_eq_true_eq, Bool.not_eq_true', decide_eq_false_iff_not, Nat.zero_le, lim1, lim2, lim3, lim4, lim5, Int.reduceLE, Int.reduceLT, Int.reduceEq, Int.reduceNe, ne_eq, not_false_eq_true, not_true_eq_false, Int.reduceNeg, and_true, true_and, and_false, false_and, or_true, true_or, or_false, false_or, alloc_e, seen_s, seen_none,  fmp, p10_4, p10_6, p10_9, p10_12, p10_18, p10_20, p10_28, p10_30, p10_40, p10_44, p10_50, p10_57, p10_58, p10_59, p10_60, getV_R, ix_R0, ix_R1, ty_R, len_R, isNon_R, tupOp_R, callOn_R, items_R, consOp_R, R0n, R0d, R1n, R1d, onTup_R, eq_R, ne_R, R_eta, R_0, R_1, R_neg, R_den', R_den1, R_den0, h.gv, e, try_ex, sub_cc]
theorem r_refany_bad (n : Nat) (L : Hd) (X : D) (cs : List Cn) (s : Rat) (h : Sq L X (cs.map dC)) (hz : ∀ x ∈ cs, Cz x) (hn : cs.length ≤ 900) (hs : Sz s) (bad : cs = [] ∨ s < 0 ∨ ∃ c r, cs = c :: r ∧ (c.1 ≠ 0 ∨ c.2 < 0 ∨ ¬ (Ups c r ∧ Nds c r))) : runT T (n + 3) "_law_refused_by_any" [X, dR s] L = .ok (.bl true) L := by
  rw [runT_succ T__law_refused_by_any]
  have e := r_curve_bad n L X cs s h hz hn hs bad
  have k1 : isSub "NoCurve" "NoRatio" = false := by decide
  have k2 : isSub "NoCurve" "NoTime" = false := by decide
  have k3 : isSub "NoCurve" "NoHouse" = false := by decide
  have k4 : isSub "NoCurve" "NoWay" = false := by decide
  have k5 : isSub "NoCurve" "NoText" = false := by decide
  have k6 : isSub "NoCurve" "NoName" = false := by decide
  have k7 : isSub "NoCurve" "NoEnd" = false := by decide
  have k8 : isSub "NoCurve" "NoRow" = false := by decide
  have k9 : isSub "NoCurve" "ValueError" = true := by decide
  have k11 : isSub "NoCurve" "CurveError" = true := by decide
  unfold F__law_refused_by_any
  simp only [getV_C, ix_C0, ix_C1, C_eta, tupOp_C, callOn_C, consOp_C, ty_C, len_C, onTup_C, eq_C, getV_F, ix_F0, ix_F1, ty_F, len_F, runF_mk, ofO_nx, ofO_rt, ofO_ex, x_non, x_bl, x_int, x_str, x_v, x_k, x_f, x_nil, x_absent, x_cons, x_tup, x_lst, x_bin, x_neg, x_not, x_and, x_or, x_cmp, x_isn, x_notn, x_ix, x_sl, x_call, x_callv, x_bi, x_isi, x_ise, x_me, x_lc, x_rng, x_rev, s_pass, s_seq, s_set, s_setix, s_aug, s_ex, s_ite, s_wh, s_for, s_ret, s_retn, s_brk, s_cnt, s_raise, s_tryN, s_tryA, consOp_t, tupOp_t, lstOp_t, negOp_i, onTup_t, callOn_t, getV_int, getV_bl, getV_str, getV_tup, getV_ref, getV_fn, getV_non, onFn_f, onExc_f, onInt_i, augNx_s, augop_a, augop_s, okOnly_ok, b_add, b_sub, b_mul, b_fdiv, b_mod, b_addt, c_lt, c_le, c_gt, c_ge, c_eq, c_ne, onL_s, onLo_s, onV_s, atV_s, lr_len, lr_list, lr_tuple, ix_t', ix_r', me_app, me_pop, me_rev, sl_r', sl_t', recv_app, recv_pop, recv_popAt, recv_clear, recv_rev, recv_ins, getL_at0, getL_at1, getL_at2, getL_at3, setL_at0, setL_at1, setL_at2, getL_0, getL_1, getL_2, getL_3, getL_4, setL_1, setL_2, setL_3, atI_0, atI_1, atI_2, atI_m1, List.append_assoc, List.length_append, Nat.add_one_ne_zero, bi_abs, bi_lent, bi_max, bi_min, bi_int, bi_intb, bi_listt, bi_tupt, ty_non, ty_bl, ty_int, ty_str, ty_tup, tb1, tb2, tb3, tb4, tb5, tn1, tn2, tn3, tn4, tn5, tn6, isNon_non, isNon_tup, isNon_int, isNon_ref, items_t, items_r, Option.map_some, fw_nil_n, fw_cons_n, fw_nil_s, fw_cons_s, takeS_0, takeS_s, dropS_0, dropS_s, forOn_s, lcOn_s, R.bind_ok, R.bind_exc, R.bind_bad, R.on_ok, R.on_exc, R.on_bad, onBl_bl, ifB_bl, O.then_nx, O.turn_nx, O.turn_ct, O.turn_bk, O.turn_rt, O.turn_ex, O.then_rt, O.then_ex, O.then_bk, O.then_ct, O.then_bad, onPart_int, onPart_abs, List.getElem?_cons_zero, List.getElem?_cons_succ, List.set_cons_zero, List.set_cons_succ, List.length_cons, List.length_nil, List.map_cons, List.map_nil, List.cons_append, List.nil_append, List.replicate_succ, List.replicate_zero, Nat.reduceAdd, Nat.reduceSub, Nat.reduceEqDiff, Nat.reduceLT, Nat.reduceLeDiff, if_true, if_false, ite_true, ite_false, eq_self, eqop_int, neop_int, eqop_bl, neop_bl, Bool.not_true, Bool.not_false, Bool.true_eq_false, Bool.false_eq_true, Bool.or_true, Bool.or_false, Bool.true_or, Bool.false_or, Bool.and_true, Bool.and_false, reduceIte, reduceCtorEq, decide_true, decide_false, decide_eq_true_eq, Bool.not_eq_true', decide_eq_false_iff_not, Nat.zero_le, lim1, lim2, lim3, lim4, lim5, Int.reduceLE, Int.reduceLT, Int.reduceEq, Int.reduceNe, ne_eq, not_false_eq_true, not_true_eq_false, Int.reduceNeg, and_true, true_and, and_false, false_and, or_true, true_or, or_false, false_or, alloc_e, seen_s, seen_none,  fmp, p10_4, p10_6, p10_9, p10_12, p10_18, p10_20, p10_28, p10_30, p10_40, p10_44, p10_50, p10_57, p10_58, p10_59, p10_60, getV_R, ix_R0, ix_R1, ty_R, len_R, isNon_R, tupOp_R, callOn_R, items_R, consOp_R, R0n, R0d, R1n, R1d, onTup_R, eq_R, ne_R, R_eta, R_0, R_1, R_neg, R_den', R_den1, R_den0, h.gv, e, trA_ex, k1, k2, k3, k4, k5, k6, k7, k8, k9, k11]
theorem r_heapref (n : Nat) (v s : Rat) (L : Hd) (hv : Sz v) (hs : Sz s) : runT T (n + 3) "_law_heap_refused" [dR v, dR s] L = .ok (.bl (decide (v < 0 ∨ s < 0))) L := by
  rw [runT_succ T__law_heap_refused]
  have hh := fun h1 h2 => r_heap n v s L hv hs h1 h2
  by_cases h1 : v < 0
  · have e : runT T (n + 2) "heap" [dR v, dR s] L = .exc "NoCurve" L := by
      rw [runT_succ T_heap]
      unfold F_heap
      simp only [getV_C, ix_C0, ix_C1, C_eta, tupOp_C, callOn_C, consOp_C, ty_C, len_C, onTup_C, eq_C, getV_F, ix_F0, ix_F1, ty_F, len_F, runF_mk, ofO_nx, ofO_rt, ofO_ex, x_non, x_bl, x_int, x_str, x_v, x_k, x_f, x_nil, x_absent, x_cons, x_tup, x_lst, x_bin, x_neg, x_not, x_and, x_or, x_cmp, x_isn, x_notn, x_ix, x_sl, x_call, x_callv, x_bi, x_isi, x_ise, x_me, x_lc, x_rng, x_rev, s_pass, s_seq, s_set, s_setix, s_aug, s_ex, s_ite, s_wh, s_for, s_ret, s_retn, s_brk, s_cnt, s_raise, s_tryN, s_tryA, consOp_t, tupOp_t, lstOp_t, negOp_i, onTup_t, callOn_t, getV_int, getV_bl, getV_str, getV_tup, getV_ref, getV_fn, getV_non, onFn_f, onExc_f, onInt_i, augNx_s, augop_a, augop_s, okOnly_ok, b_add, b_sub, b_mul, b_fdiv, b_mod, b_addt, c_lt, c_le, c_gt, c_ge, c_eq, c_ne, onL_s, onLo_s, onV_s, atV_s, lr_len, lr_list, lr_tuple, ix_t', ix_r', me_app, me_pop, me_rev, sl_r', sl_t', recv_app, recv_pop, recv_popAt, recv_clear, recv_rev, recv_ins, getL_at0, getL_at1, getL_at2, getL_at3, setL_at0, setL_at1, setL_at2, getL_0, getL_1, getL_2, getL_3, getL_4, setL_1, setL_2, setL_3, atI_0, atI_1, atI_2, atI_m1, List.append_assoc, List.length_append, Nat.add_one_ne_zero, bi_abs, bi_lent, bi_max, bi_min, bi_int, bi_intb, bi_listt, bi_tupt, ty_non, ty_bl, ty_int, ty_str, ty_tup, tb1, tb2, tb3, tb4, tb5, tn1, tn2, tn3, tn4, tn5, tn6, isNon_non, isNon_tup, isNon_int, isNon_ref, items_t, items_r, Option.map_some, fw_nil_n, fw_cons_n, fw_nil_s, fw_cons_s, takeS_0, takeS_s, dropS_0, dropS_s, forOn_s, lcOn_s, R.bind_ok, R.bind_exc, R.bind_bad, R.on_ok, R.on_exc, R.on_bad, onBl_bl, ifB_bl, O.then_nx, O.turn_nx, O.turn_ct, O.turn_bk, O.turn_rt, O.turn_ex, O.then_rt, O.then_ex, O.then_bk, O.then_ct, O.then_bad, onPart_int, onPart_abs, List.getElem?_cons_zero, List.getElem?_cons_succ, List.set_cons_zero, List.set_cons_succ, List.length_cons, List.length_nil, List.map_cons, List.map_nil, List.cons_append, List.nil_append, List.replicate_succ, List.replicate_zero, Nat.reduceAdd, Nat.reduceSub, Nat.reduceEqDiff, Nat.reduceLT, Nat.reduceLeDiff, if_true, if_false, ite_true, ite_false, eq_self, eqop_int, neop_int, eqop_bl, neop_bl, Bool.not_true, Bool.not_false, Bool.true_eq_false, Bool.false_eq_true, Bool.or_true, Bool.or_false, Bool.true_or, Bool.false_or, Bool.and_true, Bool.and_false, reduceIte, reduceCtorEq, decide_true, decide_false, decide_eq_true_eq, Bool.not_eq_true', decide_eq_false_iff_not, Nat.zero_le, lim1, lim2, lim3, lim4, lim5, Int.reduceLE, Int.reduceLT, Int.reduceEq, Int.reduceNe, ne_eq, not_false_eq_true, not_true_eq_false, Int.reduceNeg, and_true, true_and, and_false, false_and, or_true, true_or, or_false, false_or, alloc_e, seen_s, seen_none,  fmp, p10_4, p10_6, p10_9, p10_12, p10_18, p10_20, p10_28, p10_30, p10_40, p10_44, p10_50, p10_57, p10_58, p10_59, p10_60, getV_R, ix_R0, ix_R1, ty_R, len_R, isNon_R, tupOp_R, callOn_R, items_R, consOp_R, R0n, R0d, R1n, R1d, onTup_R, eq_R, ne_R, R_eta, R_0, R_1, R_neg, R_den', R_den1, R_den0, r_under, hv, hs, Sz0, h1]
    unfold F__law_heap_refused
    simp only [getV_C, ix_C0, ix_C1, C_eta, tupOp_C, callOn_C, consOp_C, ty_C, len_C, onTup_C, eq_C, getV_F, ix_F0, ix_F1, ty_F, len_F, runF_mk, ofO_nx, ofO_rt, ofO_ex, x_non, x_bl, x_int, x_str, x_v, x_k, x_f, x_nil, x_absent, x_cons, x_tup, x_lst, x_bin, x_neg, x_not, x_and, x_or, x_cmp, x_isn, x_notn, x_ix, x_sl, x_call, x_callv, x_bi, x_isi, x_ise, x_me, x_lc, x_rng, x_rev, s_pass, s_seq, s_set, s_setix, s_aug, s_ex, s_ite, s_wh, s_for, s_ret, s_retn, s_brk, s_cnt, s_raise, s_tryN, s_tryA, consOp_t, tupOp_t, lstOp_t, negOp_i, onTup_t, callOn_t, getV_int, getV_bl, getV_str, getV_tup, getV_ref, getV_fn, getV_non, onFn_f, onExc_f, onInt_i, augNx_s, augop_a, augop_s, okOnly_ok, b_add, b_sub, b_mul, b_fdiv, b_mod, b_addt, c_lt, c_le, c_gt, c_ge, c_eq, c_ne, onL_s, onLo_s, onV_s, atV_s, lr_len, lr_list, lr_tuple, ix_t', ix_r', me_app, me_pop, me_rev, sl_r', sl_t', recv_app, recv_pop, recv_popAt, recv_clear, recv_rev, recv_ins, getL_at0, getL_at1, getL_at2, getL_at3, setL_at0, setL_at1, setL_at2, getL_0, getL_1, getL_2, getL_3, getL_4, setL_1, setL_2, setL_3, atI_0, atI_1, atI_2, atI_m1, List.append_assoc, List.length_append, Nat.add_one_ne_zero, bi_abs, bi_lent, bi_max, bi_min, bi_int, bi_intb, bi_listt, bi_tupt, ty_non, ty_bl, ty_int, ty_str, ty_tup, tb1, tb2, tb3, tb4, tb5, tn1, tn2, tn3, tn4, tn5, tn6, isNon_non, isNon_tup, isNon_int, isNon_ref, items_t, items_r, Option.map_some, fw_nil_n, fw_cons_n, fw_nil_s, fw_cons_s, takeS_0, takeS_s, dropS_0, dropS_s, forOn_s, lcOn_s, R.bind_ok, R.bind_exc, R.bind_bad, R.on_ok, R.on_exc, R.on_bad, onBl_bl, ifB_bl, O.then_nx, O.turn_nx, O.turn_ct, O.turn_bk, O.turn_rt, O.turn_ex, O.then_rt, O.then_ex, O.then_bk, O.then_ct, O.then_bad, onPart_int, onPart_abs, List.getElem?_cons_zero, List.getElem?_cons_succ, List.set_cons_zero, List.set_cons_succ, List.length_cons, List.length_nil, List.map_cons, List.map_nil, List.cons_append, List.nil_append, List.replicate_succ, List.replicate_zero, Nat.reduceAdd, Nat.reduceSub, Nat.reduceEqDiff, Nat.reduceLT, Nat.reduceLeDiff, if_true, if_false, ite_true, ite_false, eq_self, eqop_int, neop_int, eqop_bl, neop_bl, Bool.not_true, Bool.not_false, Bool.true_eq_false, Bool.false_eq_true, Bool.or_true, Bool.or_false, Bool.true_or, Bool.false_or, Bool.and_true, Bool.and_false, reduceIte, reduceCtorEq, decide_true, decide_false, decide_eq_true_eq, Bool.not_eq_true', decide_eq_false_iff_not, Nat.zero_le, lim1, lim2, lim3, lim4, lim5, Int.reduceLE, Int.reduceLT, Int.reduceEq, Int.reduceNe, ne_eq, not_false_eq_true, not_true_eq_false, Int.reduceNeg, and_true, true_and, and_false, false_and, or_true, true_or, or_false, false_or, alloc_e, seen_s, seen_none,  fmp, p10_4, p10_6, p10_9, p10_12, p10_18, p10_20, p10_28, p10_30, p10_40, p10_44, p10_50, p10_57, p10_58, p10_59, p10_60, getV_R, ix_R0, ix_R1, ty_R, len_R, isNon_R, tupOp_R, callOn_R, items_R, consOp_R, R0n, R0d, R1n, R1d, onTup_R, eq_R, ne_R, R_eta, R_0, R_1, R_neg, R_den', R_den1, R_den0, e, try_ex, sub_cc, h1]
  · by_cases h2 : s < 0
    · have e : runT T (n + 2) "heap" [dR v, dR s] L = .exc "NoCurve" L := by
        rw [runT_succ T_heap]
        unfold F_heap
        simp only [getV_C, ix_C0, ix_C1, C_eta, tupOp_C, callOn_C, consOp_C, ty_C, len_C, onTup_C, eq_C, getV_F, ix_F0, ix_F1, ty_F, len_F, runF_mk, ofO_nx, ofO_rt, ofO_ex, x_non, x_bl, x_int, x_str, x_v, x_k, x_f, x_nil, x_absent, x_cons, x_tup, x_lst, x_bin, x_neg, x_not, x_and, x_or, x_cmp, x_isn, x_notn, x_ix, x_sl, x_call, x_callv, x_bi, x_isi, x_ise, x_me, x_lc, x_rng, x_rev, s_pass, s_seq, s_set, s_setix, s_aug, s_ex, s_ite, s_wh, s_for, s_ret, s_retn, s_brk, s_cnt, s_raise, s_tryN, s_tryA, consOp_t, tupOp_t, lstOp_t, negOp_i, onTup_t, callOn_t, getV_int, getV_bl, getV_str, getV_tup, getV_ref, getV_fn, getV_non, onFn_f, onExc_f, onInt_i, augNx_s, augop_a, augop_s, okOnly_ok, b_add, b_sub, b_mul, b_fdiv, b_mod, b_addt, c_lt, c_le, c_gt, c_ge, c_eq, c_ne, onL_s, onLo_s, onV_s, atV_s, lr_len, lr_list, lr_tuple, ix_t', ix_r', me_app, me_pop, me_rev, sl_r', sl_t', recv_app, recv_pop, recv_popAt, recv_clear, recv_rev, recv_ins, getL_at0, getL_at1, getL_at2, getL_at3, setL_at0, setL_at1, setL_at2, getL_0, getL_1, getL_2, getL_3, getL_4, setL_1, setL_2, setL_3, atI_0, atI_1, atI_2, atI_m1, List.append_assoc, List.length_append, Nat.add_one_ne_zero, bi_abs, bi_lent, bi_max, bi_min, bi_int, bi_intb, bi_listt, bi_tupt, ty_non, ty_bl, ty_int, ty_str, ty_tup, tb1, tb2, tb3, tb4, tb5, tn1, tn2, tn3, tn4, tn5, tn6, isNon_non, isNon_tup, isNon_int, isNon_ref, items_t, items_r, Option.map_some, fw_nil_n, fw_cons_n, fw_nil_s, fw_cons_s, takeS_0, takeS_s, dropS_0, dropS_s, forOn_s, lcOn_s, R.bind_ok, R.bind_exc, R.bind_bad, R.on_ok, R.on_exc, R.on_bad, onBl_bl, ifB_bl, O.then_nx, O.turn_nx, O.turn_ct, O.turn_bk, O.turn_rt, O.turn_ex, O.then_rt, O.then_ex, O.then_bk, O.then_ct, O.then_bad, onPart_int, onPart_abs, List.getElem?_cons_zero, List.getElem?_cons_succ, List.set_cons_zero, List.set_cons_succ, List.length_cons, List.length_nil, List.map_cons, List.map_nil, List.cons_append, List.nil_append, List.replicate_succ, List.replicate_zero, Nat.reduceAdd, Nat.reduceSub, Nat.reduceEqDiff, Nat.reduceLT, Nat.reduceLeDiff, if_true, if_false, ite_true, ite_false, eq_self, eqop_int, neop_int, eqop_bl, neop_bl, Bool.not_true, Bool.not_false, Bool.true_eq_false, Bool.false_eq_true, Bool.or_true, Bool.or_false, Bool.true_or, Bool.false_or, Bool.and_true, Bool.and_false, reduceIte, reduceCtorEq, decide_true, decide_false, decide_eq_true_eq, Bool.not_eq_true', decide_eq_false_iff_not, Nat.zero_le, lim1, lim2, lim3, lim4, lim5, Int.reduceLE, Int.reduceLT, Int.reduceEq, Int.reduceNe, ne_eq, not_false_eq_true, not_true_eq_false, Int.reduceNeg, and_true, true_and, and_false, false_and, or_true, true_or, or_false, false_or, alloc_e, seen_s, seen_none,  fmp, p10_4, p10_6, p10_9, p10_12, p10_18, p10_20, p10_28, p10_30, p10_40, p10_44, p10_50, p10_57, p10_58, p10_59, p10_60, getV_R, ix_R0, ix_R1, ty_R, len_R, isNon_R, tupOp_R, callOn_R, items_R, consOp_R, R0n, R0d, R1n, R1d, onTup_R, eq_R, ne_R, R_eta, R_0, R_1, R_neg, R_den', R_den1, R_den0, r_under, hv, hs, Sz0, h1, h2]
      unfold F__law_heap_refused
      simp only [getV_C, ix_C0, ix_C1, C_eta, tupOp_C, callOn_C, consOp_C, ty_C, len_C, onTup_C, eq_C, getV_F, ix_F0, ix_F1, ty_F, len_F, runF_mk, ofO_nx, ofO_rt, ofO_ex, x_non, x_bl, x_int, x_str, x_v, x_k, x_f, x_nil, x_absent, x_cons, x_tup, x_lst, x_bin, x_neg, x_not, x_and, x_or, x_cmp, x_isn, x_notn, x_ix, x_sl, x_call, x_callv, x_bi, x_isi, x_ise, x_me, x_lc, x_rng, x_rev, s_pass, s_seq, s_set, s_setix, s_aug, s_ex, s_ite, s_wh, s_for, s_ret, s_retn, s_brk, s_cnt, s_raise, s_tryN, s_tryA, consOp_t, tupOp_t, lstOp_t, negOp_i, onTup_t, callOn_t, getV_int, getV_bl, getV_str, getV_tup, getV_ref, getV_fn, getV_non, onFn_f, onExc_f, onInt_i, augNx_s, augop_a, augop_s, okOnly_ok, b_add, b_sub, b_mul, b_fdiv, b_mod, b_addt, c_lt, c_le, c_gt, c_ge, c_eq, c_ne, onL_s, onLo_s, onV_s, atV_s, lr_len, lr_list, lr_tuple, ix_t', ix_r', me_app, me_pop, me_rev, sl_r', sl_t', recv_app, recv_pop, recv_popAt, recv_clear, recv_rev, recv_ins, getL_at0, getL_at1, getL_at2, getL_at3, setL_at0, setL_at1, setL_at2, getL_0, getL_1, getL_2, getL_3, getL_4, setL_1, setL_2, setL_3, atI_0, atI_1, atI_2, atI_m1, List.append_assoc, List.length_append, Nat.add_one_ne_zero, bi_abs, bi_lent, bi_max, bi_min, bi_int, bi_intb, bi_listt, bi_tupt, ty_non, ty_bl, ty_int, ty_str, ty_tup, tb1, tb2, tb3, tb4, tb5, tn1, tn2, tn3, tn4, tn5, tn6, isNon_non, isNon_tup, isNon_int, isNon_ref, items_t, items_r, Option.map_some, fw_nil_n, fw_cons_n, fw_nil_s, fw_cons_s, takeS_0, takeS_s, dropS_0, dropS_s, forOn_s, lcOn_s, R.bind_ok, R.bind_exc, R.bind_bad, R.on_ok, R.on_exc, R.on_bad, onBl_bl, ifB_bl, O.then_nx, O.turn_nx, O.turn_ct, O.turn_bk, O.turn_rt, O.turn_ex, O.then_rt, O.then_ex, O.then_bk, O.then_ct, O.then_bad, onPart_int, onPart_abs, List.getElem?_cons_zero, List.getElem?_cons_succ, List.set_cons_zero, List.set_cons_succ, List.length_cons, List.length_nil, List.map_cons, List.map_nil, List.cons_append, List.nil_append, List.replicate_succ, List.replicate_zero, Nat.reduceAdd, Nat.reduceSub, Nat.reduceEqDiff, Nat.reduceLT, Nat.reduceLeDiff, if_true, if_false, ite_true, ite_false, eq_self, eqop_int, neop_int, eqop_bl, neop_bl, Bool.not_true, Bool.not_false, Bool.true_eq_false, Bool.false_eq_true, Bool.or_true, Bool.or_false, Bool.true_or, Bool.false_or, Bool.and_true, Bool.and_false, reduceIte, reduceCtorEq, decide_true, decide_false, decide_eq_true_eq, Bool.not_eq_true', decide_eq_false_iff_not, Nat.zero_le, lim1, lim2, lim3, lim4, lim5, Int.reduceLE, Int.reduceLT, Int.reduceEq, Int.reduceNe, ne_eq, not_false_eq_true, not_true_eq_false, Int.reduceNeg, and_true, true_and, and_false, false_and, or_true, true_or, or_false, false_or, alloc_e, seen_s, seen_none,  fmp, p10_4, p10_6, p10_9, p10_12, p10_18, p10_20, p10_28, p10_30, p10_40, p10_44, p10_50, p10_57, p10_58, p10_59, p10_60, getV_R, ix_R0, ix_R1, ty_R, len_R, isNon_R, tupOp_R, callOn_R, items_R, consOp_R, R0n, R0d, R1n, R1d, onTup_R, eq_R, ne_R, R_eta, R_0, R_1, R_neg, R_den', R_den1, R_den0, e, try_ex, sub_cc, h1, h2]
    · have hh := hh h1 h2
      unfold F__law_heap_refused
      simp only [getV_C, ix_C0, ix_C1, C_eta, tupOp_C, callOn_C, consOp_C, ty_C, len_C, onTup_C, eq_C, getV_F, ix_F0, ix_F1, ty_F, len_F, runF_mk, ofO_nx, ofO_rt, ofO_ex, x_non, x_bl, x_int, x_str, x_v, x_k, x_f, x_nil, x_absent, x_cons, x_tup, x_lst, x_bin, x_neg, x_not, x_and, x_or, x_cmp, x_isn, x_notn, x_ix, x_sl, x_call, x_callv, x_bi, x_isi, x_ise, x_me, x_lc, x_rng, x_rev, s_pass, s_seq, s_set, s_setix, s_aug, s_ex, s_ite, s_wh, s_for, s_ret, s_retn, s_brk, s_cnt, s_raise, s_tryN, s_tryA, consOp_t, tupOp_t, lstOp_t, negOp_i, onTup_t, callOn_t, getV_int, getV_bl, getV_str, getV_tup, getV_ref, getV_fn, getV_non, onFn_f, onExc_f, onInt_i, augNx_s, augop_a, augop_s, okOnly_ok, b_add, b_sub, b_mul, b_fdiv, b_mod, b_addt, c_lt, c_le, c_gt, c_ge, c_eq, c_ne, onL_s, onLo_s, onV_s, atV_s, lr_len, lr_list, lr_tuple, ix_t', ix_r', me_app, me_pop, me_rev, sl_r', sl_t', recv_app, recv_pop, recv_popAt, recv_clear, recv_rev, recv_ins, getL_at0, getL_at1, getL_at2, getL_at3, setL_at0, setL_at1, setL_at2, getL_0, getL_1, getL_2, getL_3, getL_4, setL_1, setL_2, setL_3, atI_0, atI_1, atI_2, atI_m1, List.append_assoc, List.length_append, Nat.add_one_ne_zero, bi_abs, bi_lent, bi_max, bi_min, bi_int, bi_intb, bi_listt, bi_tupt, ty_non, ty_bl, ty_int, ty_str, ty_tup, tb1, tb2, tb3, tb4, tb5, tn1, tn2, tn3, tn4, tn5, tn6, isNon_non, isNon_tup, isNon_int, isNon_ref, items_t, items_r, Option.map_some, fw_nil_n, fw_cons_n, fw_nil_s, fw_cons_s, takeS_0, takeS_s, dropS_0, dropS_s, forOn_s, lcOn_s, R.bind_ok, R.bind_exc, R.bind_bad, R.on_ok, R.on_exc, R.on_bad, onBl_bl, ifB_bl, O.then_nx, O.turn_nx, O.turn_ct, O.turn_bk, O.turn_rt, O.turn_ex, O.then_rt, O.then_ex, O.then_bk, O.then_ct, O.then_bad, onPart_int, onPart_abs, List.getElem?_cons_zero, List.getElem?_cons_succ, List.set_cons_zero, List.set_cons_succ, List.length_cons, List.length_nil, List.map_cons, List.map_nil, List.cons_append, List.nil_append, List.replicate_succ, List.replicate_zero, Nat.reduceAdd, Nat.reduceSub, Nat.reduceEqDiff, Nat.reduceLT, Nat.reduceLeDiff, if_true, if_false, ite_true, ite_false, eq_self, eqop_int, neop_int, eqop_bl, neop_bl, Bool.not_true, Bool.not_false, Bool.true_eq_false, Bool.false_eq_true, Bool.or_true, Bool.or_false, Bool.true_or, Bool.false_or, Bool.and_true, Bool.and_false, reduceIte, reduceCtorEq, decide_true, decide_false, decide_eq_true_eq, Bool.not_eq_true', decide_eq_false_iff_not, Nat.zero_le, lim1, lim2, lim3, lim4, lim5, Int.reduceLE, Int.reduceLT, Int.reduceEq, Int.reduceNe, ne_eq, not_false_eq_true, not_true_eq_false, Int.reduceNeg, and_true, true_and, and_false, false_and, or_true, true_or, or_false, false_or, alloc_e, seen_s, seen_none,  fmp, p10_4, p10_6, p10_9, p10_12, p10_18, p10_20, p10_28, p10_30, p10_40, p10_44, p10_50, p10_57, p10_58, p10_59, p10_60, getV_R, ix_R0, ix_R1, ty_R, len_R, isNon_R, tupOp_R, callOn_R, items_R, consOp_R, R0n, R0d, R1n, R1d, onTup_R, eq_R, ne_R, R_eta, R_0, R_1, R_neg, R_den', R_den1, R_den0, hh, try_nx, h1, h2]
theorem r_lateref (n : Nat) (v s : Rat) (L : Hd) (hL : L.length ≠ 0) (hv : Rb v 1600) (hs : Rb s 1600) : ∃ J, runT T (n + 9) "_law_late_refused" [dR v, dR s] L = .ok (.bl (decide (v < 0 ∨ s < 0))) (L ++ J) := by
  rw [runT_succ T__law_late_refused]
  have sv : Sz v := hv.sz (by decide)
  have ss : Sz s := hs.sz (by decide)
  by_cases h1 : v < 0
  · have e : runT T (n + 8) "late" [dR v, dR s] L = .exc "NoCurve" L := by
      rw [runT_succ T_late]
      unfold F_late
      simp only [getV_C, ix_C0, ix_C1, C_eta, tupOp_C, callOn_C, consOp_C, ty_C, len_C, onTup_C, eq_C, getV_F, ix_F0, ix_F1, ty_F, len_F, runF_mk, ofO_nx, ofO_rt, ofO_ex, x_non, x_bl, x_int, x_str, x_v, x_k, x_f, x_nil, x_absent, x_cons, x_tup, x_lst, x_bin, x_neg, x_not, x_and, x_or, x_cmp, x_isn, x_notn, x_ix, x_sl, x_call, x_callv, x_bi, x_isi, x_ise, x_me, x_lc, x_rng, x_rev, s_pass, s_seq, s_set, s_setix, s_aug, s_ex, s_ite, s_wh, s_for, s_ret, s_retn, s_brk, s_cnt, s_raise, s_tryN, s_tryA, consOp_t, tupOp_t, lstOp_t, negOp_i, onTup_t, callOn_t, getV_int, getV_bl, getV_str, getV_tup, getV_ref, getV_fn, getV_non, onFn_f, onExc_f, onInt_i, augNx_s, augop_a, augop_s, okOnly_ok, b_add, b_sub, b_mul, b_fdiv, b_mod, b_addt, c_lt, c_le, c_gt, c_ge, c_eq, c_ne, onL_s, onLo_s, onV_s, atV_s, lr_len, lr_list, lr_tuple, ix_t', ix_r', me_app, me_pop, me_rev, sl_r', sl_t', recv_app, recv_pop, recv_popAt, recv_clear, recv_rev, recv_ins, getL_at0, getL_at1, getL_at2, getL_at3, setL_at0, setL_at1, setL_at2, getL_0, getL_1, getL_2, getL_3, getL_4, setL_1, setL_2, setL_3, atI_0, atI_1, atI_2, atI_m1, List.append_assoc, List.length_append, Nat.add_one_ne_zero, bi_abs, bi_lent, bi_max, bi_min, bi_int, bi_intb, bi_listt, bi_tupt, ty_non, ty_bl, ty_int, ty_str, ty_tup, tb1, tb2, tb3, tb4, tb5, tn1, tn2, tn3, tn4, tn5, tn6, isNon_non, isNon_tup, isNon_int, isNon_ref, items_t, items_r, Option.map_some, fw_nil_n, fw_cons_n, fw_nil_s, fw_cons_s, takeS_0, takeS_s, dropS_0, dropS_s, forOn_s, lcOn_s, R.bind_ok, R.bind_exc, R.bind_bad, R.on_ok, R.on_exc, R.on_bad, onBl_bl, ifB_bl, O.then_nx, O.turn_nx, O.turn_ct, O.turn_bk, O.turn_rt, O.turn_ex, O.then_rt, O.then_ex, O.then_bk, O.then_ct, O.then_bad, onPart_int, onPart_abs, List.getElem?_cons_zero, List.getElem?_cons_succ, List.set_cons_zero, List.set_cons_succ, List.length_cons, List.length_nil, List.map_cons, List.map_nil, List.cons_append, List.nil_append, List.replicate_succ, List.replicate_zero, Nat.reduceAdd, Nat.reduceSub, Nat.reduceEqDiff, Nat.reduceLT, Nat.reduceLeDiff, if_true, if_false, ite_true, ite_false, eq_self, eqop_int, neop_int, eqop_bl, neop_bl, Bool.not_true, Bool.not_false, Bool.true_eq_false, Bool.false_eq_true, Bool.or_true, Bool.or_false, Bool.true_or, Bool.false_or, Bool.and_true, Bool.and_false, reduceIte, reduceCtorEq, decide_true, decide_false, decide_eq_true_eq, Bool.not_eq_true', decide_eq_false_iff_not, Nat.zero_le, lim1, lim2, lim3, lim4, lim5, Int.reduceLE, Int.reduceLT, Int.reduceEq, Int.reduceNe, ne_eq, not_false_eq_true, not_true_eq_false, Int.reduceNeg, and_true, true_and, and_false, false_and, or_true, true_or, or_false, false_or, alloc_e, seen_s, seen_none,  fmp, p10_4, p10_6, p10_9, p10_12, p10_18, p10_20, p10_28, p10_30, p10_40, p10_44, p10_50, p10_57, p10_58, p10_59, p10_60, getV_R, ix_R0, ix_R1, ty_R, len_R, isNon_R, tupOp_R, callOn_R, items_R, consOp_R, R0n, R0d, R1n, R1d, onTup_R, eq_R, ne_R, R_eta, R_0, R_1, R_neg, R_den', R_den1, R_den0, r_under, sv, ss, Sz0, h1]
    unfold F__law_late_refused
    simp only [getV_C, ix_C0, ix_C1, C_eta, tupOp_C, callOn_C, consOp_C, ty_C, len_C, onTup_C, eq_C, getV_F, ix_F0, ix_F1, ty_F, len_F, runF_mk, ofO_nx, ofO_rt, ofO_ex, x_non, x_bl, x_int, x_str, x_v, x_k, x_f, x_nil, x_absent, x_cons, x_tup, x_lst, x_bin, x_neg, x_not, x_and, x_or, x_cmp, x_isn, x_notn, x_ix, x_sl, x_call, x_callv, x_bi, x_isi, x_ise, x_me, x_lc, x_rng, x_rev, s_pass, s_seq, s_set, s_setix, s_aug, s_ex, s_ite, s_wh, s_for, s_ret, s_retn, s_brk, s_cnt, s_raise, s_tryN, s_tryA, consOp_t, tupOp_t, lstOp_t, negOp_i, onTup_t, callOn_t, getV_int, getV_bl, getV_str, getV_tup, getV_ref, getV_fn, getV_non, onFn_f, onExc_f, onInt_i, augNx_s, augop_a, augop_s, okOnly_ok, b_add, b_sub, b_mul, b_fdiv, b_mod, b_addt, c_lt, c_le, c_gt, c_ge, c_eq, c_ne, onL_s, onLo_s, onV_s, atV_s, lr_len, lr_list, lr_tuple, ix_t', ix_r', me_app, me_pop, me_rev, sl_r', sl_t', recv_app, recv_pop, recv_popAt, recv_clear, recv_rev, recv_ins, getL_at0, getL_at1, getL_at2, getL_at3, setL_at0, setL_at1, setL_at2, getL_0, getL_1, getL_2, getL_3, getL_4, setL_1, setL_2, setL_3, atI_0, atI_1, atI_2, atI_m1, List.append_assoc, List.length_append, Nat.add_one_ne_zero, bi_abs, bi_lent, bi_max, bi_min, bi_int, bi_intb, bi_listt, bi_tupt, ty_non, ty_bl, ty_int, ty_str, ty_tup, tb1, tb2, tb3, tb4, tb5, tn1, tn2, tn3, tn4, tn5, tn6, isNon_non, isNon_tup, isNon_int, isNon_ref, items_t, items_r, Option.map_some, fw_nil_n, fw_cons_n, fw_nil_s, fw_cons_s, takeS_0, takeS_s, dropS_0, dropS_s, forOn_s, lcOn_s, R.bind_ok, R.bind_exc, R.bind_bad, R.on_ok, R.on_exc, R.on_bad, onBl_bl, ifB_bl, O.then_nx, O.turn_nx, O.turn_ct, O.turn_bk, O.turn_rt, O.turn_ex, O.then_rt, O.then_ex, O.then_bk, O.then_ct, O.then_bad, onPart_int, onPart_abs, List.getElem?_cons_zero, List.getElem?_cons_succ, List.set_cons_zero, List.set_cons_succ, List.length_cons, List.length_nil, List.map_cons, List.map_nil, List.cons_append, List.nil_append, List.replicate_succ, List.replicate_zero, Nat.reduceAdd, Nat.reduceSub, Nat.reduceEqDiff, Nat.reduceLT, Nat.reduceLeDiff, if_true, if_false, ite_true, ite_false, eq_self, eqop_int, neop_int, eqop_bl, neop_bl, Bool.not_true, Bool.not_false, Bool.true_eq_false, Bool.false_eq_true, Bool.or_true, Bool.or_false, Bool.true_or, Bool.false_or, Bool.and_true, Bool.and_false, reduceIte, reduceCtorEq, decide_true, decide_false, decide_eq_true_eq, Bool.not_eq_true', decide_eq_false_iff_not, Nat.zero_le, lim1, lim2, lim3, lim4, lim5, Int.reduceLE, Int.reduceLT, Int.reduceEq, Int.reduceNe, ne_eq, not_false_eq_true, not_true_eq_false, Int.reduceNeg, and_true, true_and, and_false, false_and, or_true, true_or, or_false, false_or, alloc_e, seen_s, seen_none,  fmp, p10_4, p10_6, p10_9, p10_12, p10_18, p10_20, p10_28, p10_30, p10_40, p10_44, p10_50, p10_57, p10_58, p10_59, p10_60, getV_R, ix_R0, ix_R1, ty_R, len_R, isNon_R, tupOp_R, callOn_R, items_R, consOp_R, R0n, R0d, R1n, R1d, onTup_R, eq_R, ne_R, R_eta, R_0, R_1, R_neg, R_den', R_den1, R_den0, e, try_ex, sub_cc, h1]
    exact ⟨[], by simp⟩
  · by_cases h2 : s < 0
    · have e : runT T (n + 8) "late" [dR v, dR s] L = .exc "NoCurve" L := by
        rw [runT_succ T_late]
        unfold F_late
        simp only [getV_C, ix_C0, ix_C1, C_eta, tupOp_C, callOn_C, consOp_C, ty_C, len_C, onTup_C, eq_C, getV_F, ix_F0, ix_F1, ty_F, len_F, runF_mk, ofO_nx, ofO_rt, ofO_ex, x_non, x_bl, x_int, x_str, x_v, x_k, x_f, x_nil, x_absent, x_cons, x_tup, x_lst, x_bin, x_neg, x_not, x_and, x_or, x_cmp, x_isn, x_notn, x_ix, x_sl, x_call, x_callv, x_bi, x_isi, x_ise, x_me, x_lc, x_rng, x_rev, s_pass, s_seq, s_set, s_setix, s_aug, s_ex, s_ite, s_wh, s_for, s_ret, s_retn, s_brk, s_cnt, s_raise, s_tryN, s_tryA, consOp_t, tupOp_t, lstOp_t, negOp_i, onTup_t, callOn_t, getV_int, getV_bl, getV_str, getV_tup, getV_ref, getV_fn, getV_non, onFn_f, onExc_f, onInt_i, augNx_s, augop_a, augop_s, okOnly_ok, b_add, b_sub, b_mul, b_fdiv, b_mod, b_addt, c_lt, c_le, c_gt, c_ge, c_eq, c_ne, onL_s, onLo_s, onV_s, atV_s, lr_len, lr_list, lr_tuple, ix_t', ix_r', me_app, me_pop, me_rev, sl_r', sl_t', recv_app, recv_pop, recv_popAt, recv_clear, recv_rev, recv_ins, getL_at0, getL_at1, getL_at2, getL_at3, setL_at0, setL_at1, setL_at2, getL_0, getL_1, getL_2, getL_3, getL_4, setL_1, setL_2, setL_3, atI_0, atI_1, atI_2, atI_m1, List.append_assoc, List.length_append, Nat.add_one_ne_zero, bi_abs, bi_lent, bi_max, bi_min, bi_int, bi_intb, bi_listt, bi_tupt, ty_non, ty_bl, ty_int, ty_str, ty_tup, tb1, tb2, tb3, tb4, tb5, tn1, tn2, tn3, tn4, tn5, tn6, isNon_non, isNon_tup, isNon_int, isNon_ref, items_t, items_r, Option.map_some, fw_nil_n, fw_cons_n, fw_nil_s, fw_cons_s, takeS_0, takeS_s, dropS_0, dropS_s, forOn_s, lcOn_s, R.bind_ok, R.bind_exc, R.bind_bad, R.on_ok, R.on_exc, R.on_bad, onBl_bl, ifB_bl, O.then_nx, O.turn_nx, O.turn_ct, O.turn_bk, O.turn_rt, O.turn_ex, O.then_rt, O.then_ex, O.then_bk, O.then_ct, O.then_bad, onPart_int, onPart_abs, List.getElem?_cons_zero, List.getElem?_cons_succ, List.set_cons_zero, List.set_cons_succ, List.length_cons, List.length_nil, List.map_cons, List.map_nil, List.cons_append, List.nil_append, List.replicate_succ, List.replicate_zero, Nat.reduceAdd, Nat.reduceSub, Nat.reduceEqDiff, Nat.reduceLT, Nat.reduceLeDiff, if_true, if_false, ite_true, ite_false, eq_self, eqop_int, neop_int, eqop_bl, neop_bl, Bool.not_true, Bool.not_false, Bool.true_eq_false, Bool.false_eq_true, Bool.or_true, Bool.or_false, Bool.true_or, Bool.false_or, Bool.and_true, Bool.and_false, reduceIte, reduceCtorEq, decide_true, decide_false, decide_eq_true_eq, Bool.not_eq_true', decide_eq_false_iff_not, Nat.zero_le, lim1, lim2, lim3, lim4, lim5, Int.reduceLE, Int.reduceLT, Int.reduceEq, Int.reduceNe, ne_eq, not_false_eq_true, not_true_eq_false, Int.reduceNeg, and_true, true_and, and_false, false_and, or_true, true_or, or_false, false_or, alloc_e, seen_s, seen_none,  fmp, p10_4, p10_6, p10_9, p10_12, p10_18, p10_20, p10_28, p10_30, p10_40, p10_44, p10_50, p10_57, p10_58, p10_59, p10_60, getV_R, ix_R0, ix_R1, ty_R, len_R, isNon_R, tupOp_R, callOn_R, items_R, consOp_R, R0n, R0d, R1n, R1d, onTup_R, eq_R, ne_R, R_eta, R_0, R_1, R_neg, R_den', R_den1, R_den0, r_under, sv, ss, Sz0, h1, h2]
      unfold F__law_late_refused
      simp only [getV_C, ix_C0, ix_C1, C_eta, tupOp_C, callOn_C, consOp_C, ty_C, len_C, onTup_C, eq_C, getV_F, ix_F0, ix_F1, ty_F, len_F, runF_mk, ofO_nx, ofO_rt, ofO_ex, x_non, x_bl, x_int, x_str, x_v, x_k, x_f, x_nil, x_absent, x_cons, x_tup, x_lst, x_bin, x_neg, x_not, x_and, x_or, x_cmp, x_isn, x_notn, x_ix, x_sl, x_call, x_callv, x_bi, x_isi, x_ise, x_me, x_lc, x_rng, x_rev, s_pass, s_seq, s_set, s_setix, s_aug, s_ex, s_ite, s_wh, s_for, s_ret, s_retn, s_brk, s_cnt, s_raise, s_tryN, s_tryA, consOp_t, tupOp_t, lstOp_t, negOp_i, onTup_t, callOn_t, getV_int, getV_bl, getV_str, getV_tup, getV_ref, getV_fn, getV_non, onFn_f, onExc_f, onInt_i, augNx_s, augop_a, augop_s, okOnly_ok, b_add, b_sub, b_mul, b_fdiv, b_mod, b_addt, c_lt, c_le, c_gt, c_ge, c_eq, c_ne, onL_s, onLo_s, onV_s, atV_s, lr_len, lr_list, lr_tuple, ix_t', ix_r', me_app, me_pop, me_rev, sl_r', sl_t', recv_app, recv_pop, recv_popAt, recv_clear, recv_rev, recv_ins, getL_at0, getL_at1, getL_at2, getL_at3, setL_at0, setL_at1, setL_at2, getL_0, getL_1, getL_2, getL_3, getL_4, setL_1, setL_2, setL_3, atI_0, atI_1, atI_2, atI_m1, List.append_assoc, List.length_append, Nat.add_one_ne_zero, bi_abs, bi_lent, bi_max, bi_min, bi_int, bi_intb, bi_listt, bi_tupt, ty_non, ty_bl, ty_int, ty_str, ty_tup, tb1, tb2, tb3, tb4, tb5, tn1, tn2, tn3, tn4, tn5, tn6, isNon_non, isNon_tup, isNon_int, isNon_ref, items_t, items_r, Option.map_some, fw_nil_n, fw_cons_n, fw_nil_s, fw_cons_s, takeS_0, takeS_s, dropS_0, dropS_s, forOn_s, lcOn_s, R.bind_ok, R.bind_exc, R.bind_bad, R.on_ok, R.on_exc, R.on_bad, onBl_bl, ifB_bl, O.then_nx, O.turn_nx, O.turn_ct, O.turn_bk, O.turn_rt, O.turn_ex, O.then_rt, O.then_ex, O.then_bk, O.then_ct, O.then_bad, onPart_int, onPart_abs, List.getElem?_cons_zero, List.getElem?_cons_succ, List.set_cons_zero, List.set_cons_succ, List.length_cons, List.length_nil, List.map_cons, List.map_nil, List.cons_append, List.nil_append, List.replicate_succ, List.replicate_zero, Nat.reduceAdd, Nat.reduceSub, Nat.reduceEqDiff, Nat.reduceLT, Nat.reduceLeDiff, if_true, if_false, ite_true, ite_false, eq_self, eqop_int, neop_int, eqop_bl, neop_bl, Bool.not_true, Bool.not_false, Bool.true_eq_false, Bool.false_eq_true, Bool.or_true, Bool.or_false, Bool.true_or, Bool.false_or, Bool.and_true, Bool.and_false, reduceIte, reduceCtorEq, decide_true, decide_false, decide_eq_true_eq, Bool.not_eq_true', decide_eq_false_iff_not, Nat.zero_le, lim1, lim2, lim3, lim4, lim5, Int.reduceLE, Int.reduceLT, Int.reduceEq, Int.reduceNe, ne_eq, not_false_eq_true, not_true_eq_false, Int.reduceNeg, and_true, true_and, and_false, false_and, or_true, true_or, or_false, false_or, alloc_e, seen_s, seen_none,  fmp, p10_4, p10_6, p10_9, p10_12, p10_18, p10_20, p10_28, p10_30, p10_40, p10_44, p10_50, p10_57, p10_58, p10_59, p10_60, getV_R, ix_R0, ix_R1, ty_R, len_R, isNon_R, tupOp_R, callOn_R, items_R, consOp_R, R0n, R0d, R1n, R1d, onTup_R, eq_R, ne_R, R_eta, R_0, R_1, R_neg, R_den', R_den1, R_den0, e, try_ex, sub_cc, h1, h2]
      exact ⟨[], by simp⟩
    · obtain ⟨J, hh⟩ := r_late n v s L hL hv hs h1 h2
      unfold F__law_late_refused
      simp only [getV_C, ix_C0, ix_C1, C_eta, tupOp_C, callOn_C, consOp_C, ty_C, len_C, onTup_C, eq_C, getV_F, ix_F0, ix_F1, ty_F, len_F, runF_mk, ofO_nx, ofO_rt, ofO_ex, x_non, x_bl, x_int, x_str, x_v, x_k, x_f, x_nil, x_absent, x_cons, x_tup, x_lst, x_bin, x_neg, x_not, x_and, x_or, x_cmp, x_isn, x_notn, x_ix, x_sl, x_call, x_callv, x_bi, x_isi, x_ise, x_me, x_lc, x_rng, x_rev, s_pass, s_seq, s_set, s_setix, s_aug, s_ex, s_ite, s_wh, s_for, s_ret, s_retn, s_brk, s_cnt, s_raise, s_tryN, s_tryA, consOp_t, tupOp_t, lstOp_t, negOp_i, onTup_t, callOn_t, getV_int, getV_bl, getV_str, getV_tup, getV_ref, getV_fn, getV_non, onFn_f, onExc_f, onInt_i, augNx_s, augop_a, augop_s, okOnly_ok, b_add, b_sub, b_mul, b_fdiv, b_mod, b_addt, c_lt, c_le, c_gt, c_ge, c_eq, c_ne, onL_s, onLo_s, onV_s, atV_s, lr_len, lr_list, lr_tuple, ix_t', ix_r', me_app, me_pop, me_rev, sl_r', sl_t', recv_app, recv_pop, recv_popAt, recv_clear, recv_rev, recv_ins, getL_at0, getL_at1, getL_at2, getL_at3, setL_at0, setL_at1, setL_at2, getL_0, getL_1, getL_2, getL_3, getL_4, setL_1, setL_2, setL_3, atI_0, atI_1, atI_2, atI_m1, List.append_assoc, List.length_append, Nat.add_one_ne_zero, bi_abs, bi_lent, bi_max, bi_min, bi_int, bi_intb, bi_listt, bi_tupt, ty_non, ty_bl, ty_int, ty_str, ty_tup, tb1, tb2, tb3, tb4, tb5, tn1, tn2, tn3, tn4, tn5, tn6, isNon_non, isNon_tup, isNon_int, isNon_ref, items_t, items_r, Option.map_some, fw_nil_n, fw_cons_n, fw_nil_s, fw_cons_s, takeS_0, takeS_s, dropS_0, dropS_s, forOn_s, lcOn_s, R.bind_ok, R.bind_exc, R.bind_bad, R.on_ok, R.on_exc, R.on_bad, onBl_bl, ifB_bl, O.then_nx, O.turn_nx, O.turn_ct, O.turn_bk, O.turn_rt, O.turn_ex, O.then_rt, O.then_ex, O.then_bk, O.then_ct, O.then_bad, onPart_int, onPart_abs, List.getElem?_cons_zero, List.getElem?_cons_succ, List.set_cons_zero, List.set_cons_succ, List.length_cons, List.length_nil, List.map_cons, List.map_nil, List.cons_append, List.nil_append, List.replicate_succ, List.replicate_zero, Nat.reduceAdd, Nat.reduceSub, Nat.reduceEqDiff, Nat.reduceLT, Nat.reduceLeDiff, if_true, if_false, ite_true, ite_false, eq_self, eqop_int, neop_int, eqop_bl, neop_bl, Bool.not_true, Bool.not_false, Bool.true_eq_false, Bool.false_eq_true, Bool.or_true, Bool.or_false, Bool.true_or, Bool.false_or, Bool.and_true, Bool.and_false, reduceIte, reduceCtorEq, decide_true, decide_false, decide_eq_true_eq, Bool.not_eq_true', decide_eq_false_iff_not, Nat.zero_le, lim1, lim2, lim3, lim4, lim5, Int.reduceLE, Int.reduceLT, Int.reduceEq, Int.reduceNe, ne_eq, not_false_eq_true, not_true_eq_false, Int.reduceNeg, and_true, true_and, and_false, false_and, or_true, true_or, or_false, false_or, alloc_e, seen_s, seen_none,  fmp, p10_4, p10_6, p10_9, p10_12, p10_18, p10_20, p10_28, p10_30, p10_40, p10_44, p10_50, p10_57, p10_58, p10_59, p10_60, getV_R, ix_R0, ix_R1, ty_R, len_R, isNon_R, tupOp_R, callOn_R, items_R, consOp_R, R0n, R0d, R1n, R1d, onTup_R, eq_R, ne_R, R_eta, R_0, R_1, R_neg, R_den', R_den1, R_den0, hh, try_nx, h1, h2]
      exact ⟨_, rfl⟩
end Q

namespace Q
open PySem MP
theorem low_neg {a b : Int} (hb : 0 < b) (ha : a < 0) : Rat.divInt a b < 0 := by
  rw [← Rat.zero_divInt b]
  exact (dlt hb).mpr ha
theorem tail2 (L : Hd) (h1 : Nat) (low high c3 c4 c5 : Int) (e0 e3 e4 e7 e8 : Option D) (c : Cn) (r : List Cn) (s : Rat) (hL : L.length ≠ 0) (hl : 0 < low ∧ low.natAbs < 2 ^ 110) (hh : 0 < high ∧ high.natAbs < 2 ^ 110) (hc3 : ∀ M, runT T 20 "_law_cell_at" [.ref 0, .int 3] (L ++ M) = .ok (.int c3) (L ++ M)) (hc4 : ∀ M, runT T 20 "_law_cell_at" [.ref 0, .int 4] (L ++ M) = .ok (.int c4) (L ++ M)) (hc5 : ∀ M, runT T 20 "_law_cell_at" [.ref 0, .int 5] (L ++ M) = .ok (.int c5) (L ++ M)) (g1 : getL L h1 = some ((c :: r).map dC)) (g : Good c r) (hs : Rb s 500) (hn : r.length ≤ 60) (z0 : c.1 = 0) (z1 : ¬ c.2 < 0) (s0 : ¬ s < 0) : ∃ L', ofO (MP.run (runT T 20) (dropS 11 F_law.body) [some (.ref 0), some (.int low), some (.int high), e3, e4, some (.ref h1), some (dR s), e7, e8, none, none, none, none] L) = .ok (.bl true) L' := by
  have hz : ∀ x ∈ c :: r, Cz x := fun x hx => ⟨(g.sz x hx).1.mono (by decide), (g.sz x hx).2.mono (by decide)⟩
  obtain ⟨J, hr⟩ := r_refused_good 11 (L ++ [.lst ((c :: r).map dC)]) (.ref L.length) c r s (by simp) (Sq.ref getL_at0) hz (by omega) g.up g.nd z0 z1 (hs.sz (by decide)) s0
  have hlen : ((c :: r).map dC).length ≤ LIM := by simp; unfold LIM; omega
  rw [List.append_assoc] at hr
  have lo1 : ∀ (a : Int), a.natAbs < 2 ^ 110 → ∀ M, runT T 20 "_law_lowest" [.int a, .int low] M = .ok (dR (Rat.divInt a low)) M := fun a ha M => r_lowest 19 a low M hl.1 (up_lt ha (le_big (by decide))) (up_lt hl.2 (le_big (by decide)))
  have hi1 : ∀ (a : Int), a.natAbs < 2 ^ 110 → ∀ M, runT T 20 "_law_lowest" [.int a, .int high] M = .ok (dR (Rat.divInt a high)) M := fun a ha M => r_lowest 19 a high M hh.1 (up_lt ha (le_big (by decide))) (up_lt hh.2 (le_big (by decide)))
  have p3 := hi1 (c3 % 1000000000000000000000000000000) (by omega)
  have n3 := hi1 (-1 - c3 % 1000000000000000000000000000000) (by omega)
  have p5 := lo1 (c5 % 1000000000000000000000000000000) (by omega)
  have n5 := lo1 (-1 - c5 % 1000000000000000000000000000000) (by omega)
  have rb1 : ∀ (a : Int), a.natAbs < 2 ^ 110 → Rb (Rat.divInt a low) 110 := fun a ha => Rb.div ha hl.2 (by omega)
  have rb2 : ∀ (a : Int), a.natAbs < 2 ^ 110 → Rb (Rat.divInt a high) 110 := fun a ha => Rb.div ha hh.2 (by omega)
  have fin : ∀ (v q : Rat), Rb v 110 → Rb q 110 → ∀ M : Hd, M.length ≠ 0 → ∃ J, runT T 20 "_law_heap_refused" [dR v, dR q] M = .ok (.bl (decide (v < 0 ∨ q < 0))) M ∧ runT T 20 "_law_late_refused" [dR v, dR q] M = .ok (.bl (decide (v < 0 ∨ q < 0))) (M ++ J) := fun v q hv hq M hM => by
    obtain ⟨J, h⟩ := r_lateref 11 v q M hM (hv.mono (by decide)) (hq.mono (by decide))
    exact ⟨J, r_heapref 17 v q M (hv.sz (by decide)) (hq.sz (by decide)), h⟩
  have x3 := divOk3 c4
  have h4 : c4 / 3 % 4 = 0 ∨ c4 / 3 % 4 = 1 ∨ c4 / 3 % 4 = 2 ∨ c4 / 3 % 4 = 3 := by omega
  have q3 := nn_div (a := c3 % 1000000000000000000000000000000) (b := high) (by omega) hh.1
  have m3 := low_neg (a := -1 - c3 % 1000000000000000000000000000000) (b := high) hh.1 (by omega)
  have q5 := nn_div (a := c5 % 1000000000000000000000000000000) (b := low) (by omega) hl.1
  have m5 := low_neg (a := -1 - c5 % 1000000000000000000000000000000) (b := low) hl.1 (by omega)
  have M0 : (L ++ ([Cell.lst ((c :: r).map dC)] ++ J)).length ≠ 0 := by simp
  have t1 : (false == false) = true := rfl
  have t2 : (true == true) = true := rfl
  rcases h4 with h4 | h4 | h4 | h4
  · obtain ⟨J2, f1, f2⟩ := fin _ _ (rb2 (c3 % 1000000000000000000000000000000) (by omega)) (rb1 (c5 % 1000000000000000000000000000000) (by omega)) _ M0
    generalize (c :: r).map dC = xs at *
    simp only [List.cons_append, List.nil_append] at f1 f2 hr
    unfold F_law
    simp only [getV_C, ix_C0, ix_C1, C_eta, tupOp_C, callOn_C, consOp_C, ty_C, len_C, onTup_C, eq_C, getV_F, ix_F0, ix_F1, ty_F, len_F, runF_mk, ofO_nx, ofO_rt, ofO_ex, x_non, x_bl, x_int, x_str, x_v, x_k, x_f, x_nil, x_absent, x_cons, x_tup, x_lst, x_bin, x_neg, x_not, x_and, x_or, x_cmp, x_isn, x_notn, x_ix, x_sl, x_call, x_callv, x_bi, x_isi, x_ise, x_me, x_lc, x_rng, x_rev, s_pass, s_seq, s_set, s_setix, s_aug, s_ex, s_ite, s_wh, s_for, s_ret, s_retn, s_brk, s_cnt, s_raise, s_tryN, s_tryA, consOp_t, tupOp_t, lstOp_t, negOp_i, onTup_t, callOn_t, getV_int, getV_bl, getV_str, getV_tup, getV_ref, getV_fn, getV_non, onFn_f, onExc_f, onInt_i, augNx_s, augop_a, augop_s, okOnly_ok, b_add, b_sub, b_mul, b_fdiv, b_mod, b_addt, c_lt, c_le, c_gt, c_ge, c_eq, c_ne, onL_s, onLo_s, onV_s, atV_s, lr_len, lr_list, lr_tuple, ix_t', ix_r', me_app, me_pop, me_rev, sl_r', sl_t', recv_app, recv_pop, recv_popAt, recv_clear, recv_rev, recv_ins, getL_at0, getL_at1, getL_at2, getL_at3, setL_at0, setL_at1, setL_at2, getL_0, getL_1, getL_2, getL_3, getL_4, setL_1, setL_2, setL_3, atI_0, atI_1, atI_2, atI_m1, List.append_assoc, List.length_append, Nat.add_one_ne_zero, bi_abs, bi_lent, bi_max, bi_min, bi_int, bi_intb, bi_listt, bi_tupt, ty_non, ty_bl, ty_int, ty_str, ty_tup, tb1, tb2, tb3, tb4, tb5, tn1, tn2, tn3, tn4, tn5, tn6, isNon_non, isNon_tup, isNon_int, isNon_ref, items_t, items_r, Option.map_some, fw_nil_n, fw_cons_n, fw_nil_s, fw_cons_s, takeS_0, takeS_s, dropS_0, dropS_s, forOn_s, lcOn_s, R.bind_ok, R.bind_exc, R.bind_bad, R.on_ok, R.on_exc, R.on_bad, onBl_bl, ifB_bl, O.then_nx, O.turn_nx, O.turn_ct, O.turn_bk, O.turn_rt, O.turn_ex, O.then_rt, O.then_ex, O.then_bk, O.then_ct, O.then_bad, onPart_int, onPart_abs, List.getElem?_cons_zero, List.getElem?_cons_succ, List.set_cons_zero, List.set_cons_succ, List.length_cons, List.length_nil, List.map_cons, List.map_nil, List.cons_append, List.nil_append, List.replicate_succ, List.replicate_zero, Nat.reduceAdd, Nat.reduceSub, Nat.reduceEqDiff, Nat.reduceLT, Nat.reduceLeDiff, if_true, if_false, ite_true, ite_false, eq_self, eqop_int, neop_int, eqop_bl, neop_bl, Bool.not_true, Bool.not_false, Bool.true_eq_false, Bool.false_eq_true, Bool.or_true, Bool.or_false, Bool.true_or, Bool.false_or, Bool.and_true, Bool.and_false, reduceIte, reduceCtorEq, decide_true, decide_false, decide_eq_true_eq, Bool.not_eq_true', decide_eq_false_iff_not, Nat.zero_le, lim1, lim2, lim3, lim4, lim5, Int.reduceLE, Int.reduceLT, Int.reduceEq, Int.reduceNe, ne_eq, not_false_eq_true, not_true_eq_false, Int.reduceNeg, and_true, true_and, and_false, false_and, or_true, true_or, or_false, false_or, alloc_e, seen_s, seen_none,  fmp, p10_4, p10_6, p10_9, p10_12, p10_18, p10_20, p10_28, p10_30, p10_40, p10_44, p10_50, p10_57, p10_58, p10_59, p10_60, getV_R, ix_R0, ix_R1, ty_R, len_R, isNon_R, tupOp_R, callOn_R, items_R, consOp_R, R0n, R0d, R1n, R1d, onTup_R, eq_R, ne_R, R_eta, R_0, R_1, R_neg, R_den', R_den1, R_den0, g1, hlen, hr, hc3, hc4, hc5, p3, p5, x3, fdiv3, h4, f1, f2, q3, q5, t1, t2]
    exact ⟨_, rfl⟩
  · obtain ⟨J2, f1, f2⟩ := fin _ _ (rb2 (-1 - c3 % 1000000000000000000000000000000) (by omega)) (rb1 (c5 % 1000000000000000000000000000000) (by omega)) _ M0
    generalize (c :: r).map dC = xs at *
    simp only [List.cons_append, List.nil_append] at f1 f2 hr
    unfold F_law
    simp only [getV_C, ix_C0, ix_C1, C_eta, tupOp_C, callOn_C, consOp_C, ty_C, len_C, onTup_C, eq_C, getV_F, ix_F0, ix_F1, ty_F, len_F, runF_mk, ofO_nx, ofO_rt, ofO_ex, x_non, x_bl, x_int, x_str, x_v, x_k, x_f, x_nil, x_absent, x_cons, x_tup, x_lst, x_bin, x_neg, x_not, x_and, x_or, x_cmp, x_isn, x_notn, x_ix, x_sl, x_call, x_callv, x_bi, x_isi, x_ise, x_me, x_lc, x_rng, x_rev, s_pass, s_seq, s_set, s_setix, s_aug, s_ex, s_ite, s_wh, s_for, s_ret, s_retn, s_brk, s_cnt, s_raise, s_tryN, s_tryA, consOp_t, tupOp_t, lstOp_t, negOp_i, onTup_t, callOn_t, getV_int, getV_bl, getV_str, getV_tup, getV_ref, getV_fn, getV_non, onFn_f, onExc_f, onInt_i, augNx_s, augop_a, augop_s, okOnly_ok, b_add, b_sub, b_mul, b_fdiv, b_mod, b_addt, c_lt, c_le, c_gt, c_ge, c_eq, c_ne, onL_s, onLo_s, onV_s, atV_s, lr_len, lr_list, lr_tuple, ix_t', ix_r', me_app, me_pop, me_rev, sl_r', sl_t', recv_app, recv_pop, recv_popAt, recv_clear, recv_rev, recv_ins, getL_at0, getL_at1, getL_at2, getL_at3, setL_at0, setL_at1, setL_at2, getL_0, getL_1, getL_2, getL_3, getL_4, setL_1, setL_2, setL_3, atI_0, atI_1, atI_2, atI_m1, List.append_assoc, List.length_append, Nat.add_one_ne_zero, bi_abs, bi_lent, bi_max, bi_min, bi_int, bi_intb, bi_listt, bi_tupt, ty_non, ty_bl, ty_int, ty_str, ty_tup, tb1, tb2, tb3, tb4, tb5, tn1, tn2, tn3, tn4, tn5, tn6, isNon_non, isNon_tup, isNon_int, isNon_ref, items_t, items_r, Option.map_some, fw_nil_n, fw_cons_n, fw_nil_s, fw_cons_s, takeS_0, takeS_s, dropS_0, dropS_s, forOn_s, lcOn_s, R.bind_ok, R.bind_exc, R.bind_bad, R.on_ok, R.on_exc, R.on_bad, onBl_bl, ifB_bl, O.then_nx, O.turn_nx, O.turn_ct, O.turn_bk, O.turn_rt, O.turn_ex, O.then_rt, O.then_ex, O.then_bk, O.then_ct, O.then_bad, onPart_int, onPart_abs, List.getElem?_cons_zero, List.getElem?_cons_succ, List.set_cons_zero, List.set_cons_succ, List.length_cons, List.length_nil, List.map_cons, List.map_nil, List.cons_append, List.nil_append, List.replicate_succ, List.replicate_zero, Nat.reduceAdd, Nat.reduceSub, Nat.reduceEqDiff, Nat.reduceLT, Nat.reduceLeDiff, if_true, if_false, ite_true, ite_false, eq_self, eqop_int, neop_int, eqop_bl, neop_bl, Bool.not_true, Bool.not_false, Bool.true_eq_false, Bool.false_eq_true, Bool.or_true, Bool.or_false, Bool.true_or, Bool.false_or, Bool.and_true, Bool.and_false, reduceIte, reduceCtorEq, decide_true, decide_false, decide_eq_true_eq, Bool.not_eq_true', decide_eq_false_iff_not, Nat.zero_le, lim1, lim2, lim3, lim4, lim5, Int.reduceLE, Int.reduceLT, Int.reduceEq, Int.reduceNe, ne_eq, not_false_eq_true, not_true_eq_false, Int.reduceNeg, and_true, true_and, and_false, false_and, or_true, true_or, or_false, false_or, alloc_e, seen_s, seen_none,  fmp, p10_4, p10_6, p10_9, p10_12, p10_18, p10_20, p10_28, p10_30, p10_40, p10_44, p10_50, p10_57, p10_58, p10_59, p10_60, getV_R, ix_R0, ix_R1, ty_R, len_R, isNon_R, tupOp_R, callOn_R, items_R, consOp_R, R0n, R0d, R1n, R1d, onTup_R, eq_R, ne_R, R_eta, R_0, R_1, R_neg, R_den', R_den1, R_den0, g1, hlen, hr, hc3, hc4, hc5, p3, n3, p5, x3, fdiv3, h4, f1, f2, m3, q5, t1, t2]
    exact ⟨_, rfl⟩
  · obtain ⟨J2, f1, f2⟩ := fin _ _ (rb2 (c3 % 1000000000000000000000000000000) (by omega)) (rb1 (-1 - c5 % 1000000000000000000000000000000) (by omega)) _ M0
    generalize (c :: r).map dC = xs at *
    simp only [List.cons_append, List.nil_append] at f1 f2 hr
    unfold F_law
    simp only [getV_C, ix_C0, ix_C1, C_eta, tupOp_C, callOn_C, consOp_C, ty_C, len_C, onTup_C, eq_C, getV_F, ix_F0, ix_F1, ty_F, len_F, runF_mk, ofO_nx, ofO_rt, ofO_ex, x_non, x_bl, x_int, x_str, x_v, x_k, x_f, x_nil, x_absent, x_cons, x_tup, x_lst, x_bin, x_neg, x_not, x_and, x_or, x_cmp, x_isn, x_notn, x_ix, x_sl, x_call, x_callv, x_bi, x_isi, x_ise, x_me, x_lc, x_rng, x_rev, s_pass, s_seq, s_set, s_setix, s_aug, s_ex, s_ite, s_wh, s_for, s_ret, s_retn, s_brk, s_cnt, s_raise, s_tryN, s_tryA, consOp_t, tupOp_t, lstOp_t, negOp_i, onTup_t, callOn_t, getV_int, getV_bl, getV_str, getV_tup, getV_ref, getV_fn, getV_non, onFn_f, onExc_f, onInt_i, augNx_s, augop_a, augop_s, okOnly_ok, b_add, b_sub, b_mul, b_fdiv, b_mod, b_addt, c_lt, c_le, c_gt, c_ge, c_eq, c_ne, onL_s, onLo_s, onV_s, atV_s, lr_len, lr_list, lr_tuple, ix_t', ix_r', me_app, me_pop, me_rev, sl_r', sl_t', recv_app, recv_pop, recv_popAt, recv_clear, recv_rev, recv_ins, getL_at0, getL_at1, getL_at2, getL_at3, setL_at0, setL_at1, setL_at2, getL_0, getL_1, getL_2, getL_3, getL_4, setL_1, setL_2, setL_3, atI_0, atI_1, atI_2, atI_m1, List.append_assoc, List.length_append, Nat.add_one_ne_zero, bi_abs, bi_lent, bi_max, bi_min, bi_int, bi_intb, bi_listt, bi_tupt, ty_non, ty_bl, ty_int, ty_str, ty_tup, tb1, tb2, tb3, tb4, tb5, tn1, tn2, tn3, tn4, tn5, tn6, isNon_non, isNon_tup, isNon_int, isNon_ref, items_t, items_r, Option.map_some, fw_nil_n, fw_cons_n, fw_nil_s, fw_cons_s, takeS_0, takeS_s, dropS_0, dropS_s, forOn_s, lcOn_s, R.bind_ok, R.bind_exc, R.bind_bad, R.on_ok, R.on_exc, R.on_bad, onBl_bl, ifB_bl, O.then_nx, O.turn_nx, O.turn_ct, O.turn_bk, O.turn_rt, O.turn_ex, O.then_rt, O.then_ex, O.then_bk, O.then_ct, O.then_bad, onPart_int, onPart_abs, List.getElem?_cons_zero, List.getElem?_cons_succ, List.set_cons_zero, List.set_cons_succ, List.length_cons, List.length_nil, List.map_cons, List.map_nil, List.cons_append, List.nil_append, List.replicate_succ, List.replicate_zero, Nat.reduceAdd, Nat.reduceSub, Nat.reduceEqDiff, Nat.reduceLT, Nat.reduceLeDiff, if_true, if_false, ite_true, ite_false, eq_self, eqop_int, neop_int, eqop_bl, neop_bl, Bool.not_true, Bool.not_false, Bool.true_eq_false, Bool.false_eq_true, Bool.or_true, Bool.or_false, Bool.true_or, Bool.false_or, Bool.and_true, Bool.and_false, reduceIte, reduceCtorEq, decide_true, decide_false, decide_eq_true_eq, Bool.not_eq_true', decide_eq_false_iff_not, Nat.zero_le, lim1, lim2, lim3, lim4, lim5, Int.reduceLE, Int.reduceLT, Int.reduceEq, Int.reduceNe, ne_eq, not_false_eq_true, not_true_eq_false, Int.reduceNeg, and_true, true_and, and_false, false_and, or_true, true_or, or_false, false_or, alloc_e, seen_s, seen_none,  fmp, p10_4, p10_6, p10_9, p10_12, p10_18, p10_20, p10_28, p10_30, p10_40, p10_44, p10_50, p10_57, p10_58, p10_59, p10_60, getV_R, ix_R0, ix_R1, ty_R, len_R, isNon_R, tupOp_R, callOn_R, items_R, consOp_R, R0n, R0d, R1n, R1d, onTup_R, eq_R, ne_R, R_eta, R_0, R_1, R_neg, R_den', R_den1, R_den0, g1, hlen, hr, hc3, hc4, hc5, p3, p5, n5, x3, fdiv3, h4, f1, f2, q3, m5, t1, t2]
    exact ⟨_, rfl⟩
  · obtain ⟨J2, f1, f2⟩ := fin _ _ (rb2 (c3 % 1000000000000000000000000000000) (by omega)) (rb1 (c5 % 1000000000000000000000000000000) (by omega)) _ M0
    generalize (c :: r).map dC = xs at *
    simp only [List.cons_append, List.nil_append] at f1 f2 hr
    unfold F_law
    simp only [getV_C, ix_C0, ix_C1, C_eta, tupOp_C, callOn_C, consOp_C, ty_C, len_C, onTup_C, eq_C, getV_F, ix_F0, ix_F1, ty_F, len_F, runF_mk, ofO_nx, ofO_rt, ofO_ex, x_non, x_bl, x_int, x_str, x_v, x_k, x_f, x_nil, x_absent, x_cons, x_tup, x_lst, x_bin, x_neg, x_not, x_and, x_or, x_cmp, x_isn, x_notn, x_ix, x_sl, x_call, x_callv, x_bi, x_isi, x_ise, x_me, x_lc, x_rng, x_rev, s_pass, s_seq, s_set, s_setix, s_aug, s_ex, s_ite, s_wh, s_for, s_ret, s_retn, s_brk, s_cnt, s_raise, s_tryN, s_tryA, consOp_t, tupOp_t, lstOp_t, negOp_i, onTup_t, callOn_t, getV_int, getV_bl, getV_str, getV_tup, getV_ref, getV_fn, getV_non, onFn_f, onExc_f, onInt_i, augNx_s, augop_a, augop_s, okOnly_ok, b_add, b_sub, b_mul, b_fdiv, b_mod, b_addt, c_lt, c_le, c_gt, c_ge, c_eq, c_ne, onL_s, onLo_s, onV_s, atV_s, lr_len, lr_list, lr_tuple, ix_t', ix_r', me_app, me_pop, me_rev, sl_r', sl_t', recv_app, recv_pop, recv_popAt, recv_clear, recv_rev, recv_ins, getL_at0, getL_at1, getL_at2, getL_at3, setL_at0, setL_at1, setL_at2, getL_0, getL_1, getL_2, getL_3, getL_4, setL_1, setL_2, setL_3, atI_0, atI_1, atI_2, atI_m1, List.append_assoc, List.length_append, Nat.add_one_ne_zero, bi_abs, bi_lent, bi_max, bi_min, bi_int, bi_intb, bi_listt, bi_tupt, ty_non, ty_bl, ty_int, ty_str, ty_tup, tb1, tb2, tb3, tb4, tb5, tn1, tn2, tn3, tn4, tn5, tn6, isNon_non, isNon_tup, isNon_int, isNon_ref, items_t, items_r, Option.map_some, fw_nil_n, fw_cons_n, fw_nil_s, fw_cons_s, takeS_0, takeS_s, dropS_0, dropS_s, forOn_s, lcOn_s, R.bind_ok, R.bind_exc, R.bind_bad, R.on_ok, R.on_exc, R.on_bad, onBl_bl, ifB_bl, O.then_nx, O.turn_nx, O.turn_ct, O.turn_bk, O.turn_rt, O.turn_ex, O.then_rt, O.then_ex, O.then_bk, O.then_ct, O.then_bad, onPart_int, onPart_abs, List.getElem?_cons_zero, List.getElem?_cons_succ, List.set_cons_zero, List.set_cons_succ, List.length_cons, List.length_nil, List.map_cons, List.map_nil, List.cons_append, List.nil_append, List.replicate_succ, List.replicate_zero, Nat.reduceAdd, Nat.reduceSub, Nat.reduceEqDiff, Nat.reduceLT, Nat.reduceLeDiff, if_true, if_false, ite_true, ite_false, eq_self, eqop_int, neop_int, eqop_bl, neop_bl, Bool.not_true, Bool.not_false, Bool.true_eq_false, Bool.false_eq_true, Bool.or_true, Bool.or_false, Bool.true_or, Bool.false_or, Bool.and_true, Bool.and_false, reduceIte, reduceCtorEq, decide_true, decide_false, decide_eq_true_eq, Bool.not_eq_true', decide_eq_false_iff_not, Nat.zero_le, lim1, lim2, lim3, lim4, lim5, Int.reduceLE, Int.reduceLT, Int.reduceEq, Int.reduceNe, ne_eq, not_false_eq_true, not_true_eq_false, Int.reduceNeg, and_true, true_and, and_false, false_and, or_true, true_or, or_false, false_or, alloc_e, seen_s, seen_none,  fmp, p10_4, p10_6, p10_9, p10_12, p10_18, p10_20, p10_28, p10_30, p10_40, p10_44, p10_50, p10_57, p10_58, p10_59, p10_60, getV_R, ix_R0, ix_R1, ty_R, len_R, isNon_R, tupOp_R, callOn_R, items_R, consOp_R, R0n, R0d, R1n, R1d, onTup_R, eq_R, ne_R, R_eta, R_0, R_1, R_neg, R_den', R_den1, R_den0, g1, hlen, hr, hc3, hc4, hc5, p3, p5, x3, fdiv3, h4, f1, f2, q3, q5, t1, t2]
    exact ⟨_, rfl⟩
theorem tail1 (L : Hd) (h1 h2 : Nat) (low high way c3 c4 c5 : Int) (e4 : Option D) (c : Cn) (r rs : List Cn) (s wv : Rat) (hL : L.length ≠ 0) (hw : 0 ≤ way ∧ way ≤ 6) (hl : 0 < low ∧ low.natAbs < 2 ^ 110) (hh : 0 < high ∧ high.natAbs < 2 ^ 110) (hc3 : ∀ M, runT T 20 "_law_cell_at" [.ref 0, .int 3] (L ++ M) = .ok (.int c3) (L ++ M)) (hc4 : ∀ M, runT T 20 "_law_cell_at" [.ref 0, .int 4] (L ++ M) = .ok (.int c4) (L ++ M)) (hc5 : ∀ M, runT T 20 "_law_cell_at" [.ref 0, .int 5] (L ++ M) = .ok (.int c5) (L ++ M)) (g1 : getL L h1 = some ((c :: r).map dC)) (g2 : getL L h2 = some (rs.map dC)) (g : Good c r) (sp : Spo way c r rs) (hs : Rb s 500) (hwv : Rb wv 500) (hwv6 : way = 6 → wv < 0) (hwv0 : way ≠ 6 → wv = s) (hn : r.length ≤ 60) (z0 : c.1 = 0) (z1 : ¬ c.2 < 0) (s0 : ¬ s < 0) : ∃ L', ofO (MP.run (runT T 20) (dropS 9 F_law.body) [some (.ref 0), some (.int low), some (.int high), some (.int way), e4, some (.ref h1), some (dR s), some (dR wv), some (.ref h2), none, none, none, none] L) = .ok (.bl true) L' := by
  have cut : MP.run (runT T 20) (dropS 9 F_law.body) [some (.ref 0), some (.int low), some (.int high), some (.int way), e4, some (.ref h1), some (dR s), some (dR wv), some (.ref h2), none, none, none, none] L = (MP.run (runT T 20) (takeS 2 (dropS 9 F_law.body)) [some (.ref 0), some (.int low), some (.int high), some (.int way), e4, some (.ref h1), some (dR s), some (dR wv), some (.ref h2), none, none, none, none] L).then fun ρ L => MP.run (runT T 20) (dropS 11 F_law.body) ρ L := run_cut _ 2 _ _ _
  rw [cut]
  have tl := fun M => tail2 (L ++ M) h1 low high c3 c4 c5 (some (.ref 0)) (some (.int way)) e4 (some (dR wv)) (some (.ref h2)) c r s (by simp [hL]) hl hh (fun M' => by rw [List.append_assoc]; exact hc3 _) (fun M' => by rw [List.append_assoc]; exact hc4 _) (fun M' => by rw [List.append_assoc]; exact hc5 _) (getL_mono g1) g hs hn z0 z1 s0
  generalize dropS 11 F_law.body = Z at tl
  have hz : ∀ x ∈ c :: r, Cz x := fun x hx => ⟨(g.sz x hx).1.mono (by decide), (g.sz x hx).2.mono (by decide)⟩
  have hzr : ∀ x ∈ rs, Cz x := fun x hx => ⟨(sp.sz x hx).1.mono (by decide), (sp.sz x hx).2.mono (by decide)⟩
  have hlen : (rs.map dC).length ≤ LIM := by have := sp.ln; simp; unfold LIM; omega
  have sw : Sz wv := hwv.sz (by decide)
  have t1 : (false == false) = true := rfl
  have t2 : (true == true) = true := rfl
  by_cases h0 : way = 0
  · subst h0
    have e1 := sp.gd (.inl rfl)
    have e2 := hwv0 (by decide)
    subst e2
    rw [e1] at g2 hlen
    obtain ⟨J, hr⟩ := r_refused_good 11 (L ++ [.lst ((c :: r).map dC)]) (.ref L.length) c r wv (by simp) (Sq.ref getL_at0) hz (by omega) g.up g.nd z0 z1 sw s0
    rw [List.append_assoc] at hr
    generalize (c :: r).map dC = xs at *
    simp only [List.cons_append, List.nil_append] at hr
    unfold F_law
    simp only [getV_C, ix_C0, ix_C1, C_eta, tupOp_C, callOn_C, consOp_C, ty_C, len_C, onTup_C, eq_C, getV_F, ix_F0, ix_F1, ty_F, len_F, runF_mk, ofO_nx, ofO_rt, ofO_ex, x_non, x_bl, x_int, x_str, x_v, x_k, x_f, x_nil, x_absent, x_cons, x_tup, x_lst, x_bin, x_neg, x_not, x_and, x_or, x_cmp, x_isn, x_notn, x_ix, x_sl, x_call, x_callv, x_bi, x_isi, x_ise, x_me, x_lc, x_rng, x_rev, s_pass, s_seq, s_set, s_setix, s_aug, s_ex, s_ite, s_wh, s_for, s_ret, s_retn, s_brk, s_cnt, s_raise, s_tryN, s_tryA, consOp_t, tupOp_t, lstOp_t, negOp_i, onTup_t, callOn_t, getV_int, getV_bl, getV_str, getV_tup, getV_ref, getV_fn, getV_non, onFn_f, onExc_f, onInt_i, augNx_s, augop_a, augop_s, okOnly_ok, b_add, b_sub, b_mul, b_fdiv, b_mod, b_addt, c_lt, c_le, c_gt, c_ge, c_eq, c_ne, onL_s, onLo_s, onV_s, atV_s, lr_len, lr_list, lr_tuple, ix_t', ix_r', me_app, me_pop, me_rev, sl_r', sl_t', recv_app, recv_pop, recv_popAt, recv_clear, recv_rev, recv_ins, getL_at0, getL_at1, getL_at2, getL_at3, setL_at0, setL_at1, setL_at2, getL_0, getL_1, getL_2, getL_3, getL_4, setL_1, setL_2, setL_3, atI_0, atI_1, atI_2, atI_m1, List.append_assoc, List.length_append, Nat.add_one_ne_zero, bi_abs, bi_lent, bi_max, bi_min, bi_int, bi_intb, bi_listt, bi_tupt, ty_non, ty_bl, ty_int, ty_str, ty_tup, tb1, tb2, tb3, tb4, tb5, tn1, tn2, tn3, tn4, tn5, tn6, isNon_non, isNon_tup, isNon_int, isNon_ref, items_t, items_r, Option.map_some, fw_nil_n, fw_cons_n, fw_nil_s, fw_cons_s, takeS_0, takeS_s, dropS_0, dropS_s, forOn_s, lcOn_s, R.bind_ok, R.bind_exc, R.bind_bad, R.on_ok, R.on_exc, R.on_bad, onBl_bl, ifB_bl, O.then_nx, O.turn_nx, O.turn_ct, O.turn_bk, O.turn_rt, O.turn_ex, O.then_rt, O.then_ex, O.then_bk, O.then_ct, O.then_bad, onPart_int, onPart_abs, List.getElem?_cons_zero, List.getElem?_cons_succ, List.set_cons_zero, List.set_cons_succ, List.length_cons, List.length_nil, List.map_cons, List.map_nil, List.cons_append, List.nil_append, List.replicate_succ, List.replicate_zero, Nat.reduceAdd, Nat.reduceSub, Nat.reduceEqDiff, Nat.reduceLT, Nat.reduceLeDiff, if_true, if_false, ite_true, ite_false, eq_self, eqop_int, neop_int, eqop_bl, neop_bl, Bool.not_true, Bool.not_false, Bool.true_eq_false, Bool.false_eq_true, Bool.or_true, Bool.or_false, Bool.true_or, Bool.false_or, Bool.and_true, Bool.and_false, reduceIte, reduceCtorEq, decide_true, decide_false, decide_eq_true_eq, Bool.not_eq_true', decide_eq_false_iff_not, Nat.zero_le, lim1, lim2, lim3, lim4, lim5, Int.reduceLE, Int.reduceLT, Int.reduceEq, Int.reduceNe, ne_eq, not_false_eq_true, not_true_eq_false, Int.reduceNeg, and_true, true_and, and_false, false_and, or_true, true_or, or_false, false_or, alloc_e, seen_s, seen_none,  fmp, p10_4, p10_6, p10_9, p10_12, p10_18, p10_20, p10_28, p10_30, p10_40, p10_44, p10_50, p10_57, p10_58, p10_59, p10_60, getV_R, ix_R0, ix_R1, ty_R, len_R, isNon_R, tupOp_R, callOn_R, items_R, consOp_R, R0n, R0d, R1n, R1d, onTup_R, eq_R, ne_R, R_eta, R_0, R_1, R_neg, R_den', R_den1, R_den0, g2, hlen, hr, t1]
    exact tl _
  · have bad : rs = [] ∨ wv < 0 ∨ ∃ c r, rs = c :: r ∧ (c.1 ≠ 0 ∨ c.2 < 0 ∨ ¬ (Ups c r ∧ Nds c r)) := by
      by_cases h6 : way = 6
      · exact .inr (.inl (hwv6 h6))
      · rcases sp.bd (by omega) with h | h
        · exact .inl h
        · exact .inr (.inr h)
    have b1 := r_refused_bad 17 (L ++ [.lst (rs.map dC)]) (.ref L.length) rs wv (Sq.ref getL_at0) hzr (by have := sp.ln; omega) sw bad
    have b2 := r_refany_bad 17 (L ++ [.lst (rs.map dC), .lst (rs.map dC)]) (.ref (L.length + 1)) rs wv (Sq.ref getL_at1) hzr (by have := sp.ln; omega) sw bad
    have gm : ∀ M, getL (L ++ M) h2 = some (rs.map dC) := fun M => getL_mono g2
    generalize rs.map dC = xs at *
    unfold F_law
    simp only [getV_C, ix_C0, ix_C1, C_eta, tupOp_C, callOn_C, consOp_C, ty_C, len_C, onTup_C, eq_C, getV_F, ix_F0, ix_F1, ty_F, len_F, runF_mk, ofO_nx, ofO_rt, ofO_ex, x_non, x_bl, x_int, x_str, x_v, x_k, x_f, x_nil, x_absent, x_cons, x_tup, x_lst, x_bin, x_neg, x_not, x_and, x_or, x_cmp, x_isn, x_notn, x_ix, x_sl, x_call, x_callv, x_bi, x_isi, x_ise, x_me, x_lc, x_rng, x_rev, s_pass, s_seq, s_set, s_setix, s_aug, s_ex, s_ite, s_wh, s_for, s_ret, s_retn, s_brk, s_cnt, s_raise, s_tryN, s_tryA, consOp_t, tupOp_t, lstOp_t, negOp_i, onTup_t, callOn_t, getV_int, getV_bl, getV_str, getV_tup, getV_ref, getV_fn, getV_non, onFn_f, onExc_f, onInt_i, augNx_s, augop_a, augop_s, okOnly_ok, b_add, b_sub, b_mul, b_fdiv, b_mod, b_addt, c_lt, c_le, c_gt, c_ge, c_eq, c_ne, onL_s, onLo_s, onV_s, atV_s, lr_len, lr_list, lr_tuple, ix_t', ix_r', me_app, me_pop, me_rev, sl_r', sl_t', recv_app, recv_pop, recv_popAt, recv_clear, recv_rev, recv_ins, getL_at0, getL_at1, getL_at2, getL_at3, setL_at0, setL_at1, setL_at2, getL_0, getL_1, getL_2, getL_3, getL_4, setL_1, setL_2, setL_3, atI_0, atI_1, atI_2, atI_m1, List.append_assoc, List.length_append, Nat.add_one_ne_zero, bi_abs, bi_lent, bi_max, bi_min, bi_int, bi_intb, bi_listt, bi_tupt, ty_non, ty_bl, ty_int, ty_str, ty_tup, tb1, tb2, tb3, tb4, tb5, tn1, tn2, tn3, tn4, tn5, tn6, isNon_non, isNon_tup, isNon_int, isNon_ref, items_t, items_r, Option.map_some, fw_nil_n, fw_cons_n, fw_nil_s, fw_cons_s, takeS_0, takeS_s, dropS_0, dropS_s, forOn_s, lcOn_s, R.bind_ok, R.bind_exc, R.bind_bad, R.on_ok, R.on_exc, R.on_bad, onBl_bl, ifB_bl, O.then_nx, O.turn_nx, O.turn_ct, O.turn_bk, O.turn_rt, O.turn_ex, O.then_rt, O.then_ex, O.then_bk, O.then_ct, O.then_bad, onPart_int, onPart_abs, List.getElem?_cons_zero, List.getElem?_cons_succ, List.set_cons_zero, List.set_cons_succ, List.length_cons, List.length_nil, List.map_cons, List.map_nil, List.cons_append, List.nil_append, List.replicate_succ, List.replicate_zero, Nat.reduceAdd, Nat.reduceSub, Nat.reduceEqDiff, Nat.reduceLT, Nat.reduceLeDiff, if_true, if_false, ite_true, ite_false, eq_self, eqop_int, neop_int, eqop_bl, neop_bl, Bool.not_true, Bool.not_false, Bool.true_eq_false, Bool.false_eq_true, Bool.or_true, Bool.or_false, Bool.true_or, Bool.false_or, Bool.and_true, Bool.and_false, reduceIte, reduceCtorEq, decide_true, decide_false, decide_eq_true_eq, Bool.not_eq_true', decide_eq_false_iff_not, Nat.zero_le, lim1, lim2, lim3, lim4, lim5, Int.reduceLE, Int.reduceLT, Int.reduceEq, Int.reduceNe, ne_eq, not_false_eq_true, not_true_eq_false, Int.reduceNeg, and_true, true_and, and_false, false_and, or_true, true_or, or_false, false_or, alloc_e, seen_s, seen_none,  fmp, p10_4, p10_6, p10_9, p10_12, p10_18, p10_20, p10_28, p10_30, p10_40, p10_44, p10_50, p10_57, p10_58, p10_59, p10_60, getV_R, ix_R0, ix_R1, ty_R, len_R, isNon_R, tupOp_R, callOn_R, items_R, consOp_R, R0n, R0d, R1n, R1d, onTup_R, eq_R, ne_R, R_eta, R_0, R_1, R_neg, R_den', R_den1, R_den0, g2, gm, hlen, b1, b2, h0, t2]
    exact tl _
theorem main (ns : List Int) (h : ns.length ≤ 63) : ∃ L', runT T (20 + 1) "law" [.ref 0] [.lst (ns.map D.int)] = .ok (.bl true) L' := by
  rw [runT_succ T_law, runF_cut 9 rfl]
  have tl := tail1
  generalize dropS 9 F_law.body = Z at tl
  obtain ⟨low, hlow⟩ : ∃ low, low = 1 + cell ns 0 % 10000000000000000000000000000 := ⟨_, rfl⟩
  obtain ⟨high, hhigh⟩ : ∃ high, high = 1 + cell ns 1 % 10000000000000000000000000000 := ⟨_, rfl⟩
  obtain ⟨way, hway⟩ : ∃ way, way = cell ns 2 % 7 := ⟨_, rfl⟩
  obtain ⟨start, hstart⟩ : ∃ start, start = cell ns 3 % 10000000000000000000000000000 := ⟨_, rfl⟩
  have hl : 0 < low ∧ low.natAbs < 2 ^ 110 := by omega
  have hh : 0 < high ∧ high.natAbs < 2 ^ 110 := by omega
  have hw : 0 ≤ way ∧ way ≤ 6 := by omega
  obtain ⟨ms, m, J, hm1, hm2, hm3, hm4⟩ := r_many_cells 19 ns [] 7 (cell ns 6) h
  obtain ⟨L1, hL1⟩ : ∃ L1, L1 = SC ns [] ++ J := ⟨_, rfl⟩
  have hcell : ∀ k, 0 ≤ k → ∀ M, runT T 20 "_law_cell_at" [.ref 0, .int k] (L1 ++ M) = .ok (.int (cell ns k)) (L1 ++ M) := fun k hk M => by
    rw [hL1, List.append_assoc]
    exact r_cell_at 19 ns k _ hk
  have hcell0 : ∀ k, 0 ≤ k → runT T 20 "_law_cell_at" [.ref 0, .int k] L1 = .ok (.int (cell ns k)) L1 := fun k hk => by
    have := hcell k hk []
    rwa [List.append_nil] at this
  have ll1 : L1.length ≠ 0 := by rw [hL1]; simp
  rw [← hL1] at hm1 hm2
  obtain ⟨c, r, hc1, g, c0, c1, hr⟩ := r_corners_by 18 L1 m ms start low high ll1 hm2 hm4 hl hh (by omega)
  obtain ⟨s, hs1, hs2, hs3⟩ := r_last_by 18 (L1 ++ [.lst ((c :: r).map dC)]) L1.length c r (cell ns 4) (1 + low) getL_at0 g
  obtain ⟨rs, hsp, sp⟩ := r_spoiled 18 (L1 ++ [.lst ((c :: r).map dC)]) L1.length c r way (cell ns 5) (by simp) getL_at0 g hr hw
  have wb : (-1 - cell ns 5 % 1000000000000000000000000000000).natAbs < 2 ^ 110 := by omega
  have hwl := fun M => r_lowest 19 (-1 - cell ns 5 % 1000000000000000000000000000000) low M hl.1 (up_lt wb (le_big (by decide))) (up_lt hl.2 (le_big (by decide)))
  have tl2 := fun wv hwv h6 h0 => tl (L1 ++ [.lst ((c :: r).map dC)] ++ [.lst (rs.map dC)]) L1.length (L1.length + 1) low high way (cell ns 3) (cell ns 4) (cell ns 5) (some (.ref m)) c r rs s wv (by simp) hw hl hh (fun M => by rw [List.append_assoc, List.append_assoc]; exact hcell 3 (by decide) _) (fun M => by rw [List.append_assoc, List.append_assoc]; exact hcell 4 (by decide) _) (fun M => by rw [List.append_assoc, List.append_assoc]; exact hcell 5 (by decide) _) (by rw [List.append_assoc]; exact getL_at0) (by rw [List.append_assoc]; exact getL_at1) g sp hs2 hwv h6 h0 hr c0 c1 hs3
  generalize (c :: r).map dC = xs at *
  generalize rs.map dC = ys at *
  simp only [List.append_assoc, List.cons_append, List.nil_append, List.length_append, List.length_cons, List.length_nil, Nat.reduceAdd] at hsp tl2 hs1 hc1
  unfold F_law
  by_cases h6 : way = 6
  · have t := tl2 _ ((Rb.div wb hl.2 (by omega)).mono (by decide)) (fun _ => low_neg hl.1 (by omega)) (fun h => absurd h6 h)
    rw [h6] at hsp t hway
    simp only [getV_C, ix_C0, ix_C1, C_eta, tupOp_C, callOn_C, consOp_C, ty_C, len_C, onTup_C, eq_C, getV_F, ix_F0, ix_F1, ty_F, len_F, runF_mk, ofO_nx, ofO_rt, ofO_ex, x_non, x_bl, x_int, x_str, x_v, x_k, x_f, x_nil, x_absent, x_cons, x_tup, x_lst, x_bin, x_neg, x_not, x_and, x_or, x_cmp, x_isn, x_notn, x_ix, x_sl, x_call, x_callv, x_bi, x_isi, x_ise, x_me, x_lc, x_rng, x_rev, s_pass, s_seq, s_set, s_setix, s_aug, s_ex, s_ite, s_wh, s_for, s_ret, s_retn, s_brk, s_cnt, s_raise, s_tryN, s_tryA, consOp_t, tupOp_t, lstOp_t, negOp_i, onTup_t, callOn_t, getV_int, getV_bl, getV_str, getV_tup, getV_ref, getV_fn, getV_non, onFn_f, onExc_f, onInt_i, augNx_s, augop_a, augop_s, okOnly_ok, b_add, b_sub, b_mul, b_fdiv, b_mod, b_addt, c_lt, c_le, c_gt, c_ge, c_eq, c_ne, onL_s, onLo_s, onV_s, atV_s, lr_len, lr_list, lr_tuple, ix_t', ix_r', me_app, me_pop, me_rev, sl_r', sl_t', recv_app, recv_pop, recv_popAt, recv_clear, recv_rev, recv_ins, getL_at0, getL_at1, getL_at2, getL_at3, setL_at0, setL_at1, setL_at2, getL_0, getL_1, getL_2, getL_3, getL_4, setL_1, setL_2, setL_3, atI_0, atI_1, atI_2, atI_m1, List.append_assoc, List.length_append, Nat.add_one_ne_zero, bi_abs, bi_lent, bi_max, bi_min, bi_int, bi_intb, bi_listt, bi_tupt, ty_non, ty_bl, ty_int, ty_str, ty_tup, tb1, tb2, tb3, tb4, tb5, tn1, tn2, tn3, tn4, tn5, tn6, isNon_non, isNon_tup, isNon_int, isNon_ref, items_t, items_r, Option.map_some, fw_nil_n, fw_cons_n, fw_nil_s, fw_cons_s, takeS_0, takeS_s, dropS_0, dropS_s, forOn_s, lcOn_s, R.bind_ok, R.bind_exc, R.bind_bad, R.on_ok, R.on_exc, R.on_bad, onBl_bl, ifB_bl, O.then_nx, O.turn_nx, O.turn_ct, O.turn_bk, O.turn_rt, O.turn_ex, O.then_rt, O.then_ex, O.then_bk, O.then_ct, O.then_bad, onPart_int, onPart_abs, List.getElem?_cons_zero, List.getElem?_cons_succ, List.set_cons_zero, List.set_cons_succ, List.length_cons, List.length_nil, List.map_cons, List.map_nil, List.cons_append, List.nil_append, List.replicate_succ, List.replicate_zero, Nat.reduceAdd, Nat.reduceSub, Nat.reduceEqDiff, Nat.reduceLT, Nat.reduceLeDiff, if_true, if_false, ite_true, ite_false, eq_self, eqop_int, neop_int, eqop_bl, neop_bl, Bool.not_true, Bool.not_false, Bool.true_eq_false, Bool.false_eq_true, Bool.or_true, Bool.or_false, Bool.true_or, Bool.false_or, Bool.and_true, Bool.and_false, reduceIte, reduceCtorEq, decide_true, decide_false, decide_eq_true_eq, Bool.not_eq_true', decide_eq_false_iff_not, Nat.zero_le, lim1, lim2, lim3, lim4, lim5, Int.reduceLE, Int.reduceLT, Int.reduceEq, Int.reduceNe, ne_eq, not_false_eq_true, not_true_eq_false, Int.reduceNeg, and_true, true_and, and_false, false_and, or_true, true_or, or_false, false_or, alloc_e, seen_s, seen_none,  fmp, p10_4, p10_6, p10_9, p10_12, p10_18, p10_20, p10_28, p10_30, p10_40, p10_44, p10_50, p10_57, p10_58, p10_59, p10_60, getV_R, ix_R0, ix_R1, ty_R, len_R, isNon_R, tupOp_R, callOn_R, items_R, consOp_R, R0n, R0d, R1n, R1d, onTup_R, eq_R, ne_R, R_eta, R_0, R_1, R_neg, R_den', R_den1, R_den0, r_cell_at, hcell, hcell0, ← hlow, ← hhigh, ← hway, ← hstart, hm1, hc1, hs1, hwl, hsp]
    exact t
  · have t := tl2 s hs2 (fun h => absurd h h6) (fun _ => rfl)
    simp only [getV_C, ix_C0, ix_C1, C_eta, tupOp_C, callOn_C, consOp_C, ty_C, len_C, onTup_C, eq_C, getV_F, ix_F0, ix_F1, ty_F, len_F, runF_mk, ofO_nx, ofO_rt, ofO_ex, x_non, x_bl, x_int, x_str, x_v, x_k, x_f, x_nil, x_absent, x_cons, x_tup, x_lst, x_bin, x_neg, x_not, x_and, x_or, x_cmp, x_isn, x_notn, x_ix, x_sl, x_call, x_callv, x_bi, x_isi, x_ise, x_me, x_lc, x_rng, x_rev, s_pass, s_seq, s_set, s_setix, s_aug, s_ex, s_ite, s_wh, s_for, s_ret, s_retn, s_brk, s_cnt, s_raise, s_tryN, s_tryA, consOp_t, tupOp_t, lstOp_t, negOp_i, onTup_t, callOn_t, getV_int, getV_bl, getV_str, getV_tup, getV_ref, getV_fn, getV_non, onFn_f, onExc_f, onInt_i, augNx_s, augop_a, augop_s, okOnly_ok, b_add, b_sub, b_mul, b_fdiv, b_mod, b_addt, c_lt, c_le, c_gt, c_ge, c_eq, c_ne, onL_s, onLo_s, onV_s, atV_s, lr_len, lr_list, lr_tuple, ix_t', ix_r', me_app, me_pop, me_rev, sl_r', sl_t', recv_app, recv_pop, recv_popAt, recv_clear, recv_rev, recv_ins, getL_at0, getL_at1, getL_at2, getL_at3, setL_at0, setL_at1, setL_at2, getL_0, getL_1, getL_2, getL_3, getL_4, setL_1, setL_2, setL_3, atI_0, atI_1, atI_2, atI_m1, List.append_assoc, List.length_append, Nat.add_one_ne_zero, bi_abs, bi_lent, bi_max, bi_min, bi_int, bi_intb, bi_listt, bi_tupt, ty_non, ty_bl, ty_int, ty_str, ty_tup, tb1, tb2, tb3, tb4, tb5, tn1, tn2, tn3, tn4, tn5, tn6, isNon_non, isNon_tup, isNon_int, isNon_ref, items_t, items_r, Option.map_some, fw_nil_n, fw_cons_n, fw_nil_s, fw_cons_s, takeS_0, takeS_s, dropS_0, dropS_s, forOn_s, lcOn_s, R.bind_ok, R.bind_exc, R.bind_bad, R.on_ok, R.on_exc, R.on_bad, onBl_bl, ifB_bl, O.then_nx, O.turn_nx, O.turn_ct, O.turn_bk, O.turn_rt, O.turn_ex, O.then_rt, O.then_ex, O.then_bk, O.then_ct, O.then_bad, onPart_int, onPart_abs, List.getElem?_cons_zero, List.getElem?_cons_succ, List.set_cons_zero, List.set_cons_succ, List.length_cons, List.length_nil, List.map_cons, List.map_nil, List.cons_append, List.nil_append, List.replicate_succ, List.replicate_zero, Nat.reduceAdd, Nat.reduceSub, Nat.reduceEqDiff, Nat.reduceLT, Nat.reduceLeDiff, if_true, if_false, ite_true, ite_false, eq_self, eqop_int, neop_int, eqop_bl, neop_bl, Bool.not_true, Bool.not_false, Bool.true_eq_false, Bool.false_eq_true, Bool.or_true, Bool.or_false, Bool.true_or, Bool.false_or, Bool.and_true, Bool.and_false, reduceIte, reduceCtorEq, decide_true, decide_false, decide_eq_true_eq, Bool.not_eq_true', decide_eq_false_iff_not, Nat.zero_le, lim1, lim2, lim3, lim4, lim5, Int.reduceLE, Int.reduceLT, Int.reduceEq, Int.reduceNe, ne_eq, not_false_eq_true, not_true_eq_false, Int.reduceNeg, and_true, true_and, and_false, false_and, or_true, true_or, or_false, false_or, alloc_e, seen_s, seen_none,  fmp, p10_4, p10_6, p10_9, p10_12, p10_18, p10_20, p10_28, p10_30, p10_40, p10_44, p10_50, p10_57, p10_58, p10_59, p10_60, getV_R, ix_R0, ix_R1, ty_R, len_R, isNon_R, tupOp_R, callOn_R, items_R, consOp_R, R0n, R0d, R1n, R1d, onTup_R, eq_R, ne_R, R_eta, R_0, R_1, R_neg, R_den', R_den1, R_den0, r_cell_at, hcell, hcell0, ← hlow, ← hhigh, ← hway, ← hstart, hm1, hc1, hs1, h6, hsp]
    exact t
end Q

namespace Q
open PySem PySem.Spec PyProof.Rows L2 MP
def topS (i : Nat) : Stmt := PySem.Challenge.pw_curvehouse_k07_no_curve.main.body.getD i (.Pass ⟨0, 0, 0, 0⟩)
def ct : CT := { fns := ["is_whole", "divisor", "ratio", "minus", "over", "under", "slope_between", "slopes_of", "folded", "made", "curve", "heap", "late", "_law_cell_at", "_law_lowest", "_law_minus", "_law_corners_by", "_law_last_by", "_law_many_cells", "_law_spoiled", "_law_refused", "_law_refused_by_any", "_law_heap_refused", "_law_late_refused", "law"], cst := [("NOUGHT", (.tup (.cons (.int 0) (.cons (.int 1) .nil))))], cls := ["CurveError", "NoRatio", "NoCurve", "NoTime", "NoHouse", "NoWay", "NoText", "NoName", "NoEnd", "NoRow"], bt := ["abs", "len", "max", "int", "list", "tuple", "isinstance", "bool", "range", "ValueError"], rs := ["NoRatio", "NoCurve"] }
theorem sc_is_whole : FnScope ["thing"] ["thing"] (defScope (topS 12)) := ⟨rfl, rfl, rfl, by decide +kernel, rfl, by decide +kernel, by decide +kernel⟩
theorem bd_is_whole : F_is_whole.body = compB (compS ct ["thing"] false DEPTH (defScope (topS 12))) (defBody (topS 12)) := by decide +kernel
theorem sc_divisor : FnScope ["one", "other", "rest"] ["one", "other"] (defScope (topS 13)) := ⟨rfl, rfl, rfl, by decide +kernel, rfl, by decide +kernel, by decide +kernel⟩
theorem bd_divisor : F_divisor.body = compB (compS ct ["one", "other", "rest"] false DEPTH (defScope (topS 13))) (defBody (topS 13)) := by decide +kernel
theorem sc_ratio : FnScope ["top", "bottom", "many"] ["top", "bottom"] (defScope (topS 16)) := ⟨rfl, rfl, rfl, by decide +kernel, rfl, by decide +kernel, by decide +kernel⟩
theorem bd_ratio : F_ratio.body = compB (compS ct ["top", "bottom", "many"] false DEPTH (defScope (topS 16))) (defBody (topS 16)) := by decide +kernel
theorem sc_minus : FnScope ["one", "other"] ["one", "other"] (defScope (topS 17)) := ⟨rfl, rfl, rfl, by decide +kernel, rfl, by decide +kernel, by decide +kernel⟩
theorem bd_minus : F_minus.body = compB (compS ct ["one", "other"] false DEPTH (defScope (topS 17))) (defBody (topS 17)) := by decide +kernel
theorem sc_over : FnScope ["one", "other"] ["one", "other"] (defScope (topS 18)) := ⟨rfl, rfl, rfl, by decide +kernel, rfl, by decide +kernel, by decide +kernel⟩
theorem bd_over : F_over.body = compB (compS ct ["one", "other"] false DEPTH (defScope (topS 18))) (defBody (topS 18)) := by decide +kernel
theorem sc_under : FnScope ["one", "other"] ["one", "other"] (defScope (topS 19)) := ⟨rfl, rfl, rfl, by decide +kernel, rfl, by decide +kernel, by decide +kernel⟩
theorem bd_under : F_under.body = compB (compS ct ["one", "other"] false DEPTH (defScope (topS 19))) (defBody (topS 19)) := by decide +kernel
theorem sc_slope_between : FnScope ["one", "other"] ["one", "other"] (defScope (topS 21)) := ⟨rfl, rfl, rfl, by decide +kernel, rfl, by decide +kernel, by decide +kernel⟩
theorem bd_slope_between : F_slope_between.body = compB (compS ct ["one", "other"] false DEPTH (defScope (topS 21))) (defBody (topS 21)) := by decide +kernel
theorem sc_slopes_of : FnScope ["corners", "last", "slopes", "k"] ["corners", "last"] (defScope (topS 22)) := ⟨rfl, rfl, rfl, by decide +kernel, rfl, by decide +kernel, by decide +kernel⟩
theorem bd_slopes_of : F_slopes_of.body = compB (compS ct ["corners", "last", "slopes", "k"] false DEPTH (defScope (topS 22))) (defBody (topS 22)) := by decide +kernel
theorem sc_folded : FnScope ["corners", "last", "slopes", "kept", "k"] ["corners", "last"] (defScope (topS 23)) := ⟨rfl, rfl, rfl, by decide +kernel, rfl, by decide +kernel, by decide +kernel⟩
theorem bd_folded : F_folded.body = compB (compS ct ["corners", "last", "slopes", "kept", "k"] false DEPTH (defScope (topS 23))) (defBody (topS 23)) := by decide +kernel
theorem sc_made : FnScope ["corners", "last"] ["corners", "last"] (defScope (topS 24)) := ⟨rfl, rfl, rfl, by decide +kernel, rfl, by decide +kernel, by decide +kernel⟩
theorem bd_made : F_made.body = compB (compS ct ["corners", "last"] false DEPTH (defScope (topS 24))) (defBody (topS 24)) := by decide +kernel
theorem sc_curve : FnScope ["corners", "last", "k"] ["corners", "last"] (defScope (topS 25)) := ⟨rfl, rfl, rfl, by decide +kernel, rfl, by decide +kernel, by decide +kernel⟩
theorem bd_curve : F_curve.body = compB (compS ct ["corners", "last", "k"] false DEPTH (defScope (topS 25))) (defBody (topS 25)) := by decide +kernel
theorem sc_heap : FnScope ["value", "slope"] ["value", "slope"] (defScope (topS 26)) := ⟨rfl, rfl, rfl, by decide +kernel, rfl, by decide +kernel, by decide +kernel⟩
theorem bd_heap : F_heap.body = compB (compS ct ["value", "slope"] false DEPTH (defScope (topS 26))) (defBody (topS 26)) := by decide +kernel
theorem sc_late : FnScope ["time", "slope"] ["time", "slope"] (defScope (topS 27)) := ⟨rfl, rfl, rfl, by decide +kernel, rfl, by decide +kernel, by decide +kernel⟩
theorem bd_late : F_late.body = compB (compS ct ["time", "slope"] false DEPTH (defScope (topS 27))) (defBody (topS 27)) := by decide +kernel
theorem sc__law_cell_at : FnScope ["_law_script", "_law_k"] ["_law_script", "_law_k"] (defScope (topS 29)) := ⟨rfl, rfl, rfl, by decide +kernel, rfl, by decide +kernel, by decide +kernel⟩
theorem bd__law_cell_at : F__law_cell_at.body = compB (compS ct ["_law_script", "_law_k"] false DEPTH (defScope (topS 29))) (defBody (topS 29)) := by decide +kernel
theorem sc__law_lowest : FnScope ["_law_top", "_law_bottom", "_law_one", "_law_other", "_law_rest"] ["_law_top", "_law_bottom"] (defScope (topS 30)) := ⟨rfl, rfl, rfl, by decide +kernel, rfl, by decide +kernel, by decide +kernel⟩
theorem bd__law_lowest : F__law_lowest.body = compB (compS ct ["_law_top", "_law_bottom", "_law_one", "_law_other", "_law_rest"] false DEPTH (defScope (topS 30))) (defBody (topS 30)) := by decide +kernel
theorem sc__law_minus : FnScope ["_law_one", "_law_other"] ["_law_one", "_law_other"] (defScope (topS 31)) := ⟨rfl, rfl, rfl, by decide +kernel, rfl, by decide +kernel, by decide +kernel⟩
theorem bd__law_minus : F__law_minus.body = compB (compS ct ["_law_one", "_law_other"] false DEPTH (defScope (topS 31))) (defBody (topS 31)) := by decide +kernel
theorem sc__law_corners_by : FnScope ["_law_cells", "_law_start", "_law_low", "_law_high", "_law_at", "_law_value", "_law_gap", "_law_rise", "_law_corners", "_law_k", "_law_kind"] ["_law_cells", "_law_start", "_law_low", "_law_high"] (defScope (topS 32)) := ⟨rfl, rfl, rfl, by decide +kernel, rfl, by decide +kernel, by decide +kernel⟩
theorem bd__law_corners_by : F__law_corners_by.body = compB (compS ct ["_law_cells", "_law_start", "_law_low", "_law_high", "_law_at", "_law_value", "_law_gap", "_law_rise", "_law_corners", "_law_k", "_law_kind"] false DEPTH (defScope (topS 32))) (defBody (topS 32)) := by decide +kernel
theorem sc__law_last_by : FnScope ["_law_cell", "_law_other", "_law_corners", "_law_rise", "_law_span"] ["_law_cell", "_law_other", "_law_corners"] (defScope (topS 33)) := ⟨rfl, rfl, rfl, by decide +kernel, rfl, by decide +kernel, by decide +kernel⟩
theorem bd__law_last_by : F__law_last_by.body = compB (compS ct ["_law_cell", "_law_other", "_law_corners", "_law_rise", "_law_span"] false DEPTH (defScope (topS 33))) (defBody (topS 33)) := by decide +kernel
theorem sc__law_many_cells : FnScope ["_law_script", "_law_begin", "_law_seed", "_law_many", "_law_k"] ["_law_script", "_law_begin", "_law_seed"] (defScope (topS 34)) := ⟨rfl, rfl, rfl, by decide +kernel, rfl, by decide +kernel, by decide +kernel⟩
theorem bd__law_many_cells : F__law_many_cells.body = compB (compS ct ["_law_script", "_law_begin", "_law_seed", "_law_many", "_law_k"] false DEPTH (defScope (topS 34))) (defBody (topS 34)) := by decide +kernel
theorem sc__law_spoiled : FnScope ["_law_corners", "_law_way", "_law_cell", "_law_rows", "_law_off", "_law_k", "_law_ahead", "_law_less"] ["_law_corners", "_law_way", "_law_cell"] (defScope (topS 35)) := ⟨rfl, rfl, rfl, by decide +kernel, rfl, by decide +kernel, by decide +kernel⟩
theorem bd__law_spoiled : F__law_spoiled.body = compB (compS ct ["_law_corners", "_law_way", "_law_cell", "_law_rows", "_law_off", "_law_k", "_law_ahead", "_law_less"] false DEPTH (defScope (topS 35))) (defBody (topS 35)) := by decide +kernel
theorem sc__law_refused : FnScope ["_law_corners", "_law_last"] ["_law_corners", "_law_last"] (defScope (topS 36)) := ⟨rfl, rfl, rfl, by decide +kernel, rfl, by decide +kernel, by decide +kernel⟩
theorem bd__law_refused : F__law_refused.body = compB (compS ct ["_law_corners", "_law_last"] false DEPTH (defScope (topS 36))) (defBody (topS 36)) := by decide +kernel
theorem sc__law_refused_by_any : FnScope ["_law_corners", "_law_last", "e"] ["_law_corners", "_law_last"] (defScope (topS 37)) := ⟨rfl, rfl, rfl, by decide +kernel, rfl, by decide +kernel, by decide +kernel⟩
theorem bd__law_refused_by_any : F__law_refused_by_any.body = compB (compS ct ["_law_corners", "_law_last", "e"] false DEPTH (defScope (topS 37))) (defBody (topS 37)) := by decide +kernel
theorem sc__law_heap_refused : FnScope ["_law_value", "_law_slope"] ["_law_value", "_law_slope"] (defScope (topS 38)) := ⟨rfl, rfl, rfl, by decide +kernel, rfl, by decide +kernel, by decide +kernel⟩
theorem bd__law_heap_refused : F__law_heap_refused.body = compB (compS ct ["_law_value", "_law_slope"] false DEPTH (defScope (topS 38))) (defBody (topS 38)) := by decide +kernel
theorem sc__law_late_refused : FnScope ["_law_time", "_law_slope"] ["_law_time", "_law_slope"] (defScope (topS 39)) := ⟨rfl, rfl, rfl, by decide +kernel, rfl, by decide +kernel, by decide +kernel⟩
theorem bd__law_late_refused : F__law_late_refused.body = compB (compS ct ["_law_time", "_law_slope"] false DEPTH (defScope (topS 39))) (defBody (topS 39)) := by decide +kernel
theorem sc_law : FnScope ["_law_script", "_law_low", "_law_high", "_law_way", "_law_cells", "_law_corners", "_law_last", "_law_wrong", "_law_rows", "_law_one", "_law_other", "_law_side", "_law_bad"] ["_law_script"] (defScope (topS 40)) := ⟨rfl, rfl, rfl, by decide +kernel, rfl, by decide +kernel, by decide +kernel⟩
theorem bd_law : F_law.body = compB (compS ct ["_law_script", "_law_low", "_law_high", "_law_way", "_law_cells", "_law_corners", "_law_last", "_law_wrong", "_law_rows", "_law_one", "_law_other", "_law_side", "_law_bad"] false DEPTH (defScope (topS 40))) (defBody (topS 40)) := by decide +kernel
theorem prog {K : PySem.W.Frag}
    (d_is_whole : DefK ct K T "is_whole")
    (d_divisor : DefK ct K T "divisor")
    (d_ratio : DefK ct K T "ratio")
    (d_minus : DefK ct K T "minus")
    (d_over : DefK ct K T "over")
    (d_under : DefK ct K T "under")
    (d_slope_between : DefK ct K T "slope_between")
    (d_slopes_of : DefK ct K T "slopes_of")
    (d_folded : DefK ct K T "folded")
    (d_made : DefK ct K T "made")
    (d_curve : DefK ct K T "curve")
    (d_heap : DefK ct K T "heap")
    (d_late : DefK ct K T "late")
    (d__law_cell_at : DefK ct K T "_law_cell_at")
    (d__law_lowest : DefK ct K T "_law_lowest")
    (d__law_minus : DefK ct K T "_law_minus")
    (d__law_corners_by : DefK ct K T "_law_corners_by")
    (d__law_last_by : DefK ct K T "_law_last_by")
    (d__law_many_cells : DefK ct K T "_law_many_cells")
    (d__law_spoiled : DefK ct K T "_law_spoiled")
    (d__law_refused : DefK ct K T "_law_refused")
    (d__law_refused_by_any : DefK ct K T "_law_refused_by_any")
    (d__law_heap_refused : DefK ct K T "_law_heap_refused")
    (d__law_late_refused : DefK ct K T "_law_late_refused")
    (d_law : DefK ct K T "law")
    (c_NOUGHT : CoK ct K (faOf ct K) "NOUGHT" (.tup (.cons (.int 0) (.cons (.int 1) .nil))))
    (b_abs : PySem.W.nsIn K mainGlobals "abs" = some none)
    (b_len : PySem.W.nsIn K mainGlobals "len" = some none)
    (b_max : PySem.W.nsIn K mainGlobals "max" = some none)
    (b_int : PySem.W.nsIn K mainGlobals "int" = some none)
    (b_list : PySem.W.nsIn K mainGlobals "list" = some none)
    (b_tuple : PySem.W.nsIn K mainGlobals "tuple" = some none)
    (b_isinstance : PySem.W.nsIn K mainGlobals "isinstance" = some none)
    (b_bool : PySem.W.nsIn K mainGlobals "bool" = some none)
    (b_range : PySem.W.nsIn K mainGlobals "range" = some none)
    (b_ValueError : PySem.W.nsIn K mainGlobals "ValueError" = some none)
    (l_CurveError : ∃ C, PySem.W.nsIn K mainGlobals "CurveError" = some (some (.ref C)))
    (l_NoRatio : ∃ C, PySem.W.nsIn K mainGlobals "NoRatio" = some (some (.ref C)))
    (l_NoCurve : ∃ C, PySem.W.nsIn K mainGlobals "NoCurve" = some (some (.ref C)))
    (l_NoTime : ∃ C, PySem.W.nsIn K mainGlobals "NoTime" = some (some (.ref C)))
    (l_NoHouse : ∃ C, PySem.W.nsIn K mainGlobals "NoHouse" = some (some (.ref C)))
    (l_NoWay : ∃ C, PySem.W.nsIn K mainGlobals "NoWay" = some (some (.ref C)))
    (l_NoText : ∃ C, PySem.W.nsIn K mainGlobals "NoText" = some (some (.ref C)))
    (l_NoName : ∃ C, PySem.W.nsIn K mainGlobals "NoName" = some (some (.ref C)))
    (l_NoEnd : ∃ C, PySem.W.nsIn K mainGlobals "NoEnd" = some (some (.ref C)))
    (l_NoRow : ∃ C, PySem.W.nsIn K mainGlobals "NoRow" = some (some (.ref C)))
    (r_NoRatio : ∃ C, RsK K "NoRatio" C)
    (r_NoCurve : ∃ C, RsK K "NoCurve" C)
    (k_NoRatio_CurveError : ∃ C u, PySem.W.nsIn K mainGlobals "NoRatio" = some (some (.ref C)) ∧ clsK K "CurveError" = some u ∧ PySem.W.kitOne K (.ref C) u = some (isSub "NoRatio" "CurveError") ∧ PySem.W.exmOne K (.ref C) u = some (isSub "NoRatio" "CurveError"))
    (k_NoRatio_NoRatio : ∃ C u, PySem.W.nsIn K mainGlobals "NoRatio" = some (some (.ref C)) ∧ clsK K "NoRatio" = some u ∧ PySem.W.kitOne K (.ref C) u = some (isSub "NoRatio" "NoRatio") ∧ PySem.W.exmOne K (.ref C) u = some (isSub "NoRatio" "NoRatio"))
    (k_NoRatio_NoCurve : ∃ C u, PySem.W.nsIn K mainGlobals "NoRatio" = some (some (.ref C)) ∧ clsK K "NoCurve" = some u ∧ PySem.W.kitOne K (.ref C) u = some (isSub "NoRatio" "NoCurve") ∧ PySem.W.exmOne K (.ref C) u = some (isSub "NoRatio" "NoCurve"))
    (k_NoRatio_NoTime : ∃ C u, PySem.W.nsIn K mainGlobals "NoRatio" = some (some (.ref C)) ∧ clsK K "NoTime" = some u ∧ PySem.W.kitOne K (.ref C) u = some (isSub "NoRatio" "NoTime") ∧ PySem.W.exmOne K (.ref C) u = some (isSub "NoRatio" "NoTime"))
    (k_NoRatio_NoHouse : ∃ C u, PySem.W.nsIn K mainGlobals "NoRatio" = some (some (.ref C)) ∧ clsK K "NoHouse" = some u ∧ PySem.W.kitOne K (.ref C) u = some (isSub "NoRatio" "NoHouse") ∧ PySem.W.exmOne K (.ref C) u = some (isSub "NoRatio" "NoHouse"))
    (k_NoRatio_NoWay : ∃ C u, PySem.W.nsIn K mainGlobals "NoRatio" = some (some (.ref C)) ∧ clsK K "NoWay" = some u ∧ PySem.W.kitOne K (.ref C) u = some (isSub "NoRatio" "NoWay") ∧ PySem.W.exmOne K (.ref C) u = some (isSub "NoRatio" "NoWay"))
    (k_NoRatio_NoText : ∃ C u, PySem.W.nsIn K mainGlobals "NoRatio" = some (some (.ref C)) ∧ clsK K "NoText" = some u ∧ PySem.W.kitOne K (.ref C) u = some (isSub "NoRatio" "NoText") ∧ PySem.W.exmOne K (.ref C) u = some (isSub "NoRatio" "NoText"))
    (k_NoRatio_NoName : ∃ C u, PySem.W.nsIn K mainGlobals "NoRatio" = some (some (.ref C)) ∧ clsK K "NoName" = some u ∧ PySem.W.kitOne K (.ref C) u = some (isSub "NoRatio" "NoName") ∧ PySem.W.exmOne K (.ref C) u = some (isSub "NoRatio" "NoName"))
    (k_NoRatio_NoEnd : ∃ C u, PySem.W.nsIn K mainGlobals "NoRatio" = some (some (.ref C)) ∧ clsK K "NoEnd" = some u ∧ PySem.W.kitOne K (.ref C) u = some (isSub "NoRatio" "NoEnd") ∧ PySem.W.exmOne K (.ref C) u = some (isSub "NoRatio" "NoEnd"))
    (k_NoRatio_NoRow : ∃ C u, PySem.W.nsIn K mainGlobals "NoRatio" = some (some (.ref C)) ∧ clsK K "NoRow" = some u ∧ PySem.W.kitOne K (.ref C) u = some (isSub "NoRatio" "NoRow") ∧ PySem.W.exmOne K (.ref C) u = some (isSub "NoRatio" "NoRow"))
    (k_NoRatio_ValueError : ∃ C u, PySem.W.nsIn K mainGlobals "NoRatio" = some (some (.ref C)) ∧ clsK K "ValueError" = some u ∧ PySem.W.kitOne K (.ref C) u = some (isSub "NoRatio" "ValueError") ∧ PySem.W.exmOne K (.ref C) u = some (isSub "NoRatio" "ValueError"))
    (k_NoCurve_CurveError : ∃ C u, PySem.W.nsIn K mainGlobals "NoCurve" = some (some (.ref C)) ∧ clsK K "CurveError" = some u ∧ PySem.W.kitOne K (.ref C) u = some (isSub "NoCurve" "CurveError") ∧ PySem.W.exmOne K (.ref C) u = some (isSub "NoCurve" "CurveError"))
    (k_NoCurve_NoRatio : ∃ C u, PySem.W.nsIn K mainGlobals "NoCurve" = some (some (.ref C)) ∧ clsK K "NoRatio" = some u ∧ PySem.W.kitOne K (.ref C) u = some (isSub "NoCurve" "NoRatio") ∧ PySem.W.exmOne K (.ref C) u = some (isSub "NoCurve" "NoRatio"))
    (k_NoCurve_NoCurve : ∃ C u, PySem.W.nsIn K mainGlobals "NoCurve" = some (some (.ref C)) ∧ clsK K "NoCurve" = some u ∧ PySem.W.kitOne K (.ref C) u = some (isSub "NoCurve" "NoCurve") ∧ PySem.W.exmOne K (.ref C) u = some (isSub "NoCurve" "NoCurve"))
    (k_NoCurve_NoTime : ∃ C u, PySem.W.nsIn K mainGlobals "NoCurve" = some (some (.ref C)) ∧ clsK K "NoTime" = some u ∧ PySem.W.kitOne K (.ref C) u = some (isSub "NoCurve" "NoTime") ∧ PySem.W.exmOne K (.ref C) u = some (isSub "NoCurve" "NoTime"))
    (k_NoCurve_NoHouse : ∃ C u, PySem.W.nsIn K mainGlobals "NoCurve" = some (some (.ref C)) ∧ clsK K "NoHouse" = some u ∧ PySem.W.kitOne K (.ref C) u = some (isSub "NoCurve" "NoHouse") ∧ PySem.W.exmOne K (.ref C) u = some (isSub "NoCurve" "NoHouse"))
    (k_NoCurve_NoWay : ∃ C u, PySem.W.nsIn K mainGlobals "NoCurve" = some (some (.ref C)) ∧ clsK K "NoWay" = some u ∧ PySem.W.kitOne K (.ref C) u = some (isSub "NoCurve" "NoWay") ∧ PySem.W.exmOne K (.ref C) u = some (isSub "NoCurve" "NoWay"))
    (k_NoCurve_NoText : ∃ C u, PySem.W.nsIn K mainGlobals "NoCurve" = some (some (.ref C)) ∧ clsK K "NoText" = some u ∧ PySem.W.kitOne K (.ref C) u = some (isSub "NoCurve" "NoText") ∧ PySem.W.exmOne K (.ref C) u = some (isSub "NoCurve" "NoText"))
    (k_NoCurve_NoName : ∃ C u, PySem.W.nsIn K mainGlobals "NoCurve" = some (some (.ref C)) ∧ clsK K "NoName" = some u ∧ PySem.W.kitOne K (.ref C) u = some (isSub "NoCurve" "NoName") ∧ PySem.W.exmOne K (.ref C) u = some (isSub "NoCurve" "NoName"))
    (k_NoCurve_NoEnd : ∃ C u, PySem.W.nsIn K mainGlobals "NoCurve" = some (some (.ref C)) ∧ clsK K "NoEnd" = some u ∧ PySem.W.kitOne K (.ref C) u = some (isSub "NoCurve" "NoEnd") ∧ PySem.W.exmOne K (.ref C) u = some (isSub "NoCurve" "NoEnd"))
    (k_NoCurve_NoRow : ∃ C u, PySem.W.nsIn K mainGlobals "NoCurve" = some (some (.ref C)) ∧ clsK K "NoRow" = some u ∧ PySem.W.kitOne K (.ref C) u = some (isSub "NoCurve" "NoRow") ∧ PySem.W.exmOne K (.ref C) u = some (isSub "NoCurve" "NoRow"))
    (k_NoCurve_ValueError : ∃ C u, PySem.W.nsIn K mainGlobals "NoCurve" = some (some (.ref C)) ∧ clsK K "ValueError" = some u ∧ PySem.W.kitOne K (.ref C) u = some (isSub "NoCurve" "ValueError") ∧ PySem.W.exmOne K (.ref C) u = some (isSub "NoCurve" "ValueError"))
    : ProgK ct K T := by
  refine ⟨?_, ?_, ?_, ?_, ?_, ?_⟩
  · exact (List.forall_mem_cons.mpr ⟨d_is_whole, (List.forall_mem_cons.mpr ⟨d_divisor, (List.forall_mem_cons.mpr ⟨d_ratio, (List.forall_mem_cons.mpr ⟨d_minus, (List.forall_mem_cons.mpr ⟨d_over, (List.forall_mem_cons.mpr ⟨d_under, (List.forall_mem_cons.mpr ⟨d_slope_between, (List.forall_mem_cons.mpr ⟨d_slopes_of, (List.forall_mem_cons.mpr ⟨d_folded, (List.forall_mem_cons.mpr ⟨d_made, (List.forall_mem_cons.mpr ⟨d_curve, (List.forall_mem_cons.mpr ⟨d_heap, (List.forall_mem_cons.mpr ⟨d_late, (List.forall_mem_cons.mpr ⟨d__law_cell_at, (List.forall_mem_cons.mpr ⟨d__law_lowest, (List.forall_mem_cons.mpr ⟨d__law_minus, (List.forall_mem_cons.mpr ⟨d__law_corners_by, (List.forall_mem_cons.mpr ⟨d__law_last_by, (List.forall_mem_cons.mpr ⟨d__law_many_cells, (List.forall_mem_cons.mpr ⟨d__law_spoiled, (List.forall_mem_cons.mpr ⟨d__law_refused, (List.forall_mem_cons.mpr ⟨d__law_refused_by_any, (List.forall_mem_cons.mpr ⟨d__law_heap_refused, (List.forall_mem_cons.mpr ⟨d__law_late_refused, (List.forall_mem_cons.mpr ⟨d_law, (fun x hx => absurd hx List.not_mem_nil)⟩)⟩)⟩)⟩)⟩)⟩)⟩)⟩)⟩)⟩)⟩)⟩)⟩)⟩)⟩)⟩)⟩)⟩)⟩)⟩)⟩)⟩)⟩)⟩)⟩)
  · exact (List.forall_mem_cons.mpr ⟨c_NOUGHT, (fun x hx => absurd hx List.not_mem_nil)⟩)
  · exact (List.forall_mem_cons.mpr ⟨b_abs, (List.forall_mem_cons.mpr ⟨b_len, (List.forall_mem_cons.mpr ⟨b_max, (List.forall_mem_cons.mpr ⟨b_int, (List.forall_mem_cons.mpr ⟨b_list, (List.forall_mem_cons.mpr ⟨b_tuple, (List.forall_mem_cons.mpr ⟨b_isinstance, (List.forall_mem_cons.mpr ⟨b_bool, (List.forall_mem_cons.mpr ⟨b_range, (List.forall_mem_cons.mpr ⟨b_ValueError, (fun x hx => absurd hx List.not_mem_nil)⟩)⟩)⟩)⟩)⟩)⟩)⟩)⟩)⟩)⟩)
  · exact (List.forall_mem_cons.mpr ⟨l_CurveError, (List.forall_mem_cons.mpr ⟨l_NoRatio, (List.forall_mem_cons.mpr ⟨l_NoCurve, (List.forall_mem_cons.mpr ⟨l_NoTime, (List.forall_mem_cons.mpr ⟨l_NoHouse, (List.forall_mem_cons.mpr ⟨l_NoWay, (List.forall_mem_cons.mpr ⟨l_NoText, (List.forall_mem_cons.mpr ⟨l_NoName, (List.forall_mem_cons.mpr ⟨l_NoEnd, (List.forall_mem_cons.mpr ⟨l_NoRow, (fun x hx => absurd hx List.not_mem_nil)⟩)⟩)⟩)⟩)⟩)⟩)⟩)⟩)⟩)⟩)
  · exact (List.forall_mem_cons.mpr ⟨r_NoRatio, (List.forall_mem_cons.mpr ⟨r_NoCurve, (fun x hx => absurd hx List.not_mem_nil)⟩)⟩)
  · exact (List.forall_mem_cons.mpr ⟨(fun c2 h2 => h2.elim (((List.forall_mem_cons (p := fun c2 => KitP K "NoRatio" c2)).mpr ⟨k_NoRatio_CurveError, ((List.forall_mem_cons (p := fun c2 => KitP K "NoRatio" c2)).mpr ⟨k_NoRatio_NoRatio, ((List.forall_mem_cons (p := fun c2 => KitP K "NoRatio" c2)).mpr ⟨k_NoRatio_NoCurve, ((List.forall_mem_cons (p := fun c2 => KitP K "NoRatio" c2)).mpr ⟨k_NoRatio_NoTime, ((List.forall_mem_cons (p := fun c2 => KitP K "NoRatio" c2)).mpr ⟨k_NoRatio_NoHouse, ((List.forall_mem_cons (p := fun c2 => KitP K "NoRatio" c2)).mpr ⟨k_NoRatio_NoWay, ((List.forall_mem_cons (p := fun c2 => KitP K "NoRatio" c2)).mpr ⟨k_NoRatio_NoText, ((List.forall_mem_cons (p := fun c2 => KitP K "NoRatio" c2)).mpr ⟨k_NoRatio_NoName, ((List.forall_mem_cons (p := fun c2 => KitP K "NoRatio" c2)).mpr ⟨k_NoRatio_NoEnd, ((List.forall_mem_cons (p := fun c2 => KitP K "NoRatio" c2)).mpr ⟨k_NoRatio_NoRow, (fun x hx => absurd hx List.not_mem_nil)⟩)⟩)⟩)⟩)⟩)⟩)⟩)⟩)⟩)⟩) c2) (fun e => e ▸ k_NoRatio_ValueError)), (List.forall_mem_cons.mpr ⟨(fun c2 h2 => h2.elim (((List.forall_mem_cons (p := fun c2 => KitP K "NoCurve" c2)).mpr ⟨k_NoCurve_CurveError, ((List.forall_mem_cons (p := fun c2 => KitP K "NoCurve" c2)).mpr ⟨k_NoCurve_NoRatio, ((List.forall_mem_cons (p := fun c2 => KitP K "NoCurve" c2)).mpr ⟨k_NoCurve_NoCurve, ((List.forall_mem_cons (p := fun c2 => KitP K "NoCurve" c2)).mpr ⟨k_NoCurve_NoTime, ((List.forall_mem_cons (p := fun c2 => KitP K "NoCurve" c2)).mpr ⟨k_NoCurve_NoHouse, ((List.forall_mem_cons (p := fun c2 => KitP K "NoCurve" c2)).mpr ⟨k_NoCurve_NoWay, ((List.forall_mem_cons (p := fun c2 => KitP K "NoCurve" c2)).mpr ⟨k_NoCurve_NoText, ((List.forall_mem_cons (p := fun c2 => KitP K "NoCurve" c2)).mpr ⟨k_NoCurve_NoName, ((List.forall_mem_cons (p := fun c2 => KitP K "NoCurve" c2)).mpr ⟨k_NoCurve_NoEnd, ((List.forall_mem_cons (p := fun c2 => KitP K "NoCurve" c2)).mpr ⟨k_NoCurve_NoRow, (fun x hx => absurd hx List.not_mem_nil)⟩)⟩)⟩)⟩)⟩)⟩)⟩)⟩)⟩)⟩) c2) (fun e => e ▸ k_NoCurve_ValueError)), (fun x hx => absurd hx List.not_mem_nil)⟩)⟩)
/-- what the law promises, by the written part -/
def spLaw (n : Nat) (K : PySem.W.Frag) : Sp := spF K (faOf ct K) (caOf ct K) 1 (runT T (n + 1) "law")
theorem fin {P : Program} {w : World} {K : PySem.W.Frag} {h : Heap} {mg : Str → Option Value} {fa ad : Addr} {oc : Value} {od an : Option Addr} {osl : Array (Option Value)} {kV doc pm cdv ct1 : Value} {n : Nat} (X : K.In h) (G : h.Ns mainGlobals mg) (hmg : mg "law" = some (.ref fa))
    (d_is_whole : DefK ct K T "is_whole")
    (d_divisor : DefK ct K T "divisor")
    (d_ratio : DefK ct K T "ratio")
    (d_minus : DefK ct K T "minus")
    (d_over : DefK ct K T "over")
    (d_under : DefK ct K T "under")
    (d_slope_between : DefK ct K T "slope_between")
    (d_slopes_of : DefK ct K T "slopes_of")
    (d_folded : DefK ct K T "folded")
    (d_made : DefK ct K T "made")
    (d_curve : DefK ct K T "curve")
    (d_heap : DefK ct K T "heap")
    (d_late : DefK ct K T "late")
    (d__law_cell_at : DefK ct K T "_law_cell_at")
    (d__law_lowest : DefK ct K T "_law_lowest")
    (d__law_minus : DefK ct K T "_law_minus")
    (d__law_corners_by : DefK ct K T "_law_corners_by")
    (d__law_last_by : DefK ct K T "_law_last_by")
    (d__law_many_cells : DefK ct K T "_law_many_cells")
    (d__law_spoiled : DefK ct K T "_law_spoiled")
    (d__law_refused : DefK ct K T "_law_refused")
    (d__law_refused_by_any : DefK ct K T "_law_refused_by_any")
    (d__law_heap_refused : DefK ct K T "_law_heap_refused")
    (d__law_late_refused : DefK ct K T "_law_late_refused")
    (d_law : DefK ct K T "law")
    (c_NOUGHT : CoK ct K (faOf ct K) "NOUGHT" (.tup (.cons (.int 0) (.cons (.int 1) .nil))))
    (b_abs : PySem.W.nsIn K mainGlobals "abs" = some none)
    (b_len : PySem.W.nsIn K mainGlobals "len" = some none)
    (b_max : PySem.W.nsIn K mainGlobals "max" = some none)
    (b_int : PySem.W.nsIn K mainGlobals "int" = some none)
    (b_list : PySem.W.nsIn K mainGlobals "list" = some none)
    (b_tuple : PySem.W.nsIn K mainGlobals "tuple" = some none)
    (b_isinstance : PySem.W.nsIn K mainGlobals "isinstance" = some none)
    (b_bool : PySem.W.nsIn K mainGlobals "bool" = some none)
    (b_range : PySem.W.nsIn K mainGlobals "range" = some none)
    (b_ValueError : PySem.W.nsIn K mainGlobals "ValueError" = some none)
    (l_CurveError : ∃ C, PySem.W.nsIn K mainGlobals "CurveError" = some (some (.ref C)))
    (l_NoRatio : ∃ C, PySem.W.nsIn K mainGlobals "NoRatio" = some (some (.ref C)))
    (l_NoCurve : ∃ C, PySem.W.nsIn K mainGlobals "NoCurve" = some (some (.ref C)))
    (l_NoTime : ∃ C, PySem.W.nsIn K mainGlobals "NoTime" = some (some (.ref C)))
    (l_NoHouse : ∃ C, PySem.W.nsIn K mainGlobals "NoHouse" = some (some (.ref C)))
    (l_NoWay : ∃ C, PySem.W.nsIn K mainGlobals "NoWay" = some (some (.ref C)))
    (l_NoText : ∃ C, PySem.W.nsIn K mainGlobals "NoText" = some (some (.ref C)))
    (l_NoName : ∃ C, PySem.W.nsIn K mainGlobals "NoName" = some (some (.ref C)))
    (l_NoEnd : ∃ C, PySem.W.nsIn K mainGlobals "NoEnd" = some (some (.ref C)))
    (l_NoRow : ∃ C, PySem.W.nsIn K mainGlobals "NoRow" = some (some (.ref C)))
    (r_NoRatio : ∃ C, RsK K "NoRatio" C)
    (r_NoCurve : ∃ C, RsK K "NoCurve" C)
    (k_NoRatio_CurveError : ∃ C u, PySem.W.nsIn K mainGlobals "NoRatio" = some (some (.ref C)) ∧ clsK K "CurveError" = some u ∧ PySem.W.kitOne K (.ref C) u = some (isSub "NoRatio" "CurveError") ∧ PySem.W.exmOne K (.ref C) u = some (isSub "NoRatio" "CurveError"))
    (k_NoRatio_NoRatio : ∃ C u, PySem.W.nsIn K mainGlobals "NoRatio" = some (some (.ref C)) ∧ clsK K "NoRatio" = some u ∧ PySem.W.kitOne K (.ref C) u = some (isSub "NoRatio" "NoRatio") ∧ PySem.W.exmOne K (.ref C) u = some (isSub "NoRatio" "NoRatio"))
    (k_NoRatio_NoCurve : ∃ C u, PySem.W.nsIn K mainGlobals "NoRatio" = some (some (.ref C)) ∧ clsK K "NoCurve" = some u ∧ PySem.W.kitOne K (.ref C) u = some (isSub "NoRatio" "NoCurve") ∧ PySem.W.exmOne K (.ref C) u = some (isSub "NoRatio" "NoCurve"))
    (k_NoRatio_NoTime : ∃ C u, PySem.W.nsIn K mainGlobals "NoRatio" = some (some (.ref C)) ∧ clsK K "NoTime" = some u ∧ PySem.W.kitOne K (.ref C) u = some (isSub "NoRatio" "NoTime") ∧ PySem.W.exmOne K (.ref C) u = some (isSub "NoRatio" "NoTime"))
    (k_NoRatio_NoHouse : ∃ C u, PySem.W.nsIn K mainGlobals "NoRatio" = some (some (.ref C)) ∧ clsK K "NoHouse" = some u ∧ PySem.W.kitOne K (.ref C) u = some (isSub "NoRatio" "NoHouse") ∧ PySem.W.exmOne K (.ref C) u = some (isSub "NoRatio" "NoHouse"))
    (k_NoRatio_NoWay : ∃ C u, PySem.W.nsIn K mainGlobals "NoRatio" = some (some (.ref C)) ∧ clsK K "NoWay" = some u ∧ PySem.W.kitOne K (.ref C) u = some (isSub "NoRatio" "NoWay") ∧ PySem.W.exmOne K (.ref C) u = some (isSub "NoRatio" "NoWay"))
    (k_NoRatio_NoText : ∃ C u, PySem.W.nsIn K mainGlobals "NoRatio" = some (some (.ref C)) ∧ clsK K "NoText" = some u ∧ PySem.W.kitOne K (.ref C) u = some (isSub "NoRatio" "NoText") ∧ PySem.W.exmOne K (.ref C) u = some (isSub "NoRatio" "NoText"))
    (k_NoRatio_NoName : ∃ C u, PySem.W.nsIn K mainGlobals "NoRatio" = some (some (.ref C)) ∧ clsK K "NoName" = some u ∧ PySem.W.kitOne K (.ref C) u = some (isSub "NoRatio" "NoName") ∧ PySem.W.exmOne K (.ref C) u = some (isSub "NoRatio" "NoName"))
    (k_NoRatio_NoEnd : ∃ C u, PySem.W.nsIn K mainGlobals "NoRatio" = some (some (.ref C)) ∧ clsK K "NoEnd" = some u ∧ PySem.W.kitOne K (.ref C) u = some (isSub "NoRatio" "NoEnd") ∧ PySem.W.exmOne K (.ref C) u = some (isSub "NoRatio" "NoEnd"))
    (k_NoRatio_NoRow : ∃ C u, PySem.W.nsIn K mainGlobals "NoRatio" = some (some (.ref C)) ∧ clsK K "NoRow" = some u ∧ PySem.W.kitOne K (.ref C) u = some (isSub "NoRatio" "NoRow") ∧ PySem.W.exmOne K (.ref C) u = some (isSub "NoRatio" "NoRow"))
    (k_NoRatio_ValueError : ∃ C u, PySem.W.nsIn K mainGlobals "NoRatio" = some (some (.ref C)) ∧ clsK K "ValueError" = some u ∧ PySem.W.kitOne K (.ref C) u = some (isSub "NoRatio" "ValueError") ∧ PySem.W.exmOne K (.ref C) u = some (isSub "NoRatio" "ValueError"))
    (k_NoCurve_CurveError : ∃ C u, PySem.W.nsIn K mainGlobals "NoCurve" = some (some (.ref C)) ∧ clsK K "CurveError" = some u ∧ PySem.W.kitOne K (.ref C) u = some (isSub "NoCurve" "CurveError") ∧ PySem.W.exmOne K (.ref C) u = some (isSub "NoCurve" "CurveError"))
    (k_NoCurve_NoRatio : ∃ C u, PySem.W.nsIn K mainGlobals "NoCurve" = some (some (.ref C)) ∧ clsK K "NoRatio" = some u ∧ PySem.W.kitOne K (.ref C) u = some (isSub "NoCurve" "NoRatio") ∧ PySem.W.exmOne K (.ref C) u = some (isSub "NoCurve" "NoRatio"))
    (k_NoCurve_NoCurve : ∃ C u, PySem.W.nsIn K mainGlobals "NoCurve" = some (some (.ref C)) ∧ clsK K "NoCurve" = some u ∧ PySem.W.kitOne K (.ref C) u = some (isSub "NoCurve" "NoCurve") ∧ PySem.W.exmOne K (.ref C) u = some (isSub "NoCurve" "NoCurve"))
    (k_NoCurve_NoTime : ∃ C u, PySem.W.nsIn K mainGlobals "NoCurve" = some (some (.ref C)) ∧ clsK K "NoTime" = some u ∧ PySem.W.kitOne K (.ref C) u = some (isSub "NoCurve" "NoTime") ∧ PySem.W.exmOne K (.ref C) u = some (isSub "NoCurve" "NoTime"))
    (k_NoCurve_NoHouse : ∃ C u, PySem.W.nsIn K mainGlobals "NoCurve" = some (some (.ref C)) ∧ clsK K "NoHouse" = some u ∧ PySem.W.kitOne K (.ref C) u = some (isSub "NoCurve" "NoHouse") ∧ PySem.W.exmOne K (.ref C) u = some (isSub "NoCurve" "NoHouse"))
    (k_NoCurve_NoWay : ∃ C u, PySem.W.nsIn K mainGlobals "NoCurve" = some (some (.ref C)) ∧ clsK K "NoWay" = some u ∧ PySem.W.kitOne K (.ref C) u = some (isSub "NoCurve" "NoWay") ∧ PySem.W.exmOne K (.ref C) u = some (isSub "NoCurve" "NoWay"))
    (k_NoCurve_NoText : ∃ C u, PySem.W.nsIn K mainGlobals "NoCurve" = some (some (.ref C)) ∧ clsK K "NoText" = some u ∧ PySem.W.kitOne K (.ref C) u = some (isSub "NoCurve" "NoText") ∧ PySem.W.exmOne K (.ref C) u = some (isSub "NoCurve" "NoText"))
    (k_NoCurve_NoName : ∃ C u, PySem.W.nsIn K mainGlobals "NoCurve" = some (some (.ref C)) ∧ clsK K "NoName" = some u ∧ PySem.W.kitOne K (.ref C) u = some (isSub "NoCurve" "NoName") ∧ PySem.W.exmOne K (.ref C) u = some (isSub "NoCurve" "NoName"))
    (k_NoCurve_NoEnd : ∃ C u, PySem.W.nsIn K mainGlobals "NoCurve" = some (some (.ref C)) ∧ clsK K "NoEnd" = some u ∧ PySem.W.kitOne K (.ref C) u = some (isSub "NoCurve" "NoEnd") ∧ PySem.W.exmOne K (.ref C) u = some (isSub "NoCurve" "NoEnd"))
    (k_NoCurve_NoRow : ∃ C u, PySem.W.nsIn K mainGlobals "NoCurve" = some (some (.ref C)) ∧ clsK K "NoRow" = some u ∧ PySem.W.kitOne K (.ref C) u = some (isSub "NoCurve" "NoRow") ∧ PySem.W.exmOne K (.ref C) u = some (isSub "NoCurve" "NoRow"))
    (k_NoCurve_ValueError : ∃ C u, PySem.W.nsIn K mainGlobals "NoCurve" = some (some (.ref C)) ∧ clsK K "ValueError" = some u ∧ PySem.W.kitOne K (.ref C) u = some (isSub "NoCurve" "ValueError") ∧ PySem.W.exmOne K (.ref C) u = some (isSub "NoCurve" "ValueError"))
    (a : PySem.W.nsIn K mainGlobals "law" = some (some (.ref ad))) (l : K.lookup ad = some ⟨oc, od, .func (PySem.W.fnOf "law" "law" (defArgs (topS 40)) (defBody (topS 40)) (defScope (topS 40)) .none kV doc pm an cdv ct1), osl⟩) (c : PySem.W.codeIn K cdv "law" = true) (kp : PySem.W.keepIn K (.ref ad) = true) :
    ∃ fdt : FuncData, (∀ (s : Shared) (u : Value), BindsTo s fdt ⟨[u], []⟩ [("_law_script", u)]) ∧ ∀ base : Heap, K.In base → base.Ns mainGlobals mg → FnOk P w K mg base (L2.CX P w) (n + 1) fa fdt ["_law_script"] (spLaw n K) := by
  have PK := prog d_is_whole d_divisor d_ratio d_minus d_over d_under d_slope_between d_slopes_of d_folded d_made d_curve d_heap d_late d__law_cell_at d__law_lowest d__law_minus d__law_corners_by d__law_last_by d__law_many_cells d__law_spoiled d__law_refused d__law_refused_by_any d__law_heap_refused d__law_late_refused d_law c_NOUGHT b_abs b_len b_max b_int b_list b_tuple b_isinstance b_bool b_range b_ValueError l_CurveError l_NoRatio l_NoCurve l_NoTime l_NoHouse l_NoWay l_NoText l_NoName l_NoEnd l_NoRow r_NoRatio r_NoCurve k_NoRatio_CurveError k_NoRatio_NoRatio k_NoRatio_NoCurve k_NoRatio_NoTime k_NoRatio_NoHouse k_NoRatio_NoWay k_NoRatio_NoText k_NoRatio_NoName k_NoRatio_NoEnd k_NoRatio_NoRow k_NoRatio_ValueError k_NoCurve_CurveError k_NoCurve_NoRatio k_NoCurve_NoCurve k_NoCurve_NoTime k_NoCurve_NoHouse k_NoCurve_NoWay k_NoCurve_NoText k_NoCurve_NoName k_NoCurve_NoEnd k_NoCurve_NoRow k_NoCurve_ValueError
  exact MP.law_F (n := n) (st := topS 40) PK X G hmg sc_law (by rfl) rfl rfl bd_law (fun _ _ _ _ _ _ s v => .of_eq rfl) a l c kp
end Q

open PySem PySem.W PyProof.Rows
set_option maxHeartbeats 0 in
theorem PySem.Challenge.cw_curvehouse_k07_no_curve_holds : PySem.Challenge.rw_curvehouse_k07_no_curve.Holds := by
  w_on; o_law; k_head; (case hw => w_witness2)
  k_fill
  refine L2.walk_of (l := PySem.Challenge.rw_curvehouse_k07_no_curve) (n := 63) (k := 20 + 1) (x := "_law_script") (CX := fun w => L2.CX PySem.Challenge.rw_curvehouse_k07_no_curve.prog w) (sp := fun w => Q.spLaw 20 _) rfl (by decide) rfl ⟨rfl, by decide, by decide⟩ (fun w h Y => PySem.W.kIn_of Y) ?F (fun _ _ a ns hl hO hS => MP.law_sp hO hS (Q.main ns hl)) (fun _ _ _ _ _ h => MP.law_noX h)
  case F =>
    intro w mg fa h KX G hmg
    refine' Q.fin (n := 20) KX G hmg ?d_is_whole ?d_divisor ?d_ratio ?d_minus ?d_over ?d_under ?d_slope_between ?d_slopes_of ?d_folded ?d_made ?d_curve ?d_heap ?d_late ?d__law_cell_at ?d__law_lowest ?d__law_minus ?d__law_corners_by ?d__law_last_by ?d__law_many_cells ?d__law_spoiled ?d__law_refused ?d__law_refused_by_any ?d__law_heap_refused ?d__law_late_refused ?d_law ?c_NOUGHT ?b_abs ?b_len ?b_max ?b_int ?b_list ?b_tuple ?b_isinstance ?b_bool ?b_range ?b_ValueError ?l_CurveError ?l_NoRatio ?l_NoCurve ?l_NoTime ?l_NoHouse ?l_NoWay ?l_NoText ?l_NoName ?l_NoEnd ?l_NoRow ?r_NoRatio ?r_NoCurve ?k_NoRatio_CurveError ?k_NoRatio_NoRatio ?k_NoRatio_NoCurve ?k_NoRatio_NoTime ?k_NoRatio_NoHouse ?k_NoRatio_NoWay ?k_NoRatio_NoText ?k_NoRatio_NoName ?k_NoRatio_NoEnd ?k_NoRatio_NoRow ?k_NoRatio_ValueError ?k_NoCurve_CurveError ?k_NoCurve_NoRatio ?k_NoCurve_NoCurve ?k_NoCurve_NoTime ?k_NoCurve_NoHouse ?k_NoCurve_NoWay ?k_NoCurve_NoText ?k_NoCurve_NoName ?k_NoCurve_NoEnd ?k_NoCurve_NoRow ?k_NoCurve_ValueError ?lA ?lL ?lC ?lK
    case d_is_whole =>
      refine' MP.defK_mk (st := Q.topS 12) Q.sc_is_whole (by rfl) rfl rfl Q.bd_is_whole (fun _ _ _ _ _ _ us hl => match us, hl with | [_], _ => rfl) ?a ?l ?c ?k
      (case a => k_is); (case l => k_is); (case c => k_is); (case k => k_is)
    case d_divisor =>
      refine' MP.defK_mk (st := Q.topS 13) Q.sc_divisor (by rfl) rfl rfl Q.bd_divisor (fun _ _ _ _ _ _ us hl => match us, hl with | [_, _], _ => rfl) ?a ?l ?c ?k
      (case a => k_is); (case l => k_is); (case c => k_is); (case k => k_is)
    case d_ratio =>
      refine' MP.defK_mk (st := Q.topS 16) Q.sc_ratio (by rfl) rfl rfl Q.bd_ratio (fun _ _ _ _ _ _ us hl => match us, hl with | [_, _], _ => rfl) ?a ?l ?c ?k
      (case a => k_is); (case l => k_is); (case c => k_is); (case k => k_is)
    case d_minus =>
      refine' MP.defK_mk (st := Q.topS 17) Q.sc_minus (by rfl) rfl rfl Q.bd_minus (fun _ _ _ _ _ _ us hl => match us, hl with | [_, _], _ => rfl) ?a ?l ?c ?k
      (case a => k_is); (case l => k_is); (case c => k_is); (case k => k_is)
    case d_over =>
      refine' MP.defK_mk (st := Q.topS 18) Q.sc_over (by rfl) rfl rfl Q.bd_over (fun _ _ _ _ _ _ us hl => match us, hl with | [_, _], _ => rfl) ?a ?l ?c ?k
      (case a => k_is); (case l => k_is); (case c => k_is); (case k => k_is)
    case d_under =>
      refine' MP.defK_mk (st := Q.topS 19) Q.sc_under (by rfl) rfl rfl Q.bd_under (fun _ _ _ _ _ _ us hl => match us, hl with | [_, _], _ => rfl) ?a ?l ?c ?k
      (case a => k_is); (case l => k_is); (case c => k_is); (case k => k_is)
    case d_slope_between =>
      refine' MP.defK_mk (st := Q.topS 21) Q.sc_slope_between (by rfl) rfl rfl Q.bd_slope_between (fun _ _ _ _ _ _ us hl => match us, hl with | [_, _], _ => rfl) ?a ?l ?c ?k
      (case a => k_is); (case l => k_is); (case c => k_is); (case k => k_is)
    case d_slopes_of =>
      refine' MP.defK_mk (st := Q.topS 22) Q.sc_slopes_of (by rfl) rfl rfl Q.bd_slopes_of (fun _ _ _ _ _ _ us hl => match us, hl with | [_, _], _ => rfl) ?a ?l ?c ?k
      (case a => k_is); (case l => k_is); (case c => k_is); (case k => k_is)
    case d_folded =>
      refine' MP.defK_mk (st := Q.topS 23) Q.sc_folded (by rfl) rfl rfl Q.bd_folded (fun _ _ _ _ _ _ us hl => match us, hl with | [_, _], _ => rfl) ?a ?l ?c ?k
      (case a => k_is); (case l => k_is); (case c => k_is); (case k => k_is)
    case d_made =>
      refine' MP.defK_mk (st := Q.topS 24) Q.sc_made (by rfl) rfl rfl Q.bd_made (fun _ _ _ _ _ _ us hl => match us, hl with | [_, _], _ => rfl) ?a ?l ?c ?k
      (case a => k_is); (case l => k_is); (case c => k_is); (case k => k_is)
    case d_curve =>
      refine' MP.defK_mk (st := Q.topS 25) Q.sc_curve (by rfl) rfl rfl Q.bd_curve (fun _ _ _ _ _ _ us hl => match us, hl with | [_, _], _ => rfl) ?a ?l ?c ?k
      (case a => k_is); (case l => k_is); (case c => k_is); (case k => k_is)
    case d_heap =>
      refine' MP.defK_mk (st := Q.topS 26) Q.sc_heap (by rfl) rfl rfl Q.bd_heap (fun _ _ _ _ _ _ us hl => match us, hl with | [_, _], _ => rfl) ?a ?l ?c ?k
      (case a => k_is); (case l => k_is); (case c => k_is); (case k => k_is)
    case d_late =>
      refine' MP.defK_mk (st := Q.topS 27) Q.sc_late (by rfl) rfl rfl Q.bd_late (fun _ _ _ _ _ _ us hl => match us, hl with | [_, _], _ => rfl) ?a ?l ?c ?k
      (case a => k_is); (case l => k_is); (case c => k_is); (case k => k_is)
    case d__law_cell_at =>
      refine' MP.defK_mk (st := Q.topS 29) Q.sc__law_cell_at (by rfl) rfl rfl Q.bd__law_cell_at (fun _ _ _ _ _ _ us hl => match us, hl with | [_, _], _ => rfl) ?a ?l ?c ?k
      (case a => k_is); (case l => k_is); (case c => k_is); (case k => k_is)
    case d__law_lowest =>
      refine' MP.defK_mk (st := Q.topS 30) Q.sc__law_lowest (by rfl) rfl rfl Q.bd__law_lowest (fun _ _ _ _ _ _ us hl => match us, hl with | [_, _], _ => rfl) ?a ?l ?c ?k
      (case a => k_is); (case l => k_is); (case c => k_is); (case k => k_is)
    case d__law_minus =>
      refine' MP.defK_mk (st := Q.topS 31) Q.sc__law_minus (by rfl) rfl rfl Q.bd__law_minus (fun _ _ _ _ _ _ us hl => match us, hl with | [_, _], _ => rfl) ?a ?l ?c ?k
      (case a => k_is); (case l => k_is); (case c => k_is); (case k => k_is)
    case d__law_corners_by =>
      refine' MP.defK_mk (st := Q.topS 32) Q.sc__law_corners_by (by rfl) rfl rfl Q.bd__law_corners_by (fun _ _ _ _ _ _ us hl => match us, hl with | [_, _, _, _], _ => rfl) ?a ?l ?c ?k
      (case a => k_is); (case l => k_is); (case c => k_is); (case k => k_is)
    case d__law_last_by =>
      refine' MP.defK_mk (st := Q.topS 33) Q.sc__law_last_by (by rfl) rfl rfl Q.bd__law_last_by (fun _ _ _ _ _ _ us hl => match us, hl with | [_, _, _], _ => rfl) ?a ?l ?c ?k
      (case a => k_is); (case l => k_is); (case c => k_is); (case k => k_is)
    case d__law_many_cells =>
      refine' MP.defK_mk (st := Q.topS 34) Q.sc__law_many_cells (by rfl) rfl rfl Q.bd__law_many_cells (fun _ _ _ _ _ _ us hl => match us, hl with | [_, _, _], _ => rfl) ?a ?l ?c ?k
      (case a => k_is); (case l => k_is); (case c => k_is); (case k => k_is)
    case d__law_spoiled =>
      refine' MP.defK_mk (st := Q.topS 35) Q.sc__law_spoiled (by rfl) rfl rfl Q.bd__law_spoiled (fun _ _ _ _ _ _ us hl => match us, hl with | [_, _, _], _ => rfl) ?a ?l ?c ?k
      (case a => k_is); (case l => k_is); (case c => k_is); (case k => k_is)
    case d__law_refused =>
      refine' MP.defK_mk (st := Q.topS 36) Q.sc__law_refused (by rfl) rfl rfl Q.bd__law_refused (fun _ _ _ _ _ _ us hl => match us, hl with | [_, _], _ => rfl) ?a ?l ?c ?k
      (case a => k_is); (case l => k_is); (case c => k_is); (case k => k_is)
    case d__law_refused_by_any =>
      refine' MP.defK_mk (st := Q.topS 37) Q.sc__law_refused_by_any (by rfl) rfl rfl Q.bd__law_refused_by_any (fun _ _ _ _ _ _ us hl => match us, hl with | [_, _], _ => rfl) ?a ?l ?c ?k
      (case a => k_is); (case l => k_is); (case c => k_is); (case k => k_is)
    case d__law_heap_refused =>
      refine' MP.defK_mk (st := Q.topS 38) Q.sc__law_heap_refused (by rfl) rfl rfl Q.bd__law_heap_refused (fun _ _ _ _ _ _ us hl => match us, hl with | [_, _], _ => rfl) ?a ?l ?c ?k
      (case a => k_is); (case l => k_is); (case c => k_is); (case k => k_is)
    case d__law_late_refused =>
      refine' MP.defK_mk (st := Q.topS 39) Q.sc__law_late_refused (by rfl) rfl rfl Q.bd__law_late_refused (fun _ _ _ _ _ _ us hl => match us, hl with | [_, _], _ => rfl) ?a ?l ?c ?k
      (case a => k_is); (case l => k_is); (case c => k_is); (case k => k_is)
    case d_law =>
      refine' MP.defK_mk (st := Q.topS 40) Q.sc_law (by rfl) rfl rfl Q.bd_law (fun _ _ _ _ _ _ us hl => match us, hl with | [_], _ => rfl) ?a ?l ?c ?k
      (case a => k_is); (case l => k_is); (case c => k_is); (case k => k_is)
    case c_NOUGHT =>
      refine' MP.co_pair ?a ?l
      (case a => k_is); (case l => k_is)
    case b_abs => k_is
    case b_len => k_is
    case b_max => k_is
    case b_int => k_is
    case b_list => k_is
    case b_tuple => k_is
    case b_isinstance => k_is
    case b_bool => k_is
    case b_range => k_is
    case b_ValueError => k_is
    case l_CurveError =>
      refine' MP.cl_mk ?a
      (case a => k_is)
    case l_NoRatio =>
      refine' MP.cl_mk ?a
      (case a => k_is)
    case l_NoCurve =>
      refine' MP.cl_mk ?a
      (case a => k_is)
    case l_NoTime =>
      refine' MP.cl_mk ?a
      (case a => k_is)
    case l_NoHouse =>
      refine' MP.cl_mk ?a
      (case a => k_is)
    case l_NoWay =>
      refine' MP.cl_mk ?a
      (case a => k_is)
    case l_NoText =>
      refine' MP.cl_mk ?a
      (case a => k_is)
    case l_NoName =>
      refine' MP.cl_mk ?a
      (case a => k_is)
    case l_NoEnd =>
      refine' MP.cl_mk ?a
      (case a => k_is)
    case l_NoRow =>
      refine' MP.cl_mk ?a
      (case a => k_is)
    case r_NoRatio =>
      refine' ⟨_, ⟨?a, ?b, ?c, ?d, ?e, ⟨?f1, ?f2, ?f3, ?f4, ?f5, ?f6, ?f7, ?f8⟩⟩⟩
      (case a => k_is); (case b => k_exc); (case c => k_is); (case d => k_is); (case e => k_is); (case f1 => k_is); (case f2 => k_is); (case f3 => k_is); (case f4 => k_is); (case f5 => k_is); (case f6 => k_is); (case f7 => k_is); (case f8 => k_is)
    case r_NoCurve =>
      refine' ⟨_, ⟨?a, ?b, ?c, ?d, ?e, ⟨?f1, ?f2, ?f3, ?f4, ?f5, ?f6, ?f7, ?f8⟩⟩⟩
      (case a => k_is); (case b => k_exc); (case c => k_is); (case d => k_is); (case e => k_is); (case f1 => k_is); (case f2 => k_is); (case f3 => k_is); (case f4 => k_is); (case f5 => k_is); (case f6 => k_is); (case f7 => k_is); (case f8 => k_is)
    case k_NoRatio_CurveError =>
      refine' MP.kit_own (b := true) ?a ?a2 (by decide) (by decide) ?h1 ?h2 ?h3 ?h4 ?hn
      (case a => k_is); (case a2 => k_is); (case h1 => k_is); (case h2 => k_is); (case h3 => k_is); (case h4 => k_is); (case hn => exact .inl rfl)
    case k_NoRatio_NoRatio =>
      refine' MP.kit_own (b := true) ?a ?a2 (by decide) (by decide) ?h1 ?h2 ?h3 ?h4 ?hn
      (case a => k_is); (case a2 => k_is); (case h1 => k_is); (case h2 => k_is); (case h3 => k_is); (case h4 => k_is); (case hn => exact .inl rfl)
    case k_NoRatio_NoCurve =>
      refine' MP.kit_own (b := false) ?a ?a2 (by decide) (by decide) ?h1 ?h2 ?h3 ?h4 ?hn
      (case a => k_is); (case a2 => k_is); (case h1 => k_is); (case h2 => k_is); (case h3 => k_is); (case h4 => k_is); (case hn => exact .inr (by decide))
    case k_NoRatio_NoTime =>
      refine' MP.kit_own (b := false) ?a ?a2 (by decide) (by decide) ?h1 ?h2 ?h3 ?h4 ?hn
      (case a => k_is); (case a2 => k_is); (case h1 => k_is); (case h2 => k_is); (case h3 => k_is); (case h4 => k_is); (case hn => exact .inr (by decide))
    case k_NoRatio_NoHouse =>
      refine' MP.kit_own (b := false) ?a ?a2 (by decide) (by decide) ?h1 ?h2 ?h3 ?h4 ?hn
      (case a => k_is); (case a2 => k_is); (case h1 => k_is); (case h2 => k_is); (case h3 => k_is); (case h4 => k_is); (case hn => exact .inr (by decide))
    case k_NoRatio_NoWay =>
      refine' MP.kit_own (b := false) ?a ?a2 (by decide) (by decide) ?h1 ?h2 ?h3 ?h4 ?hn
      (case a => k_is); (case a2 => k_is); (case h1 => k_is); (case h2 => k_is); (case h3 => k_is); (case h4 => k_is); (case hn => exact .inr (by decide))
    case k_NoRatio_NoText =>
      refine' MP.kit_own (b := false) ?a ?a2 (by decide) (by decide) ?h1 ?h2 ?h3 ?h4 ?hn
      (case a => k_is); (case a2 => k_is); (case h1 => k_is); (case h2 => k_is); (case h3 => k_is); (case h4 => k_is); (case hn => exact .inr (by decide))
    case k_NoRatio_NoName =>
      refine' MP.kit_own (b := false) ?a ?a2 (by decide) (by decide) ?h1 ?h2 ?h3 ?h4 ?hn
      (case a => k_is); (case a2 => k_is); (case h1 => k_is); (case h2 => k_is); (case h3 => k_is); (case h4 => k_is); (case hn => exact .inr (by decide))
    case k_NoRatio_NoEnd =>
      refine' MP.kit_own (b := false) ?a ?a2 (by decide) (by decide) ?h1 ?h2 ?h3 ?h4 ?hn
      (case a => k_is); (case a2 => k_is); (case h1 => k_is); (case h2 => k_is); (case h3 => k_is); (case h4 => k_is); (case hn => exact .inr (by decide))
    case k_NoRatio_NoRow =>
      refine' MP.kit_own (b := false) ?a ?a2 (by decide) (by decide) ?h1 ?h2 ?h3 ?h4 ?hn
      (case a => k_is); (case a2 => k_is); (case h1 => k_is); (case h2 => k_is); (case h3 => k_is); (case h4 => k_is); (case hn => exact .inr (by decide))
    case k_NoRatio_ValueError =>
      refine' MP.kit_val (b := true) ?a (by decide) (by decide +kernel) ?k ?e
      (case a => k_is); (case k => k_is); (case e => k_is)
    case k_NoCurve_CurveError =>
      refine' MP.kit_own (b := true) ?a ?a2 (by decide) (by decide) ?h1 ?h2 ?h3 ?h4 ?hn
      (case a => k_is); (case a2 => k_is); (case h1 => k_is); (case h2 => k_is); (case h3 => k_is); (case h4 => k_is); (case hn => exact .inl rfl)
    case k_NoCurve_NoRatio =>
      refine' MP.kit_own (b := false) ?a ?a2 (by decide) (by decide) ?h1 ?h2 ?h3 ?h4 ?hn
      (case a => k_is); (case a2 => k_is); (case h1 => k_is); (case h2 => k_is); (case h3 => k_is); (case h4 => k_is); (case hn => exact .inr (by decide))
    case k_NoCurve_NoCurve =>
      refine' MP.kit_own (b := true) ?a ?a2 (by decide) (by decide) ?h1 ?h2 ?h3 ?h4 ?hn
      (case a => k_is); (case a2 => k_is); (case h1 => k_is); (case h2 => k_is); (case h3 => k_is); (case h4 => k_is); (case hn => exact .inl rfl)
    case k_NoCurve_NoTime =>
      refine' MP.kit_own (b := false) ?a ?a2 (by decide) (by decide) ?h1 ?h2 ?h3 ?h4 ?hn
      (case a => k_is); (case a2 => k_is); (case h1 => k_is); (case h2 => k_is); (case h3 => k_is); (case h4 => k_is); (case hn => exact .inr (by decide))
    case k_NoCurve_NoHouse =>
      refine' MP.kit_own (b := false) ?a ?a2 (by decide) (by decide) ?h1 ?h2 ?h3 ?h4 ?hn
      (case a => k_is); (case a2 => k_is); (case h1 => k_is); (case h2 => k_is); (case h3 => k_is); (case h4 => k_is); (case hn => exact .inr (by decide))
    case k_NoCurve_NoWay =>
      refine' MP.kit_own (b := false) ?a ?a2 (by decide) (by decide) ?h1 ?h2 ?h3 ?h4 ?hn
      (case a => k_is); (case a2 => k_is); (case h1 => k_is); (case h2 => k_is); (case h3 => k_is); (case h4 => k_is); (case hn => exact .inr (by decide))
    case k_NoCurve_NoText =>
      refine' MP.kit_own (b := false) ?a ?a2 (by decide) (by decide) ?h1 ?h2 ?h3 ?h4 ?hn
      (case a => k_is); (case a2 => k_is); (case h1 => k_is); (case h2 => k_is); (case h3 => k_is); (case h4 => k_is); (case hn => exact .inr (by decide))
    case k_NoCurve_NoName =>
      refine' MP.kit_own (b := false) ?a ?a2 (by decide) (by decide) ?h1 ?h2 ?h3 ?h4 ?hn
      (case a => k_is); (case a2 => k_is); (case h1 => k_is); (case h2 => k_is); (case h3 => k_is); (case h4 => k_is); (case hn => exact .inr (by decide))
    case k_NoCurve_NoEnd =>
      refine' MP.kit_own (b := false) ?a ?a2 (by decide) (by decide) ?h1 ?h2 ?h3 ?h4 ?hn
      (case a => k_is); (case a2 => k_is); (case h1 => k_is); (case h2 => k_is); (case h3 => k_is); (case h4 => k_is); (case hn => exact .inr (by decide))
    case k_NoCurve_NoRow =>
      refine' MP.kit_own (b := false) ?a ?a2 (by decide) (by decide) ?h1 ?h2 ?h3 ?h4 ?hn
      (case a => k_is); (case a2 => k_is); (case h1 => k_is); (case h2 => k_is); (case h3 => k_is); (case h4 => k_is); (case hn => exact .inr (by decide))
    case k_NoCurve_ValueError =>
      refine' MP.kit_val (b := true) ?a (by decide) (by decide +kernel) ?k ?e
      (case a => k_is); (case k => k_is); (case e => k_is)
    (case lA => k_is); (case lL => k_is); (case lC => k_is); (case lK => k_is)

