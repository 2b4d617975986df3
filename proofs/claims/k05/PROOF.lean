import PyProof.Rows.All
import Wide.All
import OpenK.AllK
import Wide.FinOn
import HandS.ForMost
import HandS.ForExc
import HandS.TupAny
import HandS.Flow
import HandS.Style
import HandS.Wide
import HandS.Deep
import KE.DatumIndex
import PyProof.ReprBulk
import HandS.Defaults
import HandS.HeadEnd
import PyProof.Rows.StrMul
import HandS.Head0
import HandS.Head1
import HandS.Head2
import HandS.HeadHook1
import HandS.HeadHook2
import PySem.Challenge.RW_centsatonce_k05_marks_cut_and_joined
set_option Elab.async false
set_option linter.all false
set_option maxRecDepth 100000
set_option maxHeartbeats 4000000
-- DM
namespace Dl

/-! ## data -/
inductive D where
  | non | bl (b : Bool) | int (i : Int) | str (s : List Nat)
  | tup (xs : List D) | lst (xs : List D) | dct (ks vs : List D) | obj (c : Nat) (fs : List D) | hp

/-! ## results -/
inductive Res (S α : Type) where
  | ok (a : α) (s : S) | exc (c : Nat) (fs : List D) (s : S) | stuck
def M (S α : Type) := S → Res S α
@[reducible] def M.bnd {S α β : Type} (m : M S α) (f : α → M S β) : M S β := fun s =>
  match m s with
  | .ok a s' => f a s'
  | .exc c fs s' => .exc c fs s'
  | .stuck => .stuck
@[reducible] def M.pur {S α : Type} (a : α) : M S α := fun s => .ok a s
instance {S : Type} : Monad (M S) where
  pure := M.pur
  bind := M.bnd
theorem pure_run {S α : Type} (a : α) (s : S) : (pure a : M S α) s = .ok a s := rfl
theorem bind_run {S α β : Type} (m : M S α) (f : α → M S β) (s : S) : (m >>= f) s = match m s with
  | .ok a s' => f a s'
  | .exc c fs s' => .exc c fs s'
  | .stuck => .stuck := rfl
def M.stuck {S α : Type} : M S α := fun _ => .stuck
def M.exc {S α : Type} (c : Nat) (fs : List D) : M S α := fun s => .exc c fs s
instance {S : Type} : LawfulMonad (M S) := LawfulMonad.mk' (M S)
  (id_map := fun m => by
    funext s
    show M.bnd m (fun x => M.pur x) s = m s
    unfold M.bnd
    cases m s <;> rfl)
  (pure_bind := fun a f => rfl)
  (bind_assoc := fun m f g => by
    funext s
    show M.bnd (M.bnd m f) g s = M.bnd m (fun x => M.bnd (f x) g) s
    unfold M.bnd
    cases m s <;> rfl)
theorem stuck_bind {S α β : Type} (f : α → M S β) : (M.stuck >>= f) = M.stuck := rfl
theorem exc_bind {S α β : Type} (c : Nat) (fs : List D) (f : α → M S β) : (M.exc c fs >>= f) = M.exc c fs := rfl

inductive Slot where
  | emp | val (d : D) | own (xs : List D)
abbrev EvM (S α : Type) := List Slot → M S α
/-- a part of the model that is not had (or a Python error that no law meets) is stuck -/
def opt {S α : Type} : Option α → M S α
  | some a => pure a
  | none => M.stuck
theorem opt_some {S α : Type} (a : α) : (opt (some a) : M S α) = pure a := rfl
theorem opt_none {S α : Type} : (opt none : M S α) = M.stuck := rfl

/-- the most items of a sequence -/
def sz : Nat := 16777216
def fit (n : Nat) : Bool := decide (n ≤ 16777216)

/-! ## expressions -/
section
variable {S : Type}
def varE (i : Nat) : EvM S D := fun ρ => match ρ[i]? with
  | some (.val d) => pure d
  | _ => M.stuck
def varR (i : Nat) : EvM S D := fun ρ => match ρ[i]? with
  | some (.val d) => pure d
  | some (.own xs) => pure (.lst xs)
  | _ => M.stuck
def cE (d : D) : EvM S D := fun _ => pure d
def op1 {α β : Type} (f : α → Option β) (m : EvM S α) : EvM S β := fun ρ => do
  let a ← m ρ
  opt (f a)
def op2 {α β γ : Type} (f : α → β → Option γ) (m : EvM S α) (n : EvM S β) : EvM S γ := fun ρ => do
  let a ← m ρ
  let b ← n ρ
  opt (f a b)
def argNil : EvM S (List D) := fun _ => pure []
def argCons (m : EvM S D) (n : EvM S (List D)) : EvM S (List D) := fun ρ => do
  let a ← m ρ
  let b ← n ρ
  pure (a :: b)
def ifE {α : Type} (t : EvM S Bool) (m n : EvM S α) : EvM S α := fun ρ => do
  let b ← t ρ
  if b then m ρ else n ρ
def andQ (t u : EvM S Bool) : EvM S Bool := fun ρ => do
  let b ← t ρ
  if b then u ρ else pure false
def orQ (t u : EvM S Bool) : EvM S Bool := fun ρ => do
  let b ← t ρ
  if b then pure true else u ρ
def notQ (t : EvM S Bool) : EvM S Bool := fun ρ => do
  let b ← t ρ
  pure (!b)
/-- a comparison as a test, and in a chain -/
def cmpQ (f : D → D → Option D) (blOf : D → Option Bool) (m n : EvM S D) : EvM S Bool := op1 blOf (op2 f m n)
def chE (f g : D → D → Option D) (blOf : D → Option Bool) (l m n : EvM S D) : EvM S D := fun ρ => do
  let a ← l ρ
  let b ← m ρ
  let r ← opt (f a b)
  let k ← opt (blOf r)
  if k then do
    let c ← n ρ
    opt (g b c)
  else pure (.bl false)
/-- and, or, not of values, by truth -/
def andE (tru : D → Option Bool) (m n : EvM S D) : EvM S D := fun ρ => do
  let a ← m ρ
  let k ← opt (tru a)
  if k then n ρ else pure a
def orE (tru : D → Option Bool) (m n : EvM S D) : EvM S D := fun ρ => do
  let a ← m ρ
  let k ← opt (tru a)
  if k then pure a else n ρ
def callE (f : List D → M S D) (m : EvM S (List D)) : EvM S D := fun ρ => do
  let ds ← m ρ
  f ds
/-- the values at these places -/
def pick {α : Type} (is : List Nat) (xs : List α) : List α := is.filterMap fun i => xs[i]?
def permE (is : List Nat) (m : EvM S (List D)) : EvM S (List D) := fun ρ => do
  let ds ← m ρ
  pure (pick is ds)
def appE (m n : EvM S (List D)) : EvM S (List D) := fun ρ => do
  let a ← m ρ
  let b ← n ρ
  pure (a ++ b)
/-- a def that draws nothing, called by one that may -/
def lift {α : Type} (m : M Unit α) : M S α := fun s => match m () with
  | .ok a _ => .ok a s
  | .exc c fs _ => .exc c fs s
  | .stuck => .stuck
theorem lift_pure {α : Type} (a : α) : (lift (pure a) : M S α) = pure a := rfl
theorem lift_exc {α : Type} (c : Nat) (fs : List D) : (lift (M.exc c fs : M Unit α) : M S α) = M.exc c fs := rfl
end

/-! ## operations -/
section
variable {S : Type}
def b2i (b : Bool) : Int := if b then 1 else 0
mutual
/-- == of plain data -/
def eqv : D → D → Bool
  | .non, .non => true
  | .bl a, .bl b => a == b
  | .bl a, .int j => b2i a == j
  | .int i, .bl b => i == b2i b
  | .int i, .int j => i == j
  | .str x, .str y => x == y
  | .lst xs, .lst ys => eqvL xs ys
  | .tup xs, .tup ys => eqvL xs ys
  | _, _ => false
def eqvL : List D → List D → Bool
  | [], [] => true
  | x :: xs, y :: ys => eqv x y && eqvL xs ys
  | _, _ => false
end
mutual
/-- plain data of at most so deep -/
def okD : Nat → D → Bool
  | _, .non => true
  | _, .bl _ => true
  | _, .int _ => true
  | _, .str s => s.all fun c => decide (c < 1114112)
  | 0, .tup _ => false
  | 0, .lst _ => false
  | n + 1, .tup xs => okL n xs
  | n + 1, .lst xs => okL n xs
  | _, _ => false
def okL : Nat → List D → Bool
  | _, [] => true
  | n, x :: xs => okD n x && okL n xs
end
def pl (d : D) : Bool := okD 60 d
def addO : D → D → Option D
  | .int a, .int b => some (.int (a + b))
  | .int a, .bl b => some (.int (a + b2i b))
  | .str a, .str b => if fit (a.length + b.length) then some (.str (a ++ b)) else none
  | .tup a, .tup b => if fit (a.length + b.length) then some (.tup (a ++ b)) else none
  | .lst a, .lst b => if fit (a.length + b.length) then some (.lst (a ++ b)) else none
  | _, _ => none
def subO : D → D → Option D
  | .int a, .int b => some (.int (a - b))
  | _, _ => none
def mulOk (a b : Int) : Bool := decide ((-(2 ^ 64) < a ∧ a < 2 ^ 64) ∨ (-(2 ^ 64) < b ∧ b < 2 ^ 64) ∨ a.natAbs.log2 + b.natAbs.log2 < 1000000)
def mulO : D → D → Option D
  | .int a, .int b => if mulOk a b then some (.int (a * b)) else none
  | _, _ => none
/-- int * int, text * int -/
def mulA : D → D → Option D
  | .int a, .int b => if mulOk a b then some (.int (a * b)) else none
  | .str t, .int n => if t.length ≤ 1024 ∧ -(2 ^ 63) ≤ n ∧ n ≤ 16384 then some (.str (List.replicate n.toNat t).flatten) else none
  | _, _ => none
def divOk (b : Int) : Bool := decide (0 < b ∧ b.natAbs.log2 < 9000)
def fdivO : D → D → Option D
  | .int a, .int b => if divOk b then some (.int (a / b)) else none
  | _, _ => none
def modO : D → D → Option D
  | .int a, .int b => if 0 < b then some (.int (a % b)) else none
  | _, _ => none
def powO : D → D → Option D
  | .int a, .int b => if 0 ≤ b ∧ b ≤ 1000000 ∧ a.natAbs < 2 ^ 64 then some (.int (a ^ b.toNat)) else none
  | _, _ => none
def negO : D → Option D
  | .int a => some (.int (-a))
  | _ => none
def twoStr : D → D → Bool
  | .str _, .str _ => true
  | _, _ => false
def eqO (a b : D) : Option D := if twoStr a b || (pl a && pl b) then some (.bl (eqv a b)) else none
def neO (a b : D) : Option D := if twoStr a b || (pl a && pl b) then some (.bl (!eqv a b)) else none
mutual
/-- how long a value's text may be -/
def blk : D → Nat
  | .str t => t.length
  | .tup xs => blkL xs
  | .lst xs => blkL xs
  | _ => 0
def blkL : List D → Nat
  | [] => 0
  | x :: xs => blk x + 1 + blkL xs
end
mutual
/-- all ints of at most so many bits -/
def sho (b : Nat) : D → Bool
  | .int i => decide (i.natAbs < 2 ^ b)
  | .tup xs => shoL b xs
  | .lst xs => shoL b xs
  | _ => true
def shoL (b : Nat) : List D → Bool
  | [] => true
  | x :: xs => sho b x && shoL b xs
end
def reprOk (d : D) : Bool := pl d && ((sho 64 d && decide (67 * blk d + 65 ≤ 16777216)) || (sho 1900 d && decide (1903 * blk d + 1901 ≤ 16777216)))
/-- repr: sh is the text of a value -/
def reprO (sh : D → List Nat) (d : D) : Option D := if reprOk d then some (.str (sh d)) else none
/-- the order of texts -/
def strLt : List Nat → List Nat → Bool
  | _, [] => false
  | [], _ :: _ => true
  | x :: xs, y :: ys => if x = y then strLt xs ys else decide (x < y)
def ltO : D → D → Option D
  | .int a, .int b => some (.bl (decide (a < b)))
  | .str a, .str b => some (.bl (strLt a b))
  | _, _ => none
def leO : D → D → Option D
  | .int a, .int b => some (.bl (decide (a ≤ b)))
  | .str a, .str b => some (.bl (!strLt b a))
  | _, _ => none
def gtO : D → D → Option D
  | .int a, .int b => some (.bl (decide (b < a)))
  | .str a, .str b => some (.bl (strLt b a))
  | _, _ => none
def geO : D → D → Option D
  | .int a, .int b => some (.bl (decide (b ≤ a)))
  | .str a, .str b => some (.bl (!strLt a b))
  | _, _ => none
def isN : D → Bool
  | .non => true
  | _ => false
/-- is, is not: of None, of truth values -/
def isO : D → D → Option D
  | a, .non => some (.bl (isN a))
  | .bl a, .bl b => some (.bl (a == b))
  | _, _ => none
def isnO : D → D → Option D
  | a, .non => some (.bl (!isN a))
  | .bl a, .bl b => some (.bl (!(a == b)))
  | _, _ => none
def memD (x : D) (xs : List D) : Bool := xs.any fun y => eqv y x
def inO (x : D) : D → Option D
  | .tup xs => if pl x && okL 60 xs then some (.bl (memD x xs)) else none
  | .lst xs => if pl x && okL 60 xs then some (.bl (memD x xs)) else none
  | .str t => match x with
    | .str [c] => some (.bl (decide (c ∈ t)))
    | _ => none
  | _ => none
def ninO (x y : D) : Option D := match inO x y with
  | some (.bl b) => some (.bl (!b))
  | _ => none
/-- a place in a sequence of n items -/
def ixP (n : Nat) (i : Int) : Option Nat := if 0 ≤ i then (if i < n then some i.toNat else none) else if -(n : Int) ≤ i then some (i + n).toNat else none
def ixL (xs : List D) (i : Int) : Option D := (ixP xs.length i).bind fun j => xs[j]?
def ixO : D → D → Option D
  | .tup xs, .int i => ixL xs i
  | .lst xs, .int i => ixL xs i
  | .str t, .int i => if fit t.length then (ixP t.length i).bind fun j => t[j]?.map fun c => .str [c] else none
  | _, _ => none
/-- a bound of a slice -/
def slP (n d : Nat) : Option Int → Nat
  | none => d
  | some v => if v < 0 then (v + n).toNat else min v.toNat n
def cut {α : Type} (xs : List α) (lo hi : Option Int) : List α := (xs.drop (slP xs.length 0 lo)).take (slP xs.length xs.length hi - slP xs.length 0 lo)
def slO (lo hi : Option Int) : D → Option D
  | .tup xs => some (.tup (cut xs lo hi))
  | .lst xs => some (.lst (cut xs lo hi))
  | .str t => if fit t.length then some (.str (cut t lo hi)) else none
  | _ => none
def intO : D → Option Int
  | .int i => some i
  | _ => none
def slE (m : EvM S D) (lo hi : EvM S (Option Int)) : EvM S D := fun ρ => do
  let d ← m ρ
  let l ← lo ρ
  let h ← hi ρ
  opt (slO l h d)
def ptN : EvM S (Option Int) := fun _ => pure none
def ptS (m : EvM S D) : EvM S (Option Int) := op1 (fun d => (intO d).map some) m
def lenO : D → Option D
  | .tup xs => some (.int xs.length)
  | .lst xs => some (.int xs.length)
  | .str t => if fit t.length then some (.int t.length) else none
  | _ => none
def truO : D → Option Bool
  | .non => some false
  | .bl b => some b
  | .int i => some (i != 0)
  | .str t => if fit t.length then some (!t.isEmpty) else none
  | .tup xs => some (!xs.isEmpty)
  | .lst xs => some (!xs.isEmpty)
  | _ => none
def blO : D → Option Bool
  | .bl b => some b
  | _ => none
def notO (d : D) : Option D := (truO d).map fun k => .bl (!k)
def absO : D → Option D
  | .int i => some (.int (if i < 0 then -i else i))
  | _ => none
/-- int(..) -/
def toIntO : D → Option D
  | .int i => some (.int i)
  | .bl b => some (.int (if b then 1 else 0))
  | _ => none
def seqO : D → Option (List D)
  | .tup xs => some xs
  | .lst xs => some xs
  | _ => none
def revO : D → Option D
  | .lst xs => some (.lst xs.reverse)
  | _ => none
def lsO : D → Option (List D)
  | .lst xs => some xs
  | _ => none
def strO : D → Option (List Nat)
  | .str t => some t
  | _ => none
def strsO : List D → Option (List (List Nat))
  | [] => some []
  | d :: ds => (strO d).bind fun t => (strsO ds).map (t :: ·)
def joinL (S : List Nat) : List (List Nat) → List Nat
  | [] => []
  | [p] => p
  | p :: q :: r => p ++ (S ++ joinL S (q :: r))
def joinO (t : List Nat) (b : D) : Option D := (seqO b).bind fun xs => (strsO xs).bind fun ys =>
  if decide ((ys.map List.length).sum + ys.length * t.length ≤ 16777216) then some (.str (joinL t ys)) else none
/-- a method of a text, of one argument, of none -/
def sm1 (f : List Nat → D → Option D) (m n : EvM S D) : EvM S D := fun ρ => do
  let a ← m ρ
  let t ← opt (strO a)
  let b ← n ρ
  opt (f t b)
def sm0 (f : List Nat → Option D) (m : EvM S D) : EvM S D := fun ρ => do
  let a ← m ρ
  let t ← opt (strO a)
  opt (f t)
def intsO : List D → Option (List Int)
  | [] => some []
  | .int i :: ds => (intsO ds).map (i :: ·)
  | _ :: _ => none
def bools : List D → Option (List Bool)
  | [] => some []
  | .bl b :: ds => (bools ds).map (b :: ·)
  | _ :: _ => none
def sumO (d : D) : Option D := (lsO d).bind fun xs => (intsO xs).map fun ns => .int ns.sum
def allO (d : D) : Option D := (lsO d).bind fun xs => (bools xs).map fun bs => .bl (bs.all id)
def anyO (d : D) : Option D := (lsO d).bind fun xs => (bools xs).map fun bs => .bl (bs.any id)
def max2O : D → D → Option D
  | .int i, .int j => some (.int (if j > i then j else i))
  | _, _ => none
def min2O : D → D → Option D
  | .int i, .int j => some (.int (if j < i then j else i))
  | _, _ => none
def toLsO (d : D) : Option (List D) := seqO d
/-- tuple(..), list(..) -/
def toTupO (d : D) : Option D := (seqO d).map .tup
/-- what is walked -/
def itO : D → Option (List D)
  | .tup xs => some xs
  | .lst xs => some xs
  | .str t => some (t.map fun c => .str [c])
  | _ => none
def rngO (lo hi : Int) : List D := (List.range (hi - lo).toNat).map fun (k : Nat) => .int (lo + k)
/-- enumerate(..), zip(..) -/
def enO (xs : List D) (i : Nat) : List D := match xs with
  | [] => []
  | x :: r => .tup [.int i, x] :: enO r (i + 1)
def enumO (d : D) : Option (List D) := (lsO d).map fun xs => enO xs 0
def zipO (a b : D) : Option (List D) := (lsO a).bind fun xs => (lsO b).map fun ys => List.zipWith (fun x y => .tup [x, y]) xs ys
def rng1 : D → Option (List D)
  | .int n => if -(2 ^ 62) ≤ n ∧ n < 2 ^ 62 then some (rngO 0 n) else none
  | _ => none
def rng2 : D → D → Option (List D)
  | .int a, .int b => if -(2 ^ 62) ≤ a ∧ a < 2 ^ 62 ∧ -(2 ^ 62) ≤ b ∧ b < 2 ^ 62 then some (rngO a b) else none
  | _, _ => none

end

/-! ## statements -/
inductive Out (S : Type) where
  | nx (ρ : List Slot) (s : S) | bk (ρ : List Slot) (s : S) | ct (ρ : List Slot) (s : S) | ret (d : D) (s : S)
  | exc (c : Nat) (fs : List D) (ρ : List Slot) (s : S) | stuck
abbrev SM (S : Type) := List Slot → S → Out S
section
variable {S : Type}
def nopS : SM S := fun ρ s => .nx ρ s
def brkS : SM S := fun ρ s => .bk ρ s
def cntS : SM S := fun ρ s => .ct ρ s
def stkS : SM S := fun _ _ => .stuck
def seqS (a b : SM S) : SM S := fun ρ s => match a ρ s with
  | .nx ρ' s' => b ρ' s'
  | o => o
/-- an expression, then something -/
def bindS {α : Type} (m : EvM S α) (k : α → SM S) : SM S := fun ρ s => match m ρ s with
  | .ok a s' => k a ρ s'
  | .exc c fs s' => .exc c fs ρ s'
  | .stuck => .stuck
def asgS (i : Nat) (m : EvM S D) : SM S := bindS m fun d ρ s => .nx (ρ.set i (.val d)) s
def asgO (i : Nat) (m : EvM S (List D)) : SM S := bindS m fun xs ρ s => .nx (ρ.set i (.own xs)) s
def retS (m : EvM S D) : SM S := bindS m fun d _ s => .ret d s
def retN : SM S := fun _ s => .ret .non s
def drpS (m : EvM S D) : SM S := bindS m fun _ ρ s => .nx ρ s
def ifS (t : EvM S Bool) (a b : SM S) : SM S := bindS t fun c => if c then a else b
/-- a list that only a slot has is known from here on -/
def frzS (i : Nat) (m : SM S) : SM S := fun ρ s => match ρ[i]? with
  | some (.own xs) => m (ρ.set i (.val (.lst xs))) s
  | _ => m ρ s
/-- a change of a slot's own list, by a value -/
def mutS (i : Nat) (m : EvM S D) (f : List D → D → Option (List D)) : SM S := fun ρ s => match ρ[i]? with
  | some (.own xs) => bindS m (fun d ρ s => match f xs d with
    | some ys => .nx (ρ.set i (.own ys)) s
    | none => .stuck) ρ s
  | _ => .stuck
/-- xs[k] = v, xs a slot's own list -/
def putS (i : Nat) (mk m : EvM S D) : SM S := bindS m fun v ρ s => match ρ[i]? with
  | some (.own xs) => bindS mk (fun k ρ s => match (intO k).bind fun j => ixP xs.length j with
    | some j => .nx (ρ.set i (.own (xs.set j v))) s
    | none => .stuck) ρ s
  | _ => .stuck
/-- y = xs.pop(), xs a slot's own list -/
def popS (i j : Nat) : SM S := fun ρ s => match ρ[i]? with
  | some (.own xs) => match xs[xs.length - 1]? with
    | some y => .nx ((ρ.set i (.own xs.dropLast)).set j (.val y)) s
    | none => .stuck
  | _ => .stuck
def popN (i : Nat) : SM S := fun ρ s => match ρ[i]? with
  | some (.own xs) => match xs[xs.length - 1]? with
    | some _ => .nx (ρ.set i (.own xs.dropLast)) s
    | none => .stuck
  | _ => .stuck
/-- several at once -/
def mixNil : EvM S (List Slot) := fun _ => pure []
def mixVal (m : EvM S D) (n : EvM S (List Slot)) : EvM S (List Slot) := fun ρ => do
  let d ← m ρ
  let qs ← n ρ
  pure (.val d :: qs)
def mixOwn (m : EvM S (List D)) (n : EvM S (List Slot)) : EvM S (List Slot) := fun ρ => do
  let d ← m ρ
  let qs ← n ρ
  pure (.own d :: qs)
def setAll : List Nat → List Slot → List Slot → Option (List Slot)
  | [], [], ρ => some ρ
  | i :: is, q :: qs, ρ => setAll is qs (ρ.set i q)
  | _, _, _ => none
def parS (is : List Nat) (m : EvM S (List Slot)) : SM S := bindS m fun qs ρ s => match setAll is qs ρ with
  | some ρ' => .nx ρ' s
  | none => .stuck
/-- a value, then a target -/
def asgT (m : EvM S D) (g : D → List Slot → Option (List Slot)) : SM S := bindS m fun d ρ s => match g d ρ with
  | some ρ' => .nx ρ' s
  | none => .stuck
def appF (xs : List D) (d : D) : Option (List D) := if xs.length < 16777216 then some (xs ++ [d]) else none
/-- targets -/
abbrev Tg := D → List Slot → Option (List Slot)
def tgN (i : Nat) : Tg := fun d ρ => some (ρ.set i (.val d))
def tgNil : List D → List Slot → Option (List Slot) := fun ds ρ => match ds with
  | [] => some ρ
  | _ => none
def tgCons (g : Tg) (h : List D → List Slot → Option (List Slot)) : List D → List Slot → Option (List Slot) := fun ds ρ => match ds with
  | d :: r => (g d ρ).bind fun ρ' => h r ρ'
  | [] => none
def tgT (h : List D → List Slot → Option (List Slot)) : Tg := fun d ρ => match d with
  | .tup xs => h xs ρ
  | _ => none
def forGo (g : Tg) (b : SM S) : List D → SM S
  | [], ρ, s => .nx ρ s
  | x :: xs, ρ, s => match g x ρ with
    | none => .stuck
    | some ρ1 => match b ρ1 s with
      | .nx ρ2 s2 => forGo g b xs ρ2 s2
      | .ct ρ2 s2 => forGo g b xs ρ2 s2
      | .bk ρ2 s2 => .nx ρ2 s2
      | .ret d s2 => .ret d s2
      | .exc c fs ρ2 s2 => .exc c fs ρ2 s2
      | .stuck => .stuck
def forS (it : EvM S (List D)) (g : Tg) (b : SM S) : SM S := bindS it (forGo g b)
def whlN (t : EvM S Bool) (b : SM S) : Nat → SM S
  | 0, _, _ => .stuck
  | n + 1, ρ, s => match t ρ s with
    | .ok true s1 => match b ρ s1 with
      | .nx ρ2 s2 => whlN t b n ρ2 s2
      | .ct ρ2 s2 => whlN t b n ρ2 s2
      | .bk ρ2 s2 => .nx ρ2 s2
      | .ret d s2 => .ret d s2
      | .exc c fs ρ2 s2 => .exc c fs ρ2 s2
      | .stuck => .stuck
    | .ok false s1 => .nx ρ s1
    | .exc c fs s1 => .exc c fs ρ s1
    | .stuck => .stuck
theorem whlN_more (t : EvM S Bool) (b : SM S) : ∀ (n k : Nat) (ρ : List Slot) (s : S), whlN t b n ρ s ≠ .stuck → whlN t b (n + k) ρ s = whlN t b n ρ s
  | 0, _, _, _, h => absurd rfl h
  | n + 1, k, ρ, s, h => by
    have e : n + 1 + k = (n + k) + 1 := by omega
    rw [e]
    unfold whlN at h ⊢
    split
    · rename_i s1 e1
      simp only [e1] at h
      split
      · rename_i ρ2 s2 e2
        simp only [e2] at h
        exact whlN_more t b n k ρ2 s2 h
      · rename_i ρ2 s2 e2
        simp only [e2] at h
        exact whlN_more t b n k ρ2 s2 h
      · rfl
      · rfl
      · rfl
      · rfl
    · rfl
    · rfl
    · rfl
open Classical in
/-- a while that ends; stuck where it doesn't -/
noncomputable def whlS (t : EvM S Bool) (b : SM S) : SM S := fun ρ s =>
  if h : ∃ n, whlN t b n ρ s ≠ .stuck then whlN t b (Classical.choose h) ρ s else .stuck
theorem whlS_of (t : EvM S Bool) (b : SM S) (n : Nat) (ρ : List Slot) (s : S) (o : Out S) (h : whlN t b n ρ s = o) (ho : o ≠ .stuck) : whlS t b ρ s = o := by
  have hn : whlN t b n ρ s ≠ .stuck := by rw [h]; exact ho
  have hx : ∃ n, whlN t b n ρ s ≠ .stuck := ⟨n, hn⟩
  unfold whlS
  rw [dif_pos hx]
  have h1 := whlN_more t b (Classical.choose hx) n ρ s (Classical.choose_spec hx)
  have h2 := whlN_more t b n (Classical.choose hx) ρ s hn
  rw [← h1, Nat.add_comm, h2, h]
theorem whlS_ex (t : EvM S Bool) (b : SM S) (ρ : List Slot) (s : S) (h : whlS t b ρ s ≠ .stuck) : ∃ n, whlN t b n ρ s = whlS t b ρ s := by
  unfold whlS at h ⊢
  by_cases hx : ∃ n, whlN t b n ρ s ≠ .stuck
  · rw [dif_pos hx]
    exact ⟨_, rfl⟩
  · rw [dif_neg hx] at h
    exact absurd rfl h
/-- one turn -/
theorem whlS_eq (t : EvM S Bool) (b : SM S) (ρ : List Slot) (s : S) : whlS t b ρ s = match t ρ s with
    | .ok true s1 => match b ρ s1 with
      | .nx ρ2 s2 => whlS t b ρ2 s2
      | .ct ρ2 s2 => whlS t b ρ2 s2
      | .bk ρ2 s2 => .nx ρ2 s2
      | .ret d s2 => .ret d s2
      | .exc c fs ρ2 s2 => .exc c fs ρ2 s2
      | .stuck => .stuck
    | .ok false s1 => .nx ρ s1
    | .exc c fs s1 => .exc c fs ρ s1
    | .stuck => .stuck := by
  have stk : ∀ o : Out S, (o ≠ .stuck → whlS t b ρ s = o) → (whlS t b ρ s ≠ .stuck → whlS t b ρ s = o) → whlS t b ρ s = o := fun o h1 h2 => by
    by_cases e : o = .stuck
    · by_cases e2 : whlS t b ρ s = .stuck
      · rw [e, e2]
      · exact h2 e2
    · exact h1 e
  have one : ∀ n, whlN t b (n + 1) ρ s = match t ρ s with
    | .ok true s1 => match b ρ s1 with
      | .nx ρ2 s2 => whlN t b n ρ2 s2
      | .ct ρ2 s2 => whlN t b n ρ2 s2
      | .bk ρ2 s2 => .nx ρ2 s2
      | .ret d s2 => .ret d s2
      | .exc c fs ρ2 s2 => .exc c fs ρ2 s2
      | .stuck => .stuck
    | .ok false s1 => .nx ρ s1
    | .exc c fs s1 => .exc c fs ρ s1
    | .stuck => .stuck := fun n => by rw [whlN]
  have zero : ∀ n, whlN t b n ρ s = whlS t b ρ s → whlS t b ρ s ≠ .stuck → ∃ k, n = k + 1 := fun n e h => by
    cases n with
    | zero =>
      rw [← e] at h
      exact absurd (show whlN t b 0 ρ s = .stuck by rw [whlN]) h
    | succ k => exact ⟨k, rfl⟩
  refine stk _ (fun h => ?_) (fun h => ?_)
  · -- the right side ends
    revert h
    cases e1 : t ρ s with
    | ok c s1 =>
      cases c with
      | true =>
        dsimp only
        cases e2 : b ρ s1 with
        | nx ρ2 s2 =>
          intro h
          obtain ⟨n, e⟩ := whlS_ex t b ρ2 s2 h
          refine whlS_of t b (n + 1) ρ s _ ?_ h
          rw [one]; simp only [e1, e2]; exact e
        | ct ρ2 s2 =>
          intro h
          obtain ⟨n, e⟩ := whlS_ex t b ρ2 s2 h
          refine whlS_of t b (n + 1) ρ s _ ?_ h
          rw [one]; simp only [e1, e2]; exact e
        | bk ρ2 s2 => intro h; exact whlS_of t b 1 ρ s _ (by rw [one 0]; simp only [e1, e2]) h
        | ret d s2 => intro h; exact whlS_of t b 1 ρ s _ (by rw [one 0]; simp only [e1, e2]) h
        | exc c fs ρ2 s2 => intro h; exact whlS_of t b 1 ρ s _ (by rw [one 0]; simp only [e1, e2]) h
        | stuck => intro h; exact absurd rfl h
      | false => intro h; exact whlS_of t b 1 ρ s _ (by rw [one 0]; simp only [e1]) h
    | exc c fs s1 => intro h; exact whlS_of t b 1 ρ s _ (by rw [one 0]; simp only [e1]) h
    | stuck => intro h; exact absurd rfl h
  · obtain ⟨n, e⟩ := whlS_ex t b ρ s h
    obtain ⟨k, rfl⟩ := zero n e h
    rw [← e, one]
    rw [← e, one] at h
    revert h
    cases e1 : t ρ s with
    | ok c s1 =>
      cases c with
      | true =>
        dsimp only
        cases e2 : b ρ s1 with
        | nx ρ2 s2 => intro h; exact (whlS_of t b k ρ2 s2 _ rfl h).symm
        | ct ρ2 s2 => intro h; exact (whlS_of t b k ρ2 s2 _ rfl h).symm
        | _ => intro _; rfl
      | false => intro _; rfl
    | exc c fs s1 => intro _; rfl
    | stuck => intro _; rfl
/-- a def's body, its result -/
def outM (o : Out S) : Res S D := match o with
  | .nx _ s => .ok .non s
  | .ret d s => .ok d s
  | .exc c fs _ s => .exc c fs s
  | _ => .stuck
/-- a def: so many slots, the body -/
def defM (n : Nat) (k : Nat) (b : SM S) : List D → M S D := fun ds s =>
  if ds.length = k then outM (b (ds.map Slot.val ++ List.replicate (n - k) Slot.emp) s) else .stuck

/-! ## comprehensions -/
def noexc {α : Type} (m : M S α) : M S α := fun s => match m s with
  | .ok a s' => .ok a s'
  | _ => .stuck
theorem noexc_pure {α : Type} (a : α) : (noexc (pure a) : M S α) = pure a := rfl
def wipeR (ρ : List Slot) : List Nat → List Slot
  | [] => ρ
  | v :: vs => (wipeR ρ vs).set v .emp
def lcGo (g : Tg) (t : EvM S Bool) (e : EvM S D) (ρ : List Slot) : List D → M S (List D)
  | [] => pure []
  | x :: xs => do
    let ρ1 ← opt (g x ρ)
    let b ← noexc (t ρ1)
    if b then do
      let y ← noexc (e ρ1)
      let ys ← lcGo g t e ρ xs
      pure (y :: ys)
    else lcGo g t e ρ xs
def lcO (it : EvM S (List D)) (vs : List Nat) (g : Tg) (t : EvM S Bool) (e : EvM S D) : EvM S (List D) := fun ρ => do
  let xs ← it ρ
  if xs.length ≤ 16777216 then lcGo g t e (wipeR ρ vs) xs else M.stuck
def yesQ : EvM S Bool := fun _ => pure true
/-- a new list, known at once -/
def lstE (m : EvM S (List D)) : EvM S D := fun ρ => do
  let xs ← m ρ
  pure (.lst xs)
def tupE (m : EvM S (List D)) : EvM S D := fun ρ => do
  let xs ← m ρ
  if fit xs.length then pure (.tup xs) else M.stuck
def disO (m : EvM S (List D)) : EvM S (List D) := fun ρ => do
  let xs ← m ρ
  if fit xs.length then pure xs else M.stuck
end

/-! ## the drawn numbers -/
abbrev DS := List Int × Int
def hpAt (ρ : List Slot) (i : Nat) : Bool := match ρ[i]? with
  | some (.val .hp) => true
  | _ => false
def hSt (i : Nat) : EvM DS D := fun ρ s => if hpAt ρ i = true then .ok (.int s.2) s else .stuck
def hLast (i : Nat) : EvM DS D := fun ρ s => if hpAt ρ i = true then (match s.1[s.1.length - 1]? with
  | some k => .ok (.int k) s
  | none => .stuck) else .stuck
def hNe (i : Nat) : EvM DS Bool := fun ρ s => if hpAt ρ i = true then .ok (!s.1.isEmpty) s else .stuck
def hPopN (i : Nat) : SM DS := fun ρ s => if hpAt ρ i = true then (match s.1[s.1.length - 1]? with
  | some _ => .nx ρ (s.1.dropLast, s.2)
  | none => .stuck) else .stuck
def hPop (i j : Nat) : SM DS := fun ρ s => if hpAt ρ i = true then (match s.1[s.1.length - 1]? with
  | some k => .nx (ρ.set j (.val (.int k))) (s.1.dropLast, s.2)
  | none => .stuck) else .stuck
def hApp (i : Nat) (m : EvM DS D) : SM DS := fun ρ s => if hpAt ρ i = true then bindS m (fun d ρ s => match intO d with
  | some n => if s.1.length < 16777216 then .nx ρ (s.1 ++ [n], s.2) else .stuck
  | none => .stuck) ρ s else .stuck
def hSet (i : Nat) (m : EvM DS D) : SM DS := bindS m fun d ρ s => if hpAt ρ i = true then (match intO d with
  | some n => .nx ρ (s.1, n)
  | none => .stuck) else .stuck
/-- a drawn number below the second argument -/
noncomputable def drawB (a b : Int) : SM DS := seqS (whlS (andQ (hNe 0) (cmpQ eqO blO (hLast 0) (cE (.int 0)))) (hPopN 0)) (seqS
  (ifS (hNe 0) (seqS (hPop 0 2) (seqS (hApp 0 (op2 fdivO (varR 2) (varR 1))) (retS (op2 modO (op1 toIntO (varR 2)) (varR 1))))) nopS) (seqS
  (hSet 0 (op2 modO (op1 toIntO (op2 addO (op2 mulA (hSt 0) (cE (.int a))) (cE (.int b)))) (cE (.int 2147483647))))
  (retS (op2 modO (op1 toIntO (op2 fdivO (hSt 0) (cE (.int 32)))) (varR 1)))))
noncomputable def drawM (a b : Int) : List D → M DS D := defM 3 2 (drawB a b)
/-- the first def of a law, in parts -/
noncomputable def heap1 (seed : Int) : SM Unit := parS [1, 2] (mixVal (lstE (lcO (op1 itO (slE (varR 0) ptN (ptS (cE (.int 60))))) [3] (tgN 3) (yesQ) (op2 addO (op2 mulA (cE (.int 2)) (op1 absO (varR 3))) (op1 toIntO (op2 ltO (varR 3) (cE (.int 0))))))) (mixVal (cE (.int seed)) (mixNil)))
noncomputable def heap2 (a m b n : Int) : SM Unit := forS (op1 itO (varE 1)) (tgN 3) (asgS 2 (op2 modO (op1 toIntO (op2 addO (op2 addO (op2 mulA (varR 2) (cE (.int a))) (op2 modO (op1 toIntO (varR 3)) (cE (.int m)))) (cE (.int b)))) (cE (.int n))))
noncomputable def heap3 : EvM Unit (List D) := op1 (fun d => (lsO d).map List.reverse) (lstE (lcO (op1 itO (varE 1)) [3] (tgN 3) (cmpQ geO blO (varR 3) (op2 powO (cE (.int 10)) (cE (.int 18)))) (varE 3)))
noncomputable def heap4 : EvM Unit D := varE 2
end Dl
-- DN
namespace Dl
/-! ## running mirrors -/
variable {S : Type}
theorem slot0 {α : Type} (a : α) (l : List α) : (a :: l)[0]? = some a := rfl
theorem slotS {α : Type} (a : α) (l : List α) (i : Nat) : (a :: l)[i + 1]? = l[i]? := rfl
theorem run_varE {ρ : List Slot} {i : Nat} {d : D} (h : ρ[i]? = some (.val d)) : (varE i ρ : M S D) = pure d := by unfold varE; rw [h]
theorem run_varR {ρ : List Slot} {i : Nat} {d : D} (h : ρ[i]? = some (.val d)) : (varR i ρ : M S D) = pure d := by unfold varR; rw [h]
theorem run_varO {ρ : List Slot} {i : Nat} {xs : List D} (h : ρ[i]? = some (.own xs)) : (varR i ρ : M S D) = pure (.lst xs) := by unfold varR; rw [h]
mutual
theorem eqv_refl : ∀ (n : Nat) (d : D), okD n d = true → eqv d d = true
  | _, .non, _ => rfl
  | _, .bl b, _ => by simp [eqv]
  | _, .int i, _ => by simp [eqv]
  | _, .str s, _ => by simp [eqv]
  | 0, .tup xs, h => by simp [okD] at h
  | 0, .lst xs, h => by simp [okD] at h
  | n + 1, .tup xs, h => by rw [eqv]; exact eqv_reflL n xs (by simpa [okD] using h)
  | n + 1, .lst xs, h => by rw [eqv]; exact eqv_reflL n xs (by simpa [okD] using h)
  | 0, .dct _ _, h => by simp [okD] at h
  | n + 1, .dct _ _, h => by simp [okD] at h
  | 0, .obj _ _, h => by simp [okD] at h
  | n + 1, .obj _ _, h => by simp [okD] at h
  | 0, .hp, h => by simp [okD] at h
  | n + 1, .hp, h => by simp [okD] at h
theorem eqv_reflL : ∀ (n : Nat) (ds : List D), okL n ds = true → eqvL ds ds = true
  | _, [], _ => rfl
  | n, d :: ds, h => by
    rw [okL, Bool.and_eq_true] at h
    rw [eqvL, eqv_refl n d h.1, eqv_reflL n ds h.2]; rfl
end
theorem noexc_ok {α : Type} {m : M S α} {s s' : S} {a : α} (h : m s = .ok a s') : noexc m s = .ok a s' := by unfold noexc; rw [h]
/-- a comprehension, turn by turn -/
theorem lcGo_ex {g : Tg} {t : EvM S Bool} {e : EvM S D} {ρ : List Slot} (I : S → Prop) (P : D → Prop) : ∀ (xs : List D) (s : S), I s →
    (∀ x ∈ xs, ∀ s, I s → ∃ ρ1 s1 y s2, g x ρ = some ρ1 ∧ t ρ1 s = .ok true s1 ∧ e ρ1 s1 = .ok y s2 ∧ I s2 ∧ P y) → ∃ ys s', lcGo g t e ρ xs s = .ok ys s' ∧ ys.length = xs.length ∧ (∀ y ∈ ys, P y) ∧ I s'
  | [], s, hI, h => ⟨[], s, rfl, rfl, fun y hy => (by cases hy), hI⟩
  | x :: xs, s, hI, h => by
    obtain ⟨ρ1, s1, y, s2, e1, e2, e3, hI2, hP⟩ := h x (by simp) s hI
    obtain ⟨ys, s3, e4, hl, hy, hI3⟩ := lcGo_ex I P xs s2 hI2 fun z hz => h z (by simp [hz])
    refine ⟨y :: ys, s3, ?_, by simp [hl], fun z hz => ?_, hI3⟩
    · unfold lcGo
      simp only [bind_run, e1, opt_some, pure_run, noexc_ok e2, noexc_ok e3, e4, if_true]
    · rcases List.mem_cons.mp hz with rfl | hz
      · exact hP
      · exact hy z hz
/-- .. that draws nothing: what it makes -/
theorem lcGo_map {g : Tg} {t : EvM S Bool} {e : EvM S D} {ρ : List Slot} {s : S} (f : D → D) (c : D → Bool) : ∀ (xs : List D),
    (∀ x ∈ xs, ∃ ρ1, g x ρ = some ρ1 ∧ t ρ1 s = .ok (c x) s ∧ (c x = true → e ρ1 s = .ok (f x) s)) → lcGo g t e ρ xs s = .ok ((xs.filter c).map f) s
  | [], h => rfl
  | x :: xs, h => by
    obtain ⟨ρ1, e1, e2, e3⟩ := h x (by simp)
    have ih := lcGo_map f c xs fun z hz => h z (by simp [hz])
    unfold lcGo
    cases q : c x with
    | true =>
      rw [q] at e2
      simp only [bind_run, e1, opt_some, pure_run, noexc_ok e2, noexc_ok (e3 q), ih, if_true, List.filter_cons, q, List.map_cons]
    | false =>
      rw [q] at e2
      simp only [bind_run, e1, opt_some, pure_run, noexc_ok e2, ih, Bool.false_eq_true, if_false, List.filter_cons, q]
/-- a for, turn by turn: an invariant -/
theorem forGo_inv {g : Tg} {b : SM S} (I : List D → List Slot → S → Prop) : ∀ (xs : List D) (ρ : List Slot) (s : S), I xs ρ s →
    (∀ x xs ρ s, I (x :: xs) ρ s → ∃ ρ1, g x ρ = some ρ1 ∧ ∃ ρ2 s2, (b ρ1 s = .nx ρ2 s2 ∨ b ρ1 s = .ct ρ2 s2) ∧ I xs ρ2 s2) → ∃ ρ' s', forGo g b xs ρ s = .nx ρ' s' ∧ I [] ρ' s'
  | [], ρ, s, hI, h => ⟨ρ, s, rfl, hI⟩
  | x :: xs, ρ, s, hI, h => by
    obtain ⟨ρ1, e1, ρ2, s2, e2, hI2⟩ := h x xs ρ s hI
    obtain ⟨ρ3, s3, e3, hI3⟩ := forGo_inv I xs ρ2 s2 hI2 h
    refine ⟨ρ3, s3, ?_, hI3⟩
    unfold forGo
    rcases e2 with e2 | e2 <;> simp only [e1, e2, e3]
theorem defM_run {n k : Nat} {b : SM S} {ds : List D} {s : S} (h : ds.length = k) : defM n k b ds s = outM (b (ds.map Slot.val ++ List.replicate (n - k) Slot.emp) s) := by unfold defM; rw [if_pos h]
/-! ## drawn numbers -/
theorem last_drop {xs : List Int} {k : Int} (h : xs[xs.length - 1]? = some k) : 0 < xs.length := by
  cases xs with
  | nil => simp at h
  | cons a b => simp
theorem draw_while (n : D) (r : Slot) : ∀ (m : Nat) (s : DS), s.1.length = m → ∃ s' : DS, whlS (andQ (hNe 0) (cmpQ eqO blO (hLast 0) (cE (.int 0)))) (hPopN 0) [.val .hp, .val n, r] s = .nx [.val .hp, .val n, r] s' ∧ s'.1.length ≤ m := by
  intro m
  induction m with
  | zero =>
    intro s h
    refine ⟨s, ?_, by omega⟩
    have e : s.1 = [] := List.eq_nil_of_length_eq_zero h
    rw [whlS_eq]
    simp [andQ, hNe, hpAt, bind_run, pure_run, e]
  | succ m ih =>
    intro s h
    obtain ⟨k, hk⟩ : ∃ k, s.1[s.1.length - 1]? = some k := ⟨s.1[s.1.length - 1]'(by omega), by simp⟩
    have ne : s.1.isEmpty = false := by cases q : s.1 with
      | nil => rw [q] at h; simp at h
      | cons _ _ => rfl
    rw [whlS_eq]
    by_cases z : k = 0
    · subst z
      obtain ⟨s', e, hl⟩ := ih (s.1.dropLast, s.2) (by simp; omega)
      refine ⟨s', ?_, by omega⟩
      simp only [andQ, hNe, hpAt, bind_run, pure_run, ne, slot0, Bool.not_false, if_true, cmpQ, op1, op2, hLast, hk, cE, eqO, pl, okD, eqv, Bool.or_true, Bool.and_self, opt_some, blO, beq_self_eq_true, hPopN, twoStr]
      exact e
    · refine ⟨s, ?_, by omega⟩
      have : (k == 0) = false := by simpa using z
      simp only [andQ, hNe, hpAt, bind_run, pure_run, ne, slot0, Bool.not_false, if_true, cmpQ, op1, op2, hLast, hk, cE, eqO, pl, okD, eqv, Bool.or_true, Bool.and_self, opt_some, blO, this, twoStr]
theorem mod_lt {a n : Int} (h : 0 < n) : 0 ≤ a % n ∧ a % n < n := ⟨Int.emod_nonneg _ (by omega), Int.emod_lt_of_pos _ h⟩
theorem draw_ok (a b n : Int) (hA : -(2 ^ 64) < a ∧ a < 2 ^ 64) (h : 0 < n) (hn : n.natAbs.log2 < 9000) (s : DS) (hs : s.1.length ≤ 60) : ∃ i s', drawM a b [.hp, .int n] s = .ok (.int i) s' ∧ 0 ≤ i ∧ i < n ∧ s'.1.length ≤ 60 := by
  obtain ⟨s1, e1, hl⟩ := draw_while (.int n) .emp s.1.length s rfl
  have dv : divOk n = true := decide_eq_true ⟨h, hn⟩
  unfold drawM
  show ∃ i s', outM (drawB a b [.val .hp, .val (.int n), .emp] s) = _ ∧ _
  unfold drawB seqS
  simp only [e1]
  by_cases z : s1.1 = []
  · refine ⟨((s1.2 * a + b) % 2147483647 / 32) % n, (s1.1, (s1.2 * a + b) % 2147483647), ?_, (mod_lt h).1, (mod_lt h).2, by show s1.1.length ≤ 60; omega⟩
    have e2 : s1.1.isEmpty = true := by rw [z]; rfl
    have mo : mulOk s1.2 a = true := decide_eq_true (.inr (.inl hA))
    have d32 : divOk 32 = true := by decide
    have m0 : (0 : Int) < 2147483647 := by decide
    simp only [ifS, bindS, hNe, hpAt, slot0, if_true, e2, Bool.not_true, Bool.false_eq_true, if_false, nopS, hSet, op2, op1, hSt, cE, bind_run, pure_run, mulA, mo, opt_some, addO, toIntO, modO, m0, intO, retS, varR, slotS, fdivO, d32, h, outM]
  · obtain ⟨k, hk⟩ : ∃ k, s1.1[s1.1.length - 1]? = some k := by
      have : 0 < s1.1.length := by cases q : s1.1 with
        | nil => exact absurd q z
        | cons _ _ => simp
      exact ⟨s1.1[s1.1.length - 1]'(by omega), by simp⟩
    have e2 : s1.1.isEmpty = false := by cases q : s1.1 with
      | nil => exact absurd q z
      | cons _ _ => rfl
    have hp := last_drop hk
    refine ⟨k % n, (s1.1.dropLast ++ [k / n], s1.2), ?_, (mod_lt h).1, (mod_lt h).2, by simp; omega⟩
    have fits : s1.1.dropLast.length < 16777216 := by simp; omega
    simp only [ifS, bindS, hNe, hpAt, slot0, if_true, e2, Bool.not_false, seqS, hPop, hk, hApp, op2, op1, varR, slotS, bind_run, pure_run, fdivO, dv, opt_some, intO, fits, retS, toIntO, modO, h, outM, List.set_cons_succ, List.set_cons_zero]

/-! ## the first def of a law -/
theorem cut_to {α : Type} (xs : List α) (k : Nat) : cut xs none (some (k : Int)) = xs.take k := by
  unfold cut slP
  dsimp only
  rw [if_neg (by omega)]
  simp only [Nat.sub_zero, List.drop_zero, Int.toNat_natCast]
  by_cases h : k ≤ xs.length
  · rw [Nat.min_eq_left h]
  · rw [Nat.min_eq_right (by omega), List.take_of_length_le (Nat.le_refl _), List.take_of_length_le (by omega)]
def cellOf (i : Int) : Int := 2 * (if i < 0 then -i else i) + (if i < 0 then 1 else 0)
theorem heap1_run (seed : Int) (ns : List Int) : heap1 seed [.val (.lst (ns.map D.int)), .emp, .emp, .emp] () = .nx [.val (.lst (ns.map D.int)), .val (.lst (((ns.take 60).map cellOf).map D.int)), .val (.int seed), .emp] () := by
  have e : cut (ns.map D.int) none (some 60) = (ns.take 60).map D.int := by rw [show (60 : Int) = ((60 : Nat) : Int) from rfl, cut_to, List.map_take]
  have hl : ((ns.take 60).map D.int).length ≤ 16777216 := by simp; omega
  have key : lcGo (S := Unit) (tgN 3) yesQ (op2 addO (op2 mulA (cE (.int 2)) (op1 absO (varR 3))) (op1 toIntO (op2 ltO (varR 3) (cE (.int 0))))) [.val (.lst (ns.map D.int)), .emp, .emp, .emp] ((ns.take 60).map D.int) () = .ok (((ns.take 60).map cellOf).map D.int) () := by
    rw [lcGo_map (fun d => match d with | .int i => .int (cellOf i) | d => d) (fun _ => true)]
    · rw [List.filter_eq_self.mpr (fun _ _ => rfl), List.map_map, List.map_map]
      rfl
    · intro x hx
      obtain ⟨i, _, rfl⟩ := List.mem_map.mp hx
      refine ⟨_, rfl, rfl, fun _ => ?_⟩
      have mo : mulOk 2 (if i < 0 then -i else i) = true := decide_eq_true (.inl ⟨by decide, by decide⟩)
      unfold cellOf
      by_cases z : i < 0
      · simp only [op2, op1, cE, varR, bind_run, pure_run, List.set_cons_succ, List.set_cons_zero, slot0, slotS, absO, opt_some, mulA, mo, if_true, ltO, z, decide_true, toIntO, addO] at mo ⊢
        simp only [mo, if_true, opt_some, pure_run]
      · simp only [op2, op1, cE, varR, bind_run, pure_run, List.set_cons_succ, List.set_cons_zero, slot0, slotS, absO, opt_some, mulA, mo, if_true, ltO, z, decide_false, toIntO, addO, if_false, Bool.false_eq_true] at mo ⊢
        simp only [mo, if_true, opt_some, pure_run]
  unfold heap1 parS bindS
  simp only [mixVal, lstE, lcO, op1, slE, varR, slot0, ptN, ptS, cE, bind_run, pure_run, opt_some, intO, Option.map_some, slO, e, itO, hl, if_true, wipeR, List.set_cons_succ, List.set_cons_zero, key, mixNil, setAll]
theorem heap2_run (a m b n : Int) (hA : -(2 ^ 64) < a ∧ a < 2 ^ 64) (hm : 0 < m) (hn : 0 < n) (x : D) (cs : List Int) (st : Int) (q : Slot) : ∃ st' q', heap2 a m b n [.val x, .val (.lst (cs.map D.int)), .val (.int st), q] () = .nx [.val x, .val (.lst (cs.map D.int)), .val (.int st'), q'] () := by
  obtain ⟨ρ', s', e, _, st', q', rfl⟩ := forGo_inv (S := Unit) (g := tgN 3) (b := asgS 2 (op2 modO (op1 toIntO (op2 addO (op2 addO (op2 mulA (varR 2) (cE (.int a))) (op2 modO (op1 toIntO (varR 3)) (cE (.int m)))) (cE (.int b)))) (cE (.int n))))
    (fun xs ρ s => (∃ ks : List Int, xs = ks.map D.int) ∧ ∃ st q, ρ = [.val x, .val (.lst (cs.map D.int)), .val (.int st), q]) (cs.map D.int) _ () ⟨⟨cs, rfl⟩, st, q, rfl⟩ (fun y ys ρ s ⟨⟨ks, hk⟩, st, q, hr⟩ => by
      cases ks with
      | nil => cases hk
      | cons k ks =>
        cases hk
        subst hr
        have mo : mulOk st a = true := decide_eq_true (.inr (.inl hA))
        refine ⟨_, rfl, _, s, .inl ?_, ⟨ks, rfl⟩, (st * a + k % m + b) % n, .val (.int k), rfl⟩
        simp only [asgS, bindS, op2, op1, cE, varR, bind_run, pure_run, List.set_cons_succ, List.set_cons_zero, slot0, slotS, mulA, mo, if_true, opt_some, toIntO, modO, hm, addO, hn])
  refine ⟨st', q', ?_⟩
  unfold heap2 forS bindS
  simp only [op1, varE, slot0, slotS, bind_run, pure_run, itO, opt_some]
  exact e
theorem heap3_run (x : D) (cs : List Int) (st : D) (q : Slot) : heap3 [.val x, .val (.lst (cs.map D.int)), .val st, q] () = if (cs.length ≤ 16777216) then .ok (((cs.filter fun c => decide (1000000000000000000 ≤ c)).reverse).map D.int) () else .stuck := by
  have key : lcGo (S := Unit) (tgN 3) (cmpQ geO blO (varR 3) (op2 powO (cE (.int 10)) (cE (.int 18)))) (varE 3) [.val x, .val (.lst (cs.map D.int)), .val st, .emp] (cs.map D.int) () = .ok ((cs.filter fun c => decide (1000000000000000000 ≤ c)).map D.int) () := by
    rw [lcGo_map (fun d => d) (fun d => match d with | .int i => decide (1000000000000000000 ≤ i) | _ => false)]
    · rw [List.map_id', List.filter_map]
      rfl
    · intro y hy
      obtain ⟨i, _, rfl⟩ := List.mem_map.mp hy
      refine ⟨_, rfl, ?_, fun _ => rfl⟩
      have e : powO (.int 10) (.int 18) = some (.int 1000000000000000000) := by
        unfold powO
        dsimp only
        rw [if_pos (by decide)]
        rfl
      simp only [cmpQ, op2, op1, varR, cE, List.set_cons_succ, List.set_cons_zero, slot0, slotS, bind_run, pure_run, e, opt_some, geO, blO]
  unfold heap3
  simp only [op1, lstE, lcO, varE, slot0, slotS, bind_run, pure_run, itO, opt_some, wipeR, List.set_cons_succ, List.set_cons_zero, List.length_map]
  by_cases h : cs.length ≤ 16777216
  · simp only [h, if_true, key, bind_run, pure_run, lsO, Option.map_some, opt_some, List.map_reverse]
  · simp only [h, if_false]
    rfl
theorem heap_all (seed a m b n : Int) (hA : -(2 ^ 64) < a ∧ a < 2 ^ 64) (hm : 0 < m) (hn : 0 < n) (ns : List Int) : ∃ ρ1 cells st, (seqS (heap1 seed) (heap2 a m b n)) (.val (.lst (ns.map D.int)) :: List.replicate 3 .emp) () = .nx ρ1 () ∧ heap3 ρ1 () = .ok ((cells : List Int).map D.int) () ∧ heap4 ρ1 () = .ok (.int st) () ∧ cells.length ≤ 60 := by
  obtain ⟨st', q', e⟩ := heap2_run a m b n hA hm hn (.lst (ns.map D.int)) ((ns.take 60).map cellOf) seed .emp
  have hl : ((ns.take 60).map cellOf).length ≤ 60 := by simp; omega
  refine ⟨[.val (.lst (ns.map D.int)), .val (.lst (((ns.take 60).map cellOf).map D.int)), .val (.int st'), q'], (((ns.take 60).map cellOf).filter fun c => decide (1000000000000000000 ≤ c)).reverse, st', ?_, ?_, ?_, ?_⟩
  · unfold seqS
    rw [show (Slot.val (.lst (ns.map D.int)) :: List.replicate 3 Slot.emp) = [.val (.lst (ns.map D.int)), .emp, .emp, .emp] from rfl, heap1_run]
    exact e
  · rw [heap3_run, if_pos (by omega)]
  · rfl
  · rw [List.length_reverse]
    exact Nat.le_trans (List.length_filter_le _ _) hl

/-! ## what goes well, step by step -/
section
variable {ρ : List Slot} {s s1 s2 s3 : S}
theorem op1_ok {α β : Type} {f : α → Option β} {m : EvM S α} {a : α} {b : β} (h : m ρ s = .ok a s1) (k : f a = some b) : op1 f m ρ s = .ok b s1 := by
  unfold op1
  rw [bind_run, h]
  dsimp only
  rw [k]
  rfl
theorem op2_ok {α β γ : Type} {f : α → β → Option γ} {m : EvM S α} {n : EvM S β} {a : α} {b : β} {c : γ} (h : m ρ s = .ok a s1) (h2 : n ρ s1 = .ok b s2) (k : f a b = some c) : op2 f m n ρ s = .ok c s2 := by
  unfold op2
  rw [bind_run, h]
  dsimp only
  rw [bind_run, h2]
  dsimp only
  rw [k]
  rfl
theorem lcO_ok {it : EvM S (List D)} {vs : List Nat} {g : Tg} {t : EvM S Bool} {e : EvM S D} {xs ys : List D} (h : it ρ s = .ok xs s1) (hl : xs.length ≤ 16777216) (h2 : lcGo g t e (wipeR ρ vs) xs s1 = .ok ys s2) : lcO it vs g t e ρ s = .ok ys s2 := by
  unfold lcO
  rw [bind_run, h]
  dsimp only
  rw [if_pos hl]
  exact h2
theorem lstE_ok {m : EvM S (List D)} {xs : List D} (h : m ρ s = .ok xs s1) : lstE m ρ s = .ok (.lst xs) s1 := by
  unfold lstE
  rw [bind_run, h]
  rfl
theorem sm1_ok {f : List Nat → D → Option D} {m n : EvM S D} {t : List Nat} {b c : D} (h : m ρ s = .ok (.str t) s1) (h2 : n ρ s1 = .ok b s2) (k : f t b = some c) : sm1 f m n ρ s = .ok c s2 := by
  unfold sm1
  rw [bind_run, h]
  dsimp only
  rw [bind_run, show (opt (strO (.str t)) : M S (List Nat)) s1 = .ok t s1 from rfl]
  dsimp only
  rw [bind_run, h2]
  dsimp only
  rw [k]
  rfl
theorem callE_ok {f : List D → M S D} {m : EvM S (List D)} {xs : List D} {d : D} (h : m ρ s = .ok xs s1) (h2 : f xs s1 = .ok d s2) : callE f m ρ s = .ok d s2 := by
  unfold callE
  rw [bind_run, h]
  exact h2
theorem lift_ok {α : Type} {m : M Unit α} {a : α} {u : Unit} (h : m () = .ok a u) : (lift m : M S α) s = .ok a s := by
  unfold lift
  rw [h]
theorem argCons_ok {m : EvM S D} {n : EvM S (List D)} {d : D} {xs : List D} (h : m ρ s = .ok d s1) (h2 : n ρ s1 = .ok xs s2) : argCons m n ρ s = .ok (d :: xs) s2 := by
  unfold argCons
  rw [bind_run, h]
  dsimp only
  rw [bind_run, h2]
  rfl
theorem argNil_ok : (argNil : EvM S (List D)) ρ s = .ok [] s := rfl
theorem cE_ok (d : D) : (cE d : EvM S D) ρ s = .ok d s := rfl
theorem varE_ok {i : Nat} {d : D} (h : ρ[i]? = some (.val d)) : (varE i : EvM S D) ρ s = .ok d s := by unfold varE; rw [h]; rfl
theorem varR_ok {i : Nat} {d : D} (h : ρ[i]? = some (.val d)) : (varR i : EvM S D) ρ s = .ok d s := by unfold varR; rw [h]; rfl
theorem varO_ok {i : Nat} {xs : List D} (h : ρ[i]? = some (.own xs)) : (varR i : EvM S D) ρ s = .ok (.lst xs) s := by unfold varR; rw [h]; rfl
theorem asgS_ok {i : Nat} {m : EvM S D} {d : D} (h : m ρ s = .ok d s1) : asgS i m ρ s = .nx (ρ.set i (.val d)) s1 := by
  unfold asgS bindS
  rw [h]
theorem retS_ok {m : EvM S D} {d : D} (h : m ρ s = .ok d s1) : retS m ρ s = .ret d s1 := by
  unfold retS bindS
  rw [h]
theorem seqS_ok {a b : SM S} {ρ1 : List Slot} (h : a ρ s = .nx ρ1 s1) : seqS a b ρ s = b ρ1 s1 := by
  unfold seqS
  rw [h]
theorem seqS_ret {a b : SM S} {d : D} (h : a ρ s = .ret d s1) : seqS a b ρ s = .ret d s1 := by
  unfold seqS
  rw [h]
theorem ifS_ok {t : EvM S Bool} {a b : SM S} {k : Bool} (h : t ρ s = .ok k s1) : ifS t a b ρ s = if k then a ρ s1 else b ρ s1 := by
  unfold ifS bindS
  rw [h]
  cases k <;> rfl
theorem forS_ok {it : EvM S (List D)} {g : Tg} {b : SM S} {xs : List D} (h : it ρ s = .ok xs s1) : forS it g b ρ s = forGo g b xs ρ s1 := by
  unfold forS bindS
  rw [h]
theorem cmpQ_ok {f : D → D → Option D} {m n : EvM S D} {a b : D} {k : Bool} (h : m ρ s = .ok a s1) (h2 : n ρ s1 = .ok b s2) (e : f a b = some (.bl k)) : cmpQ f blO m n ρ s = .ok k s2 := op1_ok (op2_ok h h2 e) rfl
theorem ifE_ok {α : Type} {t : EvM S Bool} {m n : EvM S α} {k : Bool} (h : t ρ s = .ok k s1) : ifE t m n ρ s = if k then m ρ s1 else n ρ s1 := by
  unfold ifE
  rw [bind_run, h]
  cases k <;> rfl
theorem orQ_ok {t u : EvM S Bool} {k : Bool} (h : t ρ s = .ok false s1) (h2 : u ρ s1 = .ok k s2) : orQ t u ρ s = .ok k s2 := by
  unfold orQ
  rw [bind_run, h]
  exact h2
theorem permE_ok {is : List Nat} {m : EvM S (List D)} {xs : List D} (h : m ρ s = .ok xs s1) : permE is m ρ s = .ok (pick is xs) s1 := by
  unfold permE
  rw [bind_run, h]
  rfl
theorem disO_ok {m : EvM S (List D)} {xs : List D} (h : m ρ s = .ok xs s1) (hf : fit xs.length = true) : disO m ρ s = .ok xs s1 := by
  unfold disO
  rw [bind_run, h]
  dsimp only
  rw [if_pos hf]
  rfl
theorem tupE_ok {m : EvM S (List D)} {xs : List D} (h : m ρ s = .ok xs s1) (hf : fit xs.length = true) : tupE m ρ s = .ok (.tup xs) s1 := by
  unfold tupE
  rw [bind_run, h]
  dsimp only
  rw [if_pos hf]
  rfl
end
end Dl
-- DL1
namespace Dl
open PySem PySem.Spec PyProof.Rows L2

/-! ## data in the heap -/
/-- what is global: the written part, the classes (address, fields), the exception classes -/
structure Gx where
  K : PySem.W.Frag
  cl : Nat → Option (Addr × List Str)
  xc : Nat → Option (Addr × List Str)

abbrev stOf (s : List Nat) : Str := ⟨s.toArray⟩

mutual
def Rep (X : Gx) (hp : Addr) (G : Hp) (v : V) : D → Prop
  | .non => v = .non
  | .bl b => v = .bl b
  | .int i => v = .int i
  | .str s => v = .str (stOf s)
  | .tup xs => ∃ a vs, v = .ref a ∧ SqT X.K G a vs ∧ RepL X hp G vs xs
  | .lst xs => ∃ a vs, v = .ref a ∧ SqL X.K G a vs ∧ RepL X hp G vs xs
  | .dct _ _ => False
  | .obj c fs => ∃ a C dx ns vs, X.cl c = some (C, ns) ∧ v = .ref a ∧ G a = some (.ins C dx (ns.zip vs)) ∧ vs.length = ns.length ∧ RepL X hp G vs fs
  | .hp => v = .ref hp
def RepL (X : Gx) (hp : Addr) (G : Hp) (vs : List V) : List D → Prop
  | [] => vs = []
  | d :: ds => ∃ v vr, vs = v :: vr ∧ Rep X hp G v d ∧ RepL X hp G vr ds
end

def Le (G G' : Hp) : Prop := ∀ a o, G a = some o → G' a = some o
theorem Le.refl (G : Hp) : Le G G := fun _ _ h => h
theorem Le.trans {G G1 G2 : Hp} (a : Le G G1) (b : Le G1 G2) : Le G G2 := fun x o h => b x o (a x o h)
theorem Le.upd {G : Hp} {p : Addr} {o : HO} (h : G p = none) : Le G (upd G p o) := fun a u e => by
  rw [upd_ne (ne_of_none e h)]; exact e
theorem Le.rd {G G' : Hp} (l : Le G G') {a : Addr} {u : HO} (h : Rd G a u) : Rd G' a u := by
  rcases h with h | ⟨o, h⟩
  · exact .inl (l _ _ h)
  · exact .inr ⟨o, l _ _ h⟩
theorem Le.sqL {K : PySem.W.Frag} {G G' : Hp} (l : Le G G') {a : Addr} {vs : List V} (h : SqL K G a vs) : SqL K G' a vs := by
  rcases h with h | h
  · exact .inl (l.rd h)
  · exact .inr h
theorem Le.sqT {K : PySem.W.Frag} {G G' : Hp} (l : Le G G') {a : Addr} {vs : List V} (h : SqT K G a vs) : SqT K G' a vs := by
  rcases h with h | h
  · exact .inl (l.rd h)
  · exact .inr h

mutual
theorem Rep.mono {X : Gx} {hp : Addr} {G G' : Hp} (l : Le G G') : ∀ (d : D) (v : V), Rep X hp G v d → Rep X hp G' v d
  | .non, _, h => h
  | .bl _, _, h => h
  | .int _, _, h => h
  | .str _, _, h => h
  | .tup xs, v, h => by
    unfold Rep at h ⊢
    obtain ⟨a, vs, e, q, r⟩ := h
    exact ⟨a, vs, e, l.sqT q, RepL.mono l xs vs r⟩
  | .lst xs, v, h => by
    unfold Rep at h ⊢
    obtain ⟨a, vs, e, q, r⟩ := h
    exact ⟨a, vs, e, l.sqL q, RepL.mono l xs vs r⟩
  | .dct _ _, _, h => by unfold Rep at h; exact h.elim
  | .obj c fs, v, h => by
    unfold Rep at h ⊢
    obtain ⟨a, C, dx, ns, vs, e1, e2, e3, e4, r⟩ := h
    exact ⟨a, C, dx, ns, vs, e1, e2, l _ _ e3, e4, RepL.mono l fs vs r⟩
  | .hp, _, h => h
theorem RepL.mono {X : Gx} {hp : Addr} {G G' : Hp} (l : Le G G') : ∀ (ds : List D) (vs : List V), RepL X hp G vs ds → RepL X hp G' vs ds
  | [], _, h => h
  | d :: ds, vs, h => by
    unfold RepL at h ⊢
    obtain ⟨v, vr, e, r, q⟩ := h
    exact ⟨v, vr, e, Rep.mono l d v r, RepL.mono l ds vr q⟩
end
theorem RepL.length {X : Gx} {hp : Addr} {G : Hp} : ∀ {ds : List D} {vs : List V}, RepL X hp G vs ds → vs.length = ds.length
  | [], vs, h => by unfold RepL at h; rw [h]; rfl
  | d :: ds, vs, h => by
    unfold RepL at h
    obtain ⟨v, vr, e, _, q⟩ := h
    rw [e, List.length_cons, List.length_cons, RepL.length q]
theorem RepL.get {X : Gx} {hp : Addr} {G : Hp} : ∀ {ds : List D} {vs : List V} {i : Nat} {d : D}, RepL X hp G vs ds → ds[i]? = some d → ∃ v, vs[i]? = some v ∧ Rep X hp G v d
  | [], _, _, _, _, e => by simp at e
  | d0 :: ds, vs, 0, d, h, e => by
    unfold RepL at h
    obtain ⟨v, vr, e1, r, _⟩ := h
    have : d0 = d := by simpa using e
    subst this
    exact ⟨v, by rw [e1]; rfl, r⟩
  | d0 :: ds, vs, i + 1, d, h, e => by
    unfold RepL at h
    obtain ⟨v, vr, e1, _, q⟩ := h
    obtain ⟨u, h1, h2⟩ := RepL.get (i := i) (d := d) q (by simpa using e)
    exact ⟨u, by rw [e1]; simpa using h1, h2⟩
theorem RepL.getV {X : Gx} {hp : Addr} {G : Hp} : ∀ {ds : List D} {vs : List V} {i : Nat} {v : V}, RepL X hp G vs ds → vs[i]? = some v → ∃ d, ds[i]? = some d ∧ Rep X hp G v d
  | [], vs, i, v, h, e => by unfold RepL at h; rw [h] at e; simp at e
  | d0 :: ds, vs, 0, v, h, e => by
    unfold RepL at h
    obtain ⟨v0, vr, e1, r, _⟩ := h
    rw [e1] at e
    have : v0 = v := by simpa using e
    subst this
    exact ⟨d0, rfl, r⟩
  | d0 :: ds, vs, i + 1, v, h, e => by
    unfold RepL at h
    obtain ⟨v0, vr, e1, _, q⟩ := h
    rw [e1] at e
    obtain ⟨u, h1, h2⟩ := RepL.getV (i := i) (v := v) q (by simpa using e)
    exact ⟨u, by simpa using h1, h2⟩
theorem RepL.nil {X : Gx} {hp : Addr} {G : Hp} : RepL X hp G [] [] := rfl
theorem RepL.cons {X : Gx} {hp : Addr} {G : Hp} {v : V} {vs : List V} {d : D} {ds : List D} (h : Rep X hp G v d) (q : RepL X hp G vs ds) : RepL X hp G (v :: vs) (d :: ds) := by
  unfold RepL; exact ⟨v, vs, rfl, h, q⟩
theorem RepL.append {X : Gx} {hp : Addr} {G : Hp} : ∀ {ds es : List D} {vs us : List V}, RepL X hp G vs ds → RepL X hp G us es → RepL X hp G (vs ++ us) (ds ++ es)
  | [], _, vs, _, h, q => by unfold RepL at h; rw [h]; exact q
  | d :: ds, es, vs, us, h, q => by
    unfold RepL at h
    obtain ⟨v, vr, e1, r, t⟩ := h
    rw [e1]
    exact .cons r (RepL.append t q)
theorem RepL.take {X : Gx} {hp : Addr} {G : Hp} : ∀ {ds : List D} {vs : List V} (n : Nat), RepL X hp G vs ds → RepL X hp G (vs.take n) (ds.take n)
  | _, _, 0, _ => by simpa using RepL.nil
  | [], vs, n + 1, h => by unfold RepL at h; rw [h]; simpa using RepL.nil
  | d :: ds, vs, n + 1, h => by
    unfold RepL at h
    obtain ⟨v, vr, e1, r, t⟩ := h
    rw [e1]
    exact .cons r (RepL.take n t)
theorem RepL.drop {X : Gx} {hp : Addr} {G : Hp} : ∀ {ds : List D} {vs : List V} (n : Nat), RepL X hp G vs ds → RepL X hp G (vs.drop n) (ds.drop n)
  | _, _, 0, h => h
  | [], vs, n + 1, h => by unfold RepL at h; rw [h]; simpa using RepL.nil
  | d :: ds, vs, n + 1, h => by
    unfold RepL at h
    obtain ⟨v, vr, e1, r, t⟩ := h
    rw [e1]
    exact RepL.drop n t
theorem RepL.set {X : Gx} {hp : Addr} {G : Hp} {v : V} {d : D} (r : Rep X hp G v d) : ∀ {ds : List D} {vs : List V} (i : Nat), RepL X hp G vs ds → RepL X hp G (vs.set i v) (ds.set i d)
  | [], vs, i, h => by unfold RepL at h; rw [h]; exact RepL.nil
  | d0 :: ds, vs, 0, h => by
    unfold RepL at h
    obtain ⟨v0, vr, e1, _, t⟩ := h
    rw [e1]
    exact .cons r t
  | d0 :: ds, vs, i + 1, h => by
    unfold RepL at h
    obtain ⟨v0, vr, e1, r0, t⟩ := h
    rw [e1]
    exact .cons r0 (RepL.set r i t)
theorem RepL.reverse {X : Gx} {hp : Addr} {G : Hp} : ∀ {ds : List D} {vs : List V}, RepL X hp G vs ds → RepL X hp G vs.reverse ds.reverse
  | [], vs, h => by unfold RepL at h; rw [h]; exact RepL.nil
  | d :: ds, vs, h => by
    unfold RepL at h
    obtain ⟨v, vr, e1, r, t⟩ := h
    rw [e1, List.reverse_cons, List.reverse_cons]
    exact (RepL.reverse t).append (.cons r .nil)

/-! ## the state of a body -/
/-- a region of the heap that is a state of its own (the source of draws) -/
structure Rg (S : Type) where
  reg : Addr → Prop
  hs : S → Hp → Prop
  there : ∀ s H a, hs s H → reg a → ∃ o, H a = some o
  frame : ∀ s H H', hs s H → (∀ a, reg a → H' a = H a) → hs s H'
def rgNone : Rg Unit := ⟨fun _ => False, fun _ _ => True, fun _ _ _ _ h => h.elim, fun _ _ _ _ _ => trivial⟩

structure Bs (S : Type) where
  X : Gx
  hp : Addr
  rg : Rg S
  H0 : Hp
  G0 : Hp
  W : WX

variable {S : Type}
def SlOk (B : Bs S) (G H : Hp) (x : Option (Option V)) : Slot → Prop
  | .emp => True
  | .val d => ∃ v, x = some (some v) ∧ Rep B.X B.hp G v d
  | .own xs => ∃ a vs, x = some (some (.ref a)) ∧ G a = none ∧ B.H0 a = none ∧ ¬ B.rg.reg a ∧ H a = some (.lst vs) ∧ RepL B.X B.hp G vs xs

structure SR (B : Bs S) (ρ : List Slot) (s : S) (G : Hp) (σ : L2.St) (H : Hp) : Prop where
  sub : Le G H
  g0 : Le B.G0 G
  gn : ∀ a o, G a = some o → B.G0 a = some o ∨ B.H0 a = none
  kept : ∀ a o, B.H0 a = some o → ¬ B.rg.reg a → H a = some o
  rgn : ∀ a, B.rg.reg a → G a = none
  hs : B.rg.hs s H
  len : σ.length = ρ.length
  sl : ∀ (i : Nat) q, ρ[i]? = some q → SlOk B G H σ[i]? q
  ds : ∀ (i j : Nat) a xs ys, ρ[i]? = some (.own xs) → ρ[j]? = some (.own ys) → σ[i]? = some (some (.ref a)) → σ[j]? = some (some (.ref a)) → i = j

structure Gr (B : Bs S) (G H G' H' : Hp) : Prop where
  le : Le G G'
  kp : ∀ a o, H a = some o → ¬ B.rg.reg a → H' a = some o
  new : ∀ a o, G' a = some o → G a = some o ∨ H a = none
theorem Gr.refl {B : Bs S} {G H : Hp} : Gr B G H G H := ⟨.refl _, fun _ _ h _ => h, fun _ _ h => .inl h⟩
theorem SR.there {B : Bs S} {ρ : List Slot} {s : S} {G : Hp} {σ : L2.St} {H : Hp} (r : SR B ρ s G σ H) {a : Addr} (h : H a = none) : B.H0 a = none ∧ ¬ B.rg.reg a ∧ G a = none := by
  have nr : ¬ B.rg.reg a := fun q => by
    obtain ⟨o, e⟩ := B.rg.there s H a r.hs q
    rw [h] at e; cases e
  refine ⟨?_, nr, ?_⟩
  · cases e : B.H0 a with
    | none => rfl
    | some o =>
      have q := r.kept a o e nr
      rw [h] at q; cases q
  · cases e : G a with
    | none => rfl
    | some o =>
      have q := r.sub a o e
      rw [h] at q; cases q
theorem Gr.trans {B : Bs S} {ρ ρ1 : List Slot} {s s1 : S} {G H G1 H1 G2 H2 : Hp} {σ σ1 : L2.St} (r : SR B ρ s G σ H) (r1 : SR B ρ1 s1 G1 σ1 H1) (a : Gr B G H G1 H1) (b : Gr B G1 H1 G2 H2) : Gr B G H G2 H2 := by
  refine ⟨a.le.trans b.le, fun x o h n => b.kp x o (a.kp x o h n) n, fun x o h => ?_⟩
  rcases b.new x o h with h | h
  · exact a.new x o h
  · refine .inr ?_
    cases e : H x with
    | none => rfl
    | some u =>
      by_cases n : B.rg.reg x
      · obtain ⟨o', q⟩ := B.rg.there s1 H1 x r1.hs n
        rw [h] at q; cases q
      · have q := a.kp x u e n
        rw [h] at q; cases q

/-- the state grows: new objects alone, or the region -/
theorem SR.grow {B : Bs S} {ρ : List Slot} {s s' : S} {G G' : Hp} {σ : L2.St} {H H' : Hp} (r : SR B ρ s G σ H) (sub : Le G' H') (g : Gr B G H G' H') (hs : B.rg.hs s' H') : SR B ρ s' G' σ H' := by
  have nw : ∀ a, G a = none → (∃ o, H a = some o) → G' a = none := fun a h1 ⟨o, h2⟩ => by
    cases e : G' a with
    | none => rfl
    | some u =>
      rcases g.new a u e with q | q
      · rw [h1] at q; cases q
      · rw [h2] at q; cases q
  refine ⟨sub, r.g0.trans g.le, fun a o h => ?_, fun a o h n => g.kp a o (r.kept a o h n) n, fun a h => nw a (r.rgn a h) (B.rg.there s H a r.hs h), hs, r.len, fun i q e => ?_, r.ds⟩
  · rcases g.new a o h with q | q
    · exact r.gn a o q
    · exact .inr (r.there q).1
  · have z := r.sl i q e
    cases q with
    | emp => exact z
    | val d =>
      obtain ⟨v, e1, e2⟩ := z
      exact ⟨v, e1, e2.mono g.le⟩
    | own xs =>
      obtain ⟨a, vs, e1, e2, e3, e4, e5, e6⟩ := z
      exact ⟨a, vs, e1, nw a e2 ⟨_, e5⟩, e3, e4, g.kp a _ e5 e4, e6.mono g.le⟩
/-- a new object, known or not -/
theorem SR.alloc {B : Bs S} {ρ : List Slot} {s : S} {G : Hp} {σ : L2.St} {H : Hp} (r : SR B ρ s G σ H) {p : Addr} {o : HO} (h : H p = none) : SR B ρ s (upd G p o) σ (upd H p o) ∧ Gr B G H (upd G p o) (upd H p o) := by
  obtain ⟨h0, nr, hg⟩ := r.there h
  have g : Gr B G H (upd G p o) (upd H p o) := by
    refine ⟨Le.upd hg, fun a u e _ => Le.upd h a u e, fun a u e => ?_⟩
    by_cases q : a = p
    · subst q; exact .inr h
    · rw [upd_ne q] at e; exact .inl e
  refine ⟨r.grow (fun a u e => ?_) g (B.rg.frame s H _ r.hs fun a q => upd_ne fun z => nr (z ▸ q)), g⟩
  by_cases q : a = p
  · subst q; rw [upd_same] at e ⊢; exact e
  · rw [upd_ne q] at e ⊢; exact r.sub a u e
theorem SR.alloc0 {B : Bs S} {ρ : List Slot} {s : S} {G : Hp} {σ : L2.St} {H : Hp} (r : SR B ρ s G σ H) {p : Addr} {o : HO} (h : H p = none) : SR B ρ s G σ (upd H p o) ∧ Gr B G H G (upd H p o) := by
  obtain ⟨h0, nr, hg⟩ := r.there h
  have g : Gr B G H G (upd H p o) := ⟨.refl _, fun a u e _ => Le.upd h a u e, fun a u e => .inl e⟩
  exact ⟨r.grow (fun a u e => Le.upd h a u (r.sub a u e)) g (B.rg.frame s H _ r.hs fun a q => upd_ne fun z => nr (z ▸ q)), g⟩

/-! ## the weakest precondition of a result -/
/-- an exception as it lies: its class, its dict -/
def ExR (B : Bs S) (G H : Hp) (c : Nat) (fs : List D) (cv : Value) (d : Option Addr) : Prop :=
  ∃ C ns a vs, B.X.xc c = some (C, ns) ∧ cv = .ref C ∧ d = some a ∧ H a = some (.xd (ns.zip vs)) ∧ vs.length = ns.length ∧ RepL B.X B.hp G vs fs

def Wp {α : Type} (B : Bs S) (ρ : List Slot) (σ : L2.St) (m : M S α) (s : S) (G H : Hp) (post : α → S → Hp → Hp → Prop) : Prop :=
  match m s with
  | .ok a s' => ∀ G' H', SR B ρ s' G' σ H' → Gr B G H G' H' → post a s' G' H'
  | .exc c fs s' => ∀ G' H', SR B ρ s' G' σ H' → Gr B G H G' H' → ∀ cv d, ExR B G' H' c fs cv d → B.W cv d σ H'
  | .stuck => False

theorem Wp.bind {α β : Type} {B : Bs S} {ρ : List Slot} {σ : L2.St} {m : M S α} {f : α → M S β} {s : S} {G H : Hp} {post : β → S → Hp → Hp → Prop} (r : SR B ρ s G σ H)
    (h : Wp B ρ σ (m >>= f) s G H post) : Wp B ρ σ m s G H fun a s1 G1 H1 => Wp B ρ σ (f a) s1 G1 H1 post := by
  unfold Wp at h ⊢
  rw [bind_run] at h
  cases e : m s with
  | ok a s1 =>
    rw [e] at h
    dsimp only at h ⊢
    intro G1 H1 r1 g1
    cases e2 : f a s1 with
    | ok b s2 =>
      rw [e2] at h
      exact fun G2 H2 r2 g2 => h G2 H2 r2 (Gr.trans r r1 g1 g2)
    | exc c fs s2 =>
      rw [e2] at h
      exact fun G2 H2 r2 g2 => h G2 H2 r2 (Gr.trans r r1 g1 g2)
    | stuck => rw [e2] at h; exact h
  | exc c fs s1 => rw [e] at h; exact h
  | stuck => rw [e] at h; exact h
theorem Wp.imp {α : Type} {B : Bs S} {ρ : List Slot} {σ : L2.St} {m : M S α} {s : S} {G H : Hp} {post post' : α → S → Hp → Hp → Prop} (h : Wp B ρ σ m s G H post)
    (k : ∀ a s' G' H', SR B ρ s' G' σ H' → Gr B G H G' H' → post a s' G' H' → post' a s' G' H') : Wp B ρ σ m s G H post' := by
  unfold Wp at h ⊢
  cases e : m s with
  | ok a s1 => rw [e] at h; exact fun G' H' r g => k _ _ _ _ r g (h G' H' r g)
  | exc c fs s1 => rw [e] at h; exact h
  | stuck => rw [e] at h; exact h
theorem Wp.pure {α : Type} {B : Bs S} {ρ : List Slot} {σ : L2.St} {a : α} {s : S} {G H : Hp} {post : α → S → Hp → Hp → Prop} (h : Wp B ρ σ (pure a) s G H post) (r : SR B ρ s G σ H) : post a s G H := h G H r .refl
theorem Wp.stuck {α : Type} {B : Bs S} {ρ : List Slot} {σ : L2.St} {s : S} {G H : Hp} {post : α → S → Hp → Hp → Prop} (h : Wp B ρ σ (M.stuck : M S α) s G H post) : False := h

/-! ## readings -/
/-- a value -/
def tE (B : Bs S) (m : EvM S D) : TE := fun σ H Q => ∃ ρ s G, SR B ρ s G σ H ∧ Wp B ρ σ (m ρ) s G H fun d _ G' H' => ∀ v, Rep B.X B.hp G' v d → Q v H'
/-- a value, or a list that a slot owns, to be read alone -/
def RepB (B : Bs S) (ρ : List Slot) (σ : L2.St) (G : Hp) (v : V) (d : D) : Prop := Rep B.X B.hp G v d ∨ ∃ (i : Nat) (xs : List D), ρ[i]? = some (.own xs) ∧ σ[i]? = some (some v) ∧ d = .lst xs
def tR (B : Bs S) (m : EvM S D) : TE := fun σ H Q => ∃ ρ s G, SR B ρ s G σ H ∧ Wp B ρ σ (m ρ) s G H fun d _ G' H' => ∀ v, RepB B ρ σ G' v d → Q v H'
/-- a new list that nobody else has -/
def tO (B : Bs S) (m : EvM S (List D)) : TE := fun σ H Q => ∃ ρ s G, SR B ρ s G σ H ∧ Wp B ρ σ (m ρ) s G H fun xs _ G' H' => ∀ a vs, H a = none → G' a = none → H' a = some (.lst vs) → RepL B.X B.hp G' vs xs → Q (.ref a) H'
def tAs (B : Bs S) (m : EvM S (List D)) : TA := fun σ H Q => ∃ ρ s G, SR B ρ s G σ H ∧ Wp B ρ σ (m ρ) s G H fun ds _ G' H' => ∀ vs, RepL B.X B.hp G' vs ds → Q vs H'
def tQ (B : Bs S) (m : EvM S Bool) : TT := fun σ H Q => ∃ ρ s G, SR B ρ s G σ H ∧ Wp B ρ σ (m ρ) s G H fun b _ _ H' => Q b H'

theorem PE.imp {X : Cx} {e : Expr} {t t' : TE} (h : PE X e t) (k : ∀ σ H Q, t' σ H Q → t σ H Q) : PE X e t' := ⟨fun pins s σ H Q I q => h.run pins s σ H Q I (k σ H Q q)⟩
theorem PT.imp {X : Cx} {e : Expr} {t t' : TT} (h : PT X e t) (k : ∀ σ H Q, t' σ H Q → t σ H Q) : PT X e t' := ⟨fun pins s σ H Q I q => h.run pins s σ H Q I (k σ H Q q)⟩
theorem PA.imp {X : Cx} {e : List Expr} {t t' : TA} (h : PA X e t) (k : ∀ σ H Q, t' σ H Q → t σ H Q) : PA X e t' := ⟨fun pos pins s σ H Q I q => h.run pos pins s σ H Q I (k σ H Q q)⟩
theorem PS.imp {X : Cx} {e : Stmt} {t t' : TS} (h : PS X e t) (k : ∀ D σ H, t' D σ H → t D σ H) : PS X e t' := ⟨fun pins s σ H D I q => h.run pins s σ H D I (k D σ H q)⟩
theorem PSs.imp {X : Cx} {e : List Stmt} {t t' : TS} (h : PSs X e t) (k : ∀ D σ H, t' D σ H → t D σ H) : PSs X e t' := ⟨fun pins s σ H D I q => h.run pins s σ H D I (k D σ H q)⟩

end Dl
-- DL2
namespace Dl
open PySem PySem.Spec PyProof.Rows L2
variable {S : Type} {B : Bs S} {X : Cx} {e e1 e2 : Expr} {pos : Pos} {ρ : List Slot} {σ : L2.St} {G H : Hp} {s : S} {x y v : V} {d : D}

theorem st_len (t : List Nat) : (stOf t).length = t.length := by simp [Str.length]
theorem st_list (t : List Nat) : (stOf t).cps.toList = t := by simp
theorem fit_le {n : Nat} (h : fit n = true) : n ≤ sizeLine := by
  rw [sizeLine_eq]; exact of_decide_eq_true h

/-! ## what a read value is -/
theorem RepB.mono {G' : Hp} (l : Le G G') (h : RepB B ρ σ G x d) : RepB B ρ σ G' x d := by
  rcases h with h | h
  · exact .inl (Rep.mono l _ _ h)
  · exact .inr h
theorem RepB.non (h : RepB B ρ σ G x .non) : x = .non := by
  rcases h with h | ⟨_, _, _, _, z⟩
  · exact h
  · cases z
theorem RepB.bl {b : Bool} (h : RepB B ρ σ G x (.bl b)) : x = .bl b := by
  rcases h with h | ⟨_, _, _, _, z⟩
  · exact h
  · cases z
theorem RepB.int {i : Int} (h : RepB B ρ σ G x (.int i)) : x = .int i := by
  rcases h with h | ⟨_, _, _, _, z⟩
  · exact h
  · cases z
theorem RepB.str {t : List Nat} (h : RepB B ρ σ G x (.str t)) : x = .str (stOf t) := by
  rcases h with h | ⟨_, _, _, _, z⟩
  · exact h
  · cases z
theorem RepB.tup {xs : List D} (r : SR B ρ s G σ H) (h : RepB B ρ σ G x (.tup xs)) : ∃ a vs, x = .ref a ∧ SqT B.X.K H a vs ∧ RepL B.X B.hp G vs xs := by
  rcases h with h | ⟨_, _, _, _, z⟩
  · unfold Rep at h
    obtain ⟨a, vs, e, q, l⟩ := h
    exact ⟨a, vs, e, Le.sqT r.sub q, l⟩
  · cases z
theorem RepB.lst {xs : List D} (r : SR B ρ s G σ H) (h : RepB B ρ σ G x (.lst xs)) : ∃ a vs, x = .ref a ∧ SqL B.X.K H a vs ∧ RepL B.X B.hp G vs xs := by
  rcases h with h | ⟨i, ys, e1, e2, z⟩
  · unfold Rep at h
    obtain ⟨a, vs, e, q, l⟩ := h
    exact ⟨a, vs, e, r.sub.sqL q, l⟩
  · cases z
    obtain ⟨a, vs, q1, q2, q3, q4, q5, q6⟩ := r.sl i _ e1
    rw [e2] at q1
    cases q1
    exact ⟨a, vs, rfl, .inl (.inl q5), q6⟩
/-- items of a list or a tuple -/
theorem RepB.seq {xs : List D} (r : SR B ρ s G σ H) (h : RepB B ρ σ G x d) (e : seqO d = some xs) : ∃ a vs, x = .ref a ∧ (SqL B.X.K H a vs ∨ SqT B.X.K H a vs) ∧ RepL B.X B.hp G vs xs := by
  cases d with
  | tup ys =>
    obtain rfl := Option.some.inj e
    obtain ⟨a, vs, e1, q, l⟩ := h.tup r
    exact ⟨a, vs, e1, .inr q, l⟩
  | lst ys =>
    obtain rfl := Option.some.inj e
    obtain ⟨a, vs, e1, q, l⟩ := h.lst r
    exact ⟨a, vs, e1, .inl q, l⟩
  | _ => cases e

/-! ## plain data as the library has it -/
mutual
def toPy : D → PyData
  | .non => .none
  | .bl b => .bool b
  | .int i => .int i
  | .str t => .str (stOf t)
  | .tup xs => .tuple (toPyL xs)
  | .lst xs => .list (toPyL xs)
  | _ => .none
def toPyL : List D → List PyData
  | [] => []
  | x :: xs => toPy x :: toPyL xs
end
mutual
theorem ok_lay : ∀ (n : Nat) (d : D), okD n d = true → (toPy d).canLay0 = true ∧ (toPy d).depth ≤ n
  | _, .non, _ => by simp [toPy, PyData.canLay0, PyData.depth]
  | _, .bl _, _ => by simp [toPy, PyData.canLay0, PyData.depth]
  | _, .int _, _ => by simp [toPy, PyData.canLay0, PyData.depth]
  | n, .str t, h => by
    have h' : (t.all fun c => decide (c < 1114112)) = true := by cases n <;> simpa [okD] using h
    refine ⟨?_, by simp [toPy, PyData.depth]⟩
    simp only [toPy, PyData.canLay0, PyData.strOk]
    rw [← Array.all_toList, st_list]
    exact h'
  | n + 1, .tup xs, h => by
    obtain ⟨h1, h2⟩ := ok_layL n xs (by simpa [okD] using h)
    simp only [toPy, PyData.canLay0, PyData.depth]
    exact ⟨h1, by omega⟩
  | n + 1, .lst xs, h => by
    obtain ⟨h1, h2⟩ := ok_layL n xs (by simpa [okD] using h)
    simp only [toPy, PyData.canLay0, PyData.depth]
    exact ⟨h1, by omega⟩
  | 0, .tup _, h => by simp [okD] at h
  | 0, .lst _, h => by simp [okD] at h
  | 0, .dct _ _, h => by simp [okD] at h
  | _ + 1, .dct _ _, h => by simp [okD] at h
  | 0, .obj _ _, h => by simp [okD] at h
  | _ + 1, .obj _ _, h => by simp [okD] at h
  | 0, .hp, h => by simp [okD] at h
  | _ + 1, .hp, h => by simp [okD] at h
theorem ok_layL : ∀ (n : Nat) (xs : List D), okL n xs = true → PyData.canLayAll0 (toPyL xs) = true ∧ PyData.depthAll (toPyL xs) ≤ n
  | _, [], _ => by simp [toPyL, PyData.canLayAll0, PyData.depthAll]
  | n, x :: xs, h => by
    have h' : okD n x = true ∧ okL n xs = true := by simpa [okL] using h
    obtain ⟨a1, a2⟩ := ok_lay n x h'.1
    obtain ⟨b1, b2⟩ := ok_layL n xs h'.2
    simp only [toPyL, PyData.canLayAll0, PyData.depthAll, a1, b1, Bool.and_self, true_and]
    omega
end
theorem pl_shaped (h : pl d = true) : SeqAt.shaped (toPy d) = true := by
  obtain ⟨h1, h2⟩ := ok_lay 60 d h
  unfold SeqAt.shaped
  rw [h1, Bool.true_and]
  exact decide_eq_true (by omega)
mutual
theorem eqv_py : ∀ (n : Nat) (m : Nat) (a b : D), okD n a = true → okD m b = true → PyData.eqv (toPy a) (toPy b) = eqv a b
  | n, m, a, b, h, h' => by
    cases a with
    | non => cases b <;> first | (exfalso; cases m <;> simp [okD] at h' <;> done) | simp [toPy, PyData.eqv, eqv]
    | bl x => cases b <;> first | (exfalso; cases m <;> simp [okD] at h' <;> done) | simp [toPy, PyData.eqv, eqv, Dl.b2i]
    | int x => cases b <;> first | (exfalso; cases m <;> simp [okD] at h' <;> done) | simp [toPy, PyData.eqv, eqv, Dl.b2i]
    | str x =>
      cases b with
      | str y =>
        simp only [toPy, PyData.eqv, eqv]
        rw [Bool.eq_iff_iff, beq_iff_eq, beq_iff_eq]
        exact ⟨fun z => by simpa using congrArg (fun q : Str => q.cps.toList) z, fun z => by rw [z]⟩
      | _ => first | (exfalso; cases m <;> simp [okD] at h' <;> done) | simp [toPy, PyData.eqv, eqv]
    | tup xs =>
      cases b with
      | tup ys =>
        cases n with
        | zero => simp [okD] at h
        | succ n =>
          cases m with
          | zero => simp [okD] at h'
          | succ m =>
            simp only [toPy, PyData.eqv, eqv]
            exact eqv_pyL n m xs ys (by simpa [okD] using h) (by simpa [okD] using h')
      | _ => first | (exfalso; cases m <;> simp [okD] at h' <;> done) | simp [toPy, PyData.eqv, eqv]
    | lst xs =>
      cases b with
      | lst ys =>
        cases n with
        | zero => simp [okD] at h
        | succ n =>
          cases m with
          | zero => simp [okD] at h'
          | succ m =>
            simp only [toPy, PyData.eqv, eqv]
            exact eqv_pyL n m xs ys (by simpa [okD] using h) (by simpa [okD] using h')
      | _ => first | (exfalso; cases m <;> simp [okD] at h' <;> done) | simp [toPy, PyData.eqv, eqv]
    | dct _ _ => cases n <;> simp [okD] at h
    | obj _ _ => cases n <;> simp [okD] at h
    | hp => cases n <;> simp [okD] at h
theorem eqv_pyL : ∀ (n : Nat) (m : Nat) (xs ys : List D), okL n xs = true → okL m ys = true → PyData.eqvAll (toPyL xs) (toPyL ys) = eqvL xs ys
  | _, _, [], [], _, _ => by simp [toPyL, PyData.eqvAll, eqvL]
  | _, _, [], _ :: _, _, _ => by simp [toPyL, PyData.eqvAll, eqvL]
  | _, _, _ :: _, [], _, _ => by simp [toPyL, PyData.eqvAll, eqvL]
  | n, m, x :: xs, y :: ys, h, h' => by
    have h1 : okD n x = true ∧ okL n xs = true := by simpa [okL] using h
    have h2 : okD m y = true ∧ okL m ys = true := by simpa [okL] using h'
    simp only [toPyL, PyData.eqvAll, eqvL, eqv_py n m x y h1.1 h2.1, eqv_pyL n m xs ys h1.2 h2.2]
end
mutual
theorem dp_rep (l : Le G H) : ∀ (n : Nat) (d : D) (v : V), Rep B.X B.hp G v d → okD n d = true → Dp B.X.K H v (toPy d)
  | n, d, v, h, k => by
    cases d with
    | non => rw [show v = .non from h]; exact .non
    | bl b => rw [show v = .bl b from h]; exact .bl b
    | int i => rw [show v = .int i from h]; exact .int i
    | str t => rw [show v = .str (stOf t) from h]; exact .str _
    | tup xs =>
      cases n with
      | zero => simp [okD] at k
      | succ n =>
        unfold Rep at h
        obtain ⟨a, vs, rfl, q, r⟩ := h
        simp only [toPy]
        exact .tup (l.sqT q) (dp_repL l n xs vs r (by simpa [okD] using k))
    | lst xs =>
      cases n with
      | zero => simp [okD] at k
      | succ n =>
        unfold Rep at h
        obtain ⟨a, vs, rfl, q, r⟩ := h
        simp only [toPy]
        exact .lst (l.sqL q) (dp_repL l n xs vs r (by simpa [okD] using k))
    | dct _ _ => cases n <;> simp [okD] at k
    | obj _ _ => cases n <;> simp [okD] at k
    | hp => cases n <;> simp [okD] at k
theorem dp_repL (l : Le G H) : ∀ (n : Nat) (ds : List D) (vs : List V), RepL B.X B.hp G vs ds → okL n ds = true → DpAll B.X.K H vs (toPyL ds)
  | _, [], vs, h, _ => by
    rw [show vs = [] from h]
    simp only [toPyL]
    exact .nil
  | n, d :: ds, vs, h, k => by
    unfold RepL at h
    obtain ⟨v, vr, rfl, r, q⟩ := h
    have k' : okD n d = true ∧ okL n ds = true := by simpa [okL] using k
    simp only [toPyL]
    exact .cons (dp_rep l n d v r k'.1) (dp_repL l n ds vr q k'.2)
end
theorem RepB.dp (r : SR B ρ s G σ H) (h : RepB B ρ σ G x d) (k : pl d = true) : Dp B.X.K H x (toPy d) := by
  cases d with
  | lst xs =>
    obtain ⟨a, vs, rfl, q, l⟩ := h.lst r
    simp only [toPy]
    exact .lst q (dp_repL (B := B) r.sub 59 xs vs l (by simpa [pl, okD] using k))
  | _ =>
    rcases h with h | ⟨_, _, _, _, z⟩
    · exact dp_rep (B := B) r.sub 60 _ _ h k
    · cases z

/-! ## names, constants -/
theorem e_var {i : Nat} (h : PE X e (tVar i)) : PE X e (tE B (varE i)) := PE.imp h fun σ H Q ⟨ρ, s, G, r, w⟩ => by
  unfold varE at w
  cases q : ρ[i]? with
  | none => rw [q] at w; exact (Wp.stuck w).elim
  | some z =>
    rw [q] at w
    cases z with
    | val d =>
      obtain ⟨v, e1, e2⟩ := r.sl i _ q
      exact ⟨v, e1, Wp.pure w r v e2⟩
    | _ => exact (Wp.stuck w).elim
theorem r_var {i : Nat} (h : PE X e (tVar i)) : PE X e (tR B (varR i)) := PE.imp h fun σ H Q ⟨ρ, s, G, r, w⟩ => by
  unfold varR at w
  cases q : ρ[i]? with
  | none => rw [q] at w; exact (Wp.stuck w).elim
  | some z =>
    rw [q] at w
    cases z with
    | val d =>
      obtain ⟨v, e1, e2⟩ := r.sl i _ q
      exact ⟨v, e1, Wp.pure w r v (.inl e2)⟩
    | own xs =>
      obtain ⟨a, vs, e1, e2⟩ := r.sl i _ q
      exact ⟨.ref a, e1, Wp.pure w r _ (.inr ⟨i, xs, q, e1, rfl⟩)⟩
    | emp => exact (Wp.stuck w).elim
theorem r_of {m : EvM S D} (h : PE X e (tE B m)) : PE X e (tR B m) := PE.imp h fun σ H Q ⟨ρ, s, G, r, w⟩ => ⟨ρ, s, G, r, w.imp fun d _ G' H' _ _ k v q => k v (.inl q)⟩
theorem e_c {v : V} (d : D) (h : PE X e (tC v)) (k : ∀ G, Rep B.X B.hp G v d) : PE X e (tE B (cE d)) := PE.imp h fun σ H Q ⟨ρ, s, G, r, w⟩ => Wp.pure w r v (k G)
theorem e_int {i j} : PE X (.Constant (.int i) j pos) (tE B (cE (.int i))) := e_c _ pe_int fun _ => rfl
theorem e_bl {b j} : PE X (.Constant (.bool b) j pos) (tE B (cE (.bl b))) := e_c _ pe_bl fun _ => rfl
theorem e_non {j} : PE X (.Constant .none j pos) (tE B (cE .non)) := e_c _ pe_non fun _ => rfl
theorem e_str {z j} (t : List Nat) (h : z = stOf t := by decide +kernel) : PE X (.Constant (.str z) j pos) (tE B (cE (.str t))) := e_c _ pe_str fun _ => by
  subst h; rfl
/-- a name of the module -/
theorem e_gl {z : Str} {v : V} {u : Value} (d : D) (hg : Gl X z) (hm : X.mg z = some u) (r : RelV v u) (k : ∀ G, Rep B.X B.hp G v d) (hd : (z == ("__debug__" : Str)) = false := by decide) : PE X (.Name z pos) (tE B (cE d)) := e_c d (pe_glob hg hm r hd) k

/-! ## operators -/
/-- r is right for f, read at values -/
def OpS (B : Bs S) (r : R2) (f : D → D → Option D) : Prop := ∀ (ρ : List Slot) (s : S) (G : Hp) (σ : L2.St) (H : Hp) (x y : V) (a b d : D) (Q : VK), SR B ρ s G σ H → RepB B ρ σ G x a → RepB B ρ σ G y b → f a b = some d →
  (∀ v G' H', SR B ρ s G' σ H' → Gr B G H G' H' → Rep B.X B.hp G' v d → Q v H') → r x y H Q
theorem e_op2 {r : R2} {f : D → D → Option D} {ma mb : EvM S D} (hr : OpS B r f) (h : PE X e (tOp r (tR B ma) (tR B mb))) : PE X e (tE B (op2 f ma mb)) := PE.imp h fun σ H Q ⟨ρ, s, G, q, w⟩ => by
  unfold op2 at w
  refine ⟨ρ, s, G, q, (w.bind q).imp fun a s1 G1 H1 q1 g1 w1 v rv => ⟨ρ, s1, G1, q1, (w1.bind q1).imp fun b s2 G2 H2 q2 g2 w2 u ru => ?_⟩⟩
  cases z : f a b with
  | none => rw [z] at w2; exact (Wp.stuck w2).elim
  | some d =>
    rw [z] at w2
    exact hr ρ s2 G2 σ H2 v u a b d Q q2 (rv.mono g2.le) ru z fun v' G' H' q3 g3 r3 => w2 G' H' q3 g3 v' r3
/-- one operand -/
def UnS (B : Bs S) (r : V → Hp → VK → Prop) (f : D → Option D) : Prop := ∀ (ρ : List Slot) (s : S) (G : Hp) (σ : L2.St) (H : Hp) (x : V) (a d : D) (Q : VK), SR B ρ s G σ H → RepB B ρ σ G x a → f a = some d →
  (∀ v G' H', SR B ρ s G' σ H' → Gr B G H G' H' → Rep B.X B.hp G' v d → Q v H') → r x H Q
theorem e_op1 {r : V → Hp → VK → Prop} {f : D → Option D} {ma : EvM S D} {t : TE → TE} (hr : UnS B r f) (h : PE X e (fun σ H Q => tR B ma σ H fun x H1 => r x H1 Q)) : PE X e (tE B (op1 f ma)) := PE.imp h fun σ H Q ⟨ρ, s, G, q, w⟩ => by
  unfold op1 at w
  refine ⟨ρ, s, G, q, (w.bind q).imp fun a s1 G1 H1 q1 g1 w1 v rv => ?_⟩
  cases z : f a with
  | none => rw [z] at w1; exact (Wp.stuck w1).elim
  | some d =>
    rw [z] at w1
    exact hr ρ s1 G1 σ H1 v a d Q q1 rv z fun v' G' H' q3 g3 r3 => w1 G' H' q3 g3 v' r3

/-- a result that makes nothing -/
theorem same_r {post : V → Hp → Prop} (r : SR B ρ s G σ H) (h : ∀ v G' H', SR B ρ s G' σ H' → Gr B G H G' H' → Rep B.X B.hp G' v d → post v H') (v : V) (k : Rep B.X B.hp G v d) : post v H := h v G H r .refl k
/-- a new tuple -/
theorem new_tup {Q : VK} {xs : List D} {vs : List V} (r : SR B ρ s G σ H) (h : ∀ v G' H', SR B ρ s G' σ H' → Gr B G H G' H' → Rep B.X B.hp G' v (.tup xs) → Q v H') (k : RepL B.X B.hp G vs xs) {p : Addr} (hp : H p = none) : Q (.ref p) (upd H p (.tup vs)) := by
  obtain ⟨r', g⟩ := r.alloc (o := .tup vs) hp
  refine h _ _ _ r' g ?_
  unfold Rep
  exact ⟨p, vs, rfl, .inl (.inl upd_same), RepL.mono g.le _ _ k⟩
theorem new_lst {Q : VK} {xs : List D} {vs : List V} (r : SR B ρ s G σ H) (h : ∀ v G' H', SR B ρ s G' σ H' → Gr B G H G' H' → Rep B.X B.hp G' v (.lst xs) → Q v H') (k : RepL B.X B.hp G vs xs) {p : Addr} (hp : H p = none) : Q (.ref p) (upd H p (.lst vs)) := by
  obtain ⟨r', g⟩ := r.alloc (o := .lst vs) hp
  refine h _ _ _ r' g ?_
  unfold Rep
  exact ⟨p, vs, rfl, .inl (.inl upd_same), RepL.mono g.le _ _ k⟩

theorem opt_if {α : Type} {b : Bool} {a d : α} (h : (if b = true then some a else none) = some d) : b = true ∧ a = d := by
  cases b with
  | false => cases h
  | true => exact ⟨rfl, Option.some.inj h⟩

def rAddA (K : PySem.W.Frag) : R2 := fun x y H Q => rI0 (fun i j => .int (i + j)) x y H Q ∨ (∃ i k, x = .int i ∧ y = .bl k ∧ Q (.int (i + PyProof.Rows.b2i k)) H) ∨ (∃ i j, x = .str i ∧ y = .str j ∧ i.length + j.length ≤ sizeLine ∧ Q (.str (i ++ j)) H) ∨ rCatA K x y H Q
  ∨ (∃ l b xs zs, x = .ref l ∧ y = .ref b ∧ SqL K H l xs ∧ SqL K H b zs ∧ xs.length + zs.length ≤ sizeLine ∧ ∀ p, H p = none → Q (.ref p) (upd H p (.lst (xs ++ zs))))
/-- list + list, of any two that stand -/
theorem op_catR : OpR X (binaryOp .Add) (fun x y H Q => ∃ l b xs zs, x = .ref l ∧ y = .ref b ∧ SqL X.K H l xs ∧ SqL X.K H b zs ∧ xs.length + zs.length ≤ sizeLine ∧ ∀ p, H p = none → Q (.ref p) (upd H p (.lst (xs ++ zs)))) := by
  intro pins s σ H x y v u Q I rx ry h
  obtain ⟨l, b, xs, zs, rfl, rfl, hA, hB, hz, q⟩ := h
  cases rx
  cases ry
  obtain ⟨its, r, pl, _⟩ := I.list hA
  obtain ⟨its2, r2, pl2, _⟩ := I.list hB
  have hl := r.length
  have hl2 := r2.length
  obtain ⟨⟨cls, dd, data, sl⟩, ho, hc, n, hd⟩ := pl.isList
  obtain ⟨⟨cls2, dd2, data2, sl2⟩, ho2, hc2, n2, hd2⟩ := pl2.isList
  simp only at hc hd hc2 hd2
  subst hc hd hc2 hd2
  refine concat_meets ⟨_, ho, rfl⟩ ⟨_, ho2, rfl⟩ noFill_list_add seq_list_add PySem.F.slot_list_add PySem.F.entry_list_add (PySem.F.args_list_add_2 _ _) (list_addW l b its.toArray its2.toArray n n2 dd dd2 sl sl2 (by rw [List.size_toArray, List.size_toArray]; omega)) ⟨ho, ho2, ?_⟩
  rw [show its.toArray ++ its2.toArray = (its ++ its2).toArray by simp]
  exact ⟨.ref _, _, I.lnew (t' := s.toks) (r.append r2) (by rw [List.length_append]; omega), rfl, q _ I.fresh⟩
theorem op_addA : OpR X (binaryOp .Add) (rAddA X.K) := op_add.or (op_add_ib.or (op_add_str.or (op_catA.or op_catR)))
theorem s_addA : OpS B (rAddA B.X.K) addO := by
  intro ρ s G σ H x y a b d Q r ra rb h k
  cases a with
  | int i =>
    cases b with
    | int j =>
      cases h
      exact .inl ⟨i, j, ra.int, rb.int, same_r r k _ rfl⟩
    | bl j =>
      cases h
      exact .inr (.inl ⟨i, j, ra.int, rb.bl, same_r r k _ rfl⟩)
    | _ => cases h
  | str t =>
    cases b with
    | str u =>
      obtain ⟨h1, rfl⟩ := opt_if h
      refine .inr (.inr (.inl ⟨_, _, ra.str, rb.str, by rw [st_len, st_len]; exact fit_le h1, same_r r k _ ?_⟩))
      show V.str _ = V.str _
      congr 1
      show (⟨t.toArray ++ u.toArray⟩ : Str) = ⟨(t ++ u).toArray⟩
      simp
    | _ => cases h
  | tup t =>
    cases b with
    | tup u =>
      obtain ⟨h1, rfl⟩ := opt_if h
      obtain ⟨l, vs, ex, qx, lx⟩ := ra.tup r
      obtain ⟨l2, us, ey, qy, ly⟩ := rb.tup r
      have n1 := lx.length
      have n2 := ly.length
      refine .inr (.inr (.inr (.inl ⟨l, l2, vs, us, ex, ey, qx, qy, by have := fit_le h1; omega, fun z => ?_, fun _ z => ?_, fun _ _ p hp => new_tup r k (lx.append ly) hp⟩)))
      · subst z
        have : t = [] := by cases t with | nil => rfl | cons _ _ => simp at n1
        subst this
        rw [← ey]
        rcases rb with rb | ⟨_, _, _, _, z⟩
        · exact same_r r k _ rb
        · cases z
      · subst z
        have : u = [] := by cases u with | nil => rfl | cons _ _ => simp at n2
        subst this
        rw [List.append_nil] at k
        rw [← ex]
        rcases ra with ra | ⟨_, _, _, _, z⟩
        · exact same_r r k _ ra
        · cases z
    | _ => cases h
  | lst t =>
    cases b with
    | lst u =>
      obtain ⟨h1, rfl⟩ := opt_if h
      obtain ⟨l, vs, ex, qx, lx⟩ := ra.lst r
      obtain ⟨l2, us, ey, qy, ly⟩ := rb.lst r
      have n1 := lx.length
      have n2 := ly.length
      exact .inr (.inr (.inr (.inr ⟨l, l2, vs, us, ex, ey, qx, qy, by have := fit_le h1; omega, fun p hp => new_lst r k (lx.append ly) hp⟩)))
    | _ => cases h
  | _ => cases h
theorem e_add {ma mb : EvM S D} (ha : PE X e1 (tR B ma)) (hb : PE X e2 (tR B mb)) (hK : X.K = B.X.K := by rfl) : PE X (.BinOp e1 .Add e2 pos) (tE B (op2 addO ma mb)) := e_op2 (r := rAddA X.K) (by rw [hK]; exact s_addA) (pe_op op_addA ha hb)

/-! ints -/
theorem s_ints {r : R2} {f : D → D → Option D} {C : Int → Int → Prop} {g : Int → Int → V} (hf : ∀ a b d, f a b = some d → ∃ i j, a = .int i ∧ b = .int j ∧ C i j ∧ ∀ G, Rep B.X B.hp G (g i j) d) (hr : ∀ i j H Q, C i j → Q (g i j) H → r (.int i) (.int j) H Q) : OpS B r f := by
  intro ρ s G σ H x y a b d Q q ra rb h k
  obtain ⟨i, j, rfl, rfl, c, z⟩ := hf a b d h
  rw [ra.int, rb.int]
  exact hr i j H Q c (same_r q k _ (z G))
theorem e_sub {ma mb : EvM S D} (ha : PE X e1 (tR B ma)) (hb : PE X e2 (tR B mb)) : PE X (.BinOp e1 .Sub e2 pos) (tE B (op2 subO ma mb)) :=
  e_op2 (s_ints (C := fun _ _ => True) (g := fun i j => .int (i - j)) (fun a b d h => by
    cases a <;> cases b <;> first | (cases h; exact ⟨_, _, rfl, rfl, trivial, fun _ => rfl⟩) | cases h) fun i j H Q _ q => ⟨i, j, rfl, rfl, q⟩) (pe_op op_sub ha hb)
theorem mulOk_ok {i j : Int} (h : mulOk i j = true) : IntMulOk i j := by
  rcases of_decide_eq_true h with h | h | h
  · exact CMul.ok (.inl h)
  · exact CMul.ok (.inr h)
  · exact CMulW.ok h
theorem op_mulA : OpR X (binaryOp .Mult) (rI (fun i j => mulOk i j = true) fun i j => .int (i * j)) := opI fun _ _ _ _ _ _ _ hc q => mul_int q (mulOk_ok hc)
theorem e_mul {ma mb : EvM S D} (ha : PE X e1 (tR B ma)) (hb : PE X e2 (tR B mb)) : PE X (.BinOp e1 .Mult e2 pos) (tE B (op2 mulO ma mb)) :=
  e_op2 (s_ints (C := fun i j => mulOk i j = true) (g := fun i j => .int (i * j)) (fun a b d h => by
    cases a <;> cases b <;> first | (obtain ⟨h1, rfl⟩ := opt_if h; exact ⟨_, _, rfl, rfl, h1, fun _ => rfl⟩) | cases h) fun i j H Q c q => ⟨i, j, rfl, rfl, c, q⟩) (pe_op op_mulA ha hb)
theorem e_fdiv {ma mb : EvM S D} (ha : PE X e1 (tR B ma)) (hb : PE X e2 (tR B mb)) : PE X (.BinOp e1 .FloorDiv e2 pos) (tE B (op2 fdivO ma mb)) :=
  e_op2 (s_ints (C := fun _ j => divOk j = true) (g := fun i j => .int (i / j)) (fun a b d h => by
    cases a <;> cases b <;> first | (obtain ⟨h1, rfl⟩ := opt_if h; exact ⟨_, _, rfl, rfl, h1, fun _ => rfl⟩) | cases h) fun i j H Q c q => ⟨i, j, rfl, rfl, of_decide_eq_true (p := 0 < j ∧ j.natAbs.log2 < 9000) c, q⟩) (pe_op op_fdivW ha hb)
theorem opt_ifP {α : Type} {p : Prop} [Decidable p] {a d : α} (h : (if p then some a else none) = some d) : p ∧ a = d := by
  by_cases q : p
  · rw [if_pos q] at h; exact ⟨q, Option.some.inj h⟩
  · rw [if_neg q] at h; cases h
theorem e_mod {ma mb : EvM S D} (ha : PE X e1 (tR B ma)) (hb : PE X e2 (tR B mb)) : PE X (.BinOp e1 .Mod e2 pos) (tE B (op2 modO ma mb)) :=
  e_op2 (s_ints (C := fun _ j => 0 < j) (g := fun i j => .int (i % j)) (fun a b d h => by
    cases a <;> cases b <;> first | (obtain ⟨h1, rfl⟩ := opt_ifP h; exact ⟨_, _, rfl, rfl, h1, fun _ => rfl⟩) | cases h) fun i j H Q c q => ⟨i, j, rfl, rfl, c, q⟩) (pe_op op_mod ha hb)
theorem e_pow {ma mb : EvM S D} (ha : PE X e1 (tR B ma)) (hb : PE X e2 (tR B mb)) : PE X (.BinOp e1 .Pow e2 pos) (tE B (op2 powO ma mb)) :=
  e_op2 (s_ints (C := fun i j => 0 ≤ j ∧ j ≤ 1000000 ∧ i.natAbs < 2 ^ 64) (g := fun i j => .int (i ^ j.toNat)) (fun a b d h => by
    cases a <;> cases b <;> first | (obtain ⟨h1, rfl⟩ := opt_ifP h; exact ⟨_, _, rfl, rfl, h1, fun _ => rfl⟩) | cases h) fun i j H Q c q => ⟨i, j, rfl, rfl, c, q⟩) (pe_op op_pow ha hb)
theorem e_op1' {r : V → Hp → VK → Prop} {f : D → Option D} {ma : EvM S D} (hr : UnS B r f) (h : PE X e (tUn r (tR B ma))) : PE X e (tE B (op1 f ma)) := e_op1 (t := id) hr h
theorem e_neg {ma : EvM S D} (ha : PE X e1 (tR B ma)) : PE X (.UnaryOp .USub e1 pos) (tE B (op1 negO ma)) := e_op1' (r := rU fun i => .int (-i)) (by
  intro ρ s G σ H x a d Q q ra h k
  cases a with
  | int i => cases h; exact ⟨i, ra.int, same_r q k _ rfl⟩
  | _ => cases h) (pe_un un_neg ha)

/-! ## comparisons -/
theorem two_str {a b : D} (h : twoStr a b = true) : ∃ t u, a = .str t ∧ b = .str u := by
  cases a <;> cases b <;> first | exact ⟨_, _, rfl, rfl⟩ | cases h
theorem beq_st (t u : List Nat) : decide (V.str (stOf t) = V.str (stOf u)) = (t == u) := by
  rw [Bool.eq_iff_iff, decide_eq_true_iff, beq_iff_eq]
  exact ⟨fun z => by simpa using congrArg (fun q : Str => q.cps.toList) (V.str.inj z), fun z => by rw [z]⟩
theorem s_eq : OpS B (fun x y H Q => rEq x y H Q ∨ rEqD B.X.K x y H Q) eqO := by
  intro ρ s G σ H x y a b d Q q ra rb h k
  obtain ⟨h1, rfl⟩ := opt_if h
  rw [Bool.or_eq_true] at h1
  rcases h1 with h1 | h1
  · obtain ⟨t, u, rfl, rfl⟩ := two_str h1
    rw [ra.str, rb.str]
    exact .inl ⟨rfl, by rw [beq_st]; exact same_r q k _ rfl⟩
  · rw [Bool.and_eq_true] at h1
    refine .inr ⟨toPy a, toPy b, ra.dp q h1.1, rb.dp q h1.2, pl_shaped h1.1, pl_shaped h1.2, ?_⟩
    rw [eqv_py 60 60 a b h1.1 h1.2]
    exact same_r q k _ rfl
theorem s_ne : OpS B (fun x y H Q => rNe x y H Q ∨ rNeD B.X.K x y H Q) neO := by
  intro ρ s G σ H x y a b d Q q ra rb h k
  obtain ⟨h1, rfl⟩ := opt_if h
  rw [Bool.or_eq_true] at h1
  rcases h1 with h1 | h1
  · obtain ⟨t, u, rfl, rfl⟩ := two_str h1
    rw [ra.str, rb.str]
    exact .inl ⟨rfl, by rw [beq_st]; exact same_r q k _ rfl⟩
  · rw [Bool.and_eq_true] at h1
    refine .inr ⟨toPy a, toPy b, ra.dp q h1.1, rb.dp q h1.2, pl_shaped h1.1, pl_shaped h1.2, ?_⟩
    rw [eqv_py 60 60 a b h1.1 h1.2]
    exact same_r q k _ rfl
/-- a comparison: the rule, what it asks, what it reckons -/
structure CmS (X : Cx) (B : Bs S) (op : CmpOp) (f : D → D → Option D) : Prop where
  ex : ∃ r, OpR X (compareOp op) r ∧ OpS B r f
theorem c_eq (hu : X.A.units + 66 < cLine) (hK : X.K = B.X.K := by rfl) : CmS X B .Eq eqO := ⟨_, op_eq.or (op_eqD (by omega)), by rw [hK]; exact s_eq⟩
theorem c_ne (hu : X.A.units + 66 < cLine) (hK : X.K = B.X.K := by rfl) : CmS X B .NotEq neO := ⟨_, op_ne.or (op_neD (by omega)), by rw [hK]; exact s_ne⟩
theorem lt_strLt : ∀ a b : List Nat, decide (a < b) = strLt a b
  | [], [] => by simp [strLt]
  | _ :: _, [] => by simp [strLt]
  | [], _ :: _ => by simp [strLt]
  | x :: xs, y :: ys => by
    have ih := lt_strLt xs ys
    unfold strLt
    by_cases h : x = y
    · subst h
      rw [if_pos rfl, ← ih]
      simp
    · rw [if_neg h]
      simp [List.cons_lt_cons_iff, h]
theorem s_two {r r' : R2} {f : D → D → Option D} (h1 : ∀ i j d, f (.int i) (.int j) = some d → ∃ k, d = .bl k ∧ ∀ H Q, Q (.bl k) H → r (.int i) (.int j) H Q)
    (h2 : ∀ t u d, f (.str t) (.str u) = some d → ∃ k, d = .bl k ∧ ∀ H Q, Q (.bl k) H → r' (.str (stOf t)) (.str (stOf u)) H Q)
    (h3 : ∀ a b d, f a b = some d → (∃ i j, a = .int i ∧ b = .int j) ∨ ∃ t u, a = .str t ∧ b = .str u) : OpS B (fun x y H Q => r x y H Q ∨ r' x y H Q) f := by
  intro ρ s G σ H x y a b d Q q ra rb h k
  rcases h3 a b d h with ⟨i, j, rfl, rfl⟩ | ⟨t, u, rfl, rfl⟩
  · obtain ⟨c, rfl, z⟩ := h1 i j d h
    rw [ra.int, rb.int]
    exact .inl (z H Q (same_r q k _ rfl))
  · obtain ⟨c, rfl, z⟩ := h2 t u d h
    rw [ra.str, rb.str]
    exact .inr (z H Q (same_r q k _ rfl))
theorem two_of {f : D → D → Option D} (hf : ∀ a b, (∃ i j, a = .int i ∧ b = .int j) ∨ (∃ t u, a = .str t ∧ b = .str u) ∨ f a b = none) : ∀ a b d, f a b = some d → (∃ i j, a = D.int i ∧ b = D.int j) ∨ ∃ t u, a = D.str t ∧ b = D.str u := fun a b d h => by
  rcases hf a b with z | z | z
  · exact .inl z
  · exact .inr z
  · rw [z] at h; cases h
theorem c_lt : CmS X B .Lt ltO := ⟨_, op_lt.or op_lt_str, s_two (fun i j d h => by cases h; exact ⟨_, rfl, fun H Q q => ⟨i, j, rfl, rfl, q⟩⟩)
  (fun t u d h => by cases h; exact ⟨_, rfl, fun H Q q => ⟨_, _, rfl, rfl, by rw [st_list, st_list, lt_strLt]; exact q⟩⟩)
  (two_of fun a b => by cases a <;> cases b <;> first | exact .inl ⟨_, _, rfl, rfl⟩ | exact .inr (.inl ⟨_, _, rfl, rfl⟩) | exact .inr (.inr rfl))⟩
theorem c_le : CmS X B .LtE leO := ⟨_, op_le.or op_le_str, s_two (fun i j d h => by cases h; exact ⟨_, rfl, fun H Q q => ⟨i, j, rfl, rfl, q⟩⟩)
  (fun t u d h => by cases h; exact ⟨_, rfl, fun H Q q => ⟨_, _, rfl, rfl, by rw [st_list, st_list, lt_strLt]; exact q⟩⟩)
  (two_of fun a b => by cases a <;> cases b <;> first | exact .inl ⟨_, _, rfl, rfl⟩ | exact .inr (.inl ⟨_, _, rfl, rfl⟩) | exact .inr (.inr rfl))⟩
theorem c_gt : CmS X B .Gt gtO := ⟨_, op_gt.or op_gt_str, s_two (fun i j d h => by cases h; exact ⟨_, rfl, fun H Q q => ⟨i, j, rfl, rfl, q⟩⟩)
  (fun t u d h => by cases h; exact ⟨_, rfl, fun H Q q => ⟨_, _, rfl, rfl, by rw [st_list, st_list, lt_strLt]; exact q⟩⟩)
  (two_of fun a b => by cases a <;> cases b <;> first | exact .inl ⟨_, _, rfl, rfl⟩ | exact .inr (.inl ⟨_, _, rfl, rfl⟩) | exact .inr (.inr rfl))⟩
theorem c_ge : CmS X B .GtE geO := ⟨_, op_ge.or op_ge_str, s_two (fun i j d h => by cases h; exact ⟨_, rfl, fun H Q q => ⟨i, j, rfl, rfl, q⟩⟩)
  (fun t u d h => by cases h; exact ⟨_, rfl, fun H Q q => ⟨_, _, rfl, rfl, by rw [st_list, st_list, lt_strLt]; exact q⟩⟩)
  (two_of fun a b => by cases a <;> cases b <;> first | exact .inl ⟨_, _, rfl, rfl⟩ | exact .inr (.inl ⟨_, _, rfl, rfl⟩) | exact .inr (.inr rfl))⟩
/-! in -/
theorem memD_py {n : Nat} {d : D} (hd : okD 60 d = true) : ∀ {xs : List D}, okL n xs = true → (toPyL xs).any (fun y => PyData.eqv y (toPy d)) = memD d xs
  | [], _ => by simp [toPyL, memD]
  | x :: xs, h => by
    have h1 : okD n x = true ∧ okL n xs = true := by simpa [okL] using h
    have ih := memD_py (n := n) hd (xs := xs) h1.2
    simp only [toPyL, List.any_cons, memD, eqv_py n 60 x d h1.1 hd] at ih ⊢
    rw [ih]
def rInA (K : PySem.W.Frag) (neg : Bool) : R2 := fun x y H Q => ∃ (d : PyData) (ds : List PyData), Dp K H x d ∧ (Dp K H y (.list ds) ∨ Dp K H y (.tuple ds)) ∧ PyData.canLayAll0 ds = true ∧ d.canLay0 = true ∧ d.depth ≤ 60 ∧
  Q (.bl (if neg then !(ds.any fun y => PyData.eqv y d) else ds.any fun y => PyData.eqv y d)) H
theorem op_inA (hu : X.A.units + 66 < cLine) : OpR X (compareOp .In) (rInA X.K false) := by
  intro pins s σ H x y v u Q I rx ry h
  obtain ⟨d, ds, hd, he, h1, h2, h3, q⟩ := h
  obtain ⟨as, r1⟩ := Dp.reads I d x v hd rx
  rcases he with he | he
  · obtain ⟨bs, r2⟩ := Dp.reads I _ y u he ry
    exact SeqAt.in_list_reads r2 r1 h1 h2 (by omega) ⟨.bl _, H, I, rfl, q⟩
  · obtain ⟨bs, r2⟩ := Dp.reads I _ y u he ry
    exact SeqAt.in_tuple_reads r2 r1 h1 h2 (by omega) ⟨.bl _, H, I, rfl, q⟩
theorem op_ninA (hu : X.A.units + 66 < cLine) : OpR X (compareOp .NotIn) (rInA X.K true) := by
  intro pins s σ H x y v u Q I rx ry h
  obtain ⟨d, ds, hd, he, h1, h2, h3, q⟩ := h
  obtain ⟨as, r1⟩ := Dp.reads I d x v hd rx
  rcases he with he | he
  · obtain ⟨bs, r2⟩ := Dp.reads I _ y u he ry
    exact SeqAt.notIn_list_reads r2 r1 h1 h2 (by omega) ⟨.bl _, H, I, rfl, q⟩
  · obtain ⟨bs, r2⟩ := Dp.reads I _ y u he ry
    exact SeqAt.notIn_tuple_reads r2 r1 h1 h2 (by omega) ⟨.bl _, H, I, rfl, q⟩
/-- the list or tuple of an "in" as the library reads it -/
theorem RepB.dpSeq (r : SR B ρ s G σ H) {xs : List D} (h : RepB B ρ σ G x d) (e : seqO d = some xs) (k : okL 60 xs = true) : Dp B.X.K H x (.list (toPyL xs)) ∨ Dp B.X.K H x (.tuple (toPyL xs)) := by
  cases d with
  | tup ys =>
    obtain rfl := Option.some.inj e
    obtain ⟨a, vs, rfl, q, l⟩ := h.tup r
    exact .inr (.tup q (dp_repL (B := B) r.sub 60 ys vs l k))
  | lst ys =>
    obtain rfl := Option.some.inj e
    obtain ⟨a, vs, rfl, q, l⟩ := h.lst r
    exact .inl (.lst q (dp_repL (B := B) r.sub 60 ys vs l k))
  | _ => cases e
theorem inO_seq {a b d : D} (h : inO a b = some d) : (∃ xs, seqO b = some xs ∧ pl a = true ∧ okL 60 xs = true ∧ d = .bl (memD a xs)) ∨ ∃ c t, a = .str [c] ∧ b = .str t ∧ d = .bl (decide (c ∈ t)) := by
  cases b with
  | tup xs =>
    obtain ⟨h1, rfl⟩ := opt_if h
    rw [Bool.and_eq_true] at h1
    exact .inl ⟨xs, rfl, h1.1, h1.2, rfl⟩
  | lst xs =>
    obtain ⟨h1, rfl⟩ := opt_if h
    rw [Bool.and_eq_true] at h1
    exact .inl ⟨xs, rfl, h1.1, h1.2, rfl⟩
  | str t =>
    cases a with
    | str z =>
      match z, h with
      | [c], h => exact .inr ⟨c, t, rfl, rfl, (Option.some.inj h).symm⟩
    | _ => cases h
  | _ => cases a <;> cases h
theorem c_in (hu : X.A.units + 66 < cLine) (hK : X.K = B.X.K := by rfl) : CmS X B .In inO := ⟨_, (op_inA hu).or op_in_sign, by
  rw [hK]
  intro ρ s G σ H x y a b d Q q ra rb h k
  rcases inO_seq h with ⟨xs, e1, e2, e3, rfl⟩ | ⟨c, t, rfl, rfl, rfl⟩
  · obtain ⟨l1, l2⟩ := ok_lay 60 a e2
    obtain ⟨l3, _⟩ := ok_layL 60 xs e3
    refine .inl ⟨toPy a, toPyL xs, ra.dp q e2, rb.dpSeq q e1 e3, l3, l1, l2, ?_⟩
    rw [memD_py (n := 60) e2 e3]
    exact same_r q k _ rfl
  · exact .inr ⟨c, stOf t, ra.str, rb.str, by rw [st_list]; exact same_r q k _ rfl⟩⟩
theorem c_nin (hu : X.A.units + 66 < cLine) (hK : X.K = B.X.K := by rfl) : CmS X B .NotIn ninO := ⟨_, (op_ninA hu).or op_notIn_sign, by
  rw [hK]
  intro ρ s G σ H x y a b d Q q ra rb h k
  unfold ninO at h
  cases z : inO a b with
  | none => rw [z] at h; cases h
  | some d' =>
    rw [z] at h
    rcases inO_seq z with ⟨xs, e1, e2, e3, rfl⟩ | ⟨c, t, rfl, rfl, rfl⟩
    · obtain ⟨l1, l2⟩ := ok_lay 60 a e2
      obtain ⟨l3, _⟩ := ok_layL 60 xs e3
      cases h
      refine .inl ⟨toPy a, toPyL xs, ra.dp q e2, rb.dpSeq q e1 e3, l3, l1, l2, ?_⟩
      rw [memD_py (n := 60) e2 e3]
      exact same_r q k _ rfl
    · cases h
      exact .inr ⟨c, stOf t, ra.str, rb.str, by rw [st_list]; exact same_r q k _ rfl⟩⟩
theorem RepB.isN (r : SR B ρ s G σ H) (h : RepB B ρ σ G x d) : decide (x = .non) = isN d := by
  rcases h with h | ⟨i, ys, e1, e2, rfl⟩
  · cases d with
    | non => rw [show x = .non from h]; rfl
    | bl b => rw [show x = .bl b from h]; rfl
    | int i => rw [show x = .int i from h]; rfl
    | str t => rw [show x = .str (stOf t) from h]; rfl
    | tup xs => unfold Rep at h; obtain ⟨a, vs, rfl, _⟩ := h; rfl
    | lst xs => unfold Rep at h; obtain ⟨a, vs, rfl, _⟩ := h; rfl
    | dct ks vs => unfold Rep at h; exact h.elim
    | obj c fs => unfold Rep at h; obtain ⟨a, _, _, _, _, _, rfl, _⟩ := h; rfl
    | hp => rw [show x = .ref B.hp from h]; rfl
  · obtain ⟨a, vs, q, _⟩ := r.sl i _ e1
    rw [e2] at q
    cases q
    rfl
def rIsA : R2 := fun x y H Q => (y = .non ∧ Q (.bl (decide (x = .non))) H) ∨ rIsB x y H Q
theorem c_is : CmS X B .Is isO := ⟨_, op_isN.or op_isBl, by
  intro ρ s G σ H x y a b d Q q ra rb h k
  cases b with
  | non =>
    have e : d = .bl (Dl.isN a) := by cases a <;> exact (Option.some.inj h).symm
    subst e
    exact .inl ⟨rb.non, by rw [ra.isN q]; exact same_r q k _ rfl⟩
  | bl j =>
    cases a with
    | bl i =>
      cases h
      refine .inr ⟨i, j, ra.bl, rb.bl, ?_⟩
      rw [show decide (i = j) = (i == j) by cases i <;> cases j <;> rfl]
      exact same_r q k _ rfl
    | _ => cases h
  | _ => cases a <;> cases h⟩
theorem c_isn : CmS X B .IsNot isnO := ⟨_, op_notN.or op_notBl, by
  intro ρ s G σ H x y a b d Q q ra rb h k
  cases b with
  | non =>
    have e : d = .bl (!Dl.isN a) := by cases a <;> exact (Option.some.inj h).symm
    subst e
    exact .inl ⟨rb.non, by rw [ra.isN q]; exact same_r q k _ rfl⟩
  | bl j =>
    cases a with
    | bl i =>
      cases h
      refine .inr ⟨i, j, ra.bl, rb.bl, ?_⟩
      rw [show decide (i = j) = (i == j) by cases i <;> cases j <;> rfl]
      exact same_r q k _ rfl
    | _ => cases h
  | _ => cases a <;> cases h⟩

/-- a comparison's value -/
theorem e_cmp {op : CmpOp} {f : D → D → Option D} {ma mb : EvM S D} (c : CmS X B op f) (ha : PE X e1 (tR B ma)) (hb : PE X e2 (tR B mb)) (hm : behindInMarks op e2 = false) : PE X (.Compare e1 [op] [e2] pos) (tE B (op2 f ma mb)) := by
  obtain ⟨r, h1, h2⟩ := c.ex
  exact e_op2 h2 (pe_cmpR h1 ha hb hm)
theorem RepBl {b : Bool} (h : Rep B.X B.hp G v (.bl b)) : v = .bl b := h
/-- .. as a test -/
theorem q_cmp {op : CmpOp} {f : D → D → Option D} {ma mb : EvM S D} (c : CmS X B op f) (ha : PE X e1 (tR B ma)) (hb : PE X e2 (tR B mb)) (hm : behindInMarks op e2 = false) : PT X (.Compare e1 [op] [e2] pos) (tQ B (cmpQ f blO ma mb)) := by
  obtain ⟨r, h1, h2⟩ := c.ex
  refine PT.imp (pt_cmpR h1 ha hb hm) fun σ H Q ⟨ρ, s, G, q, w⟩ => ?_
  unfold cmpQ op1 op2 at w
  refine ⟨ρ, s, G, q, ((w.bind q).bind q).imp fun a s1 G1 H1 q1 g1 w1 v rv => ⟨ρ, s1, G1, q1, (w1.bind q1).imp fun b s2 G2 H2 q2 g2 w2 u ru => ?_⟩⟩
  cases z : f a b with
  | none => rw [z] at w2; exact (Wp.stuck w2).elim
  | some d =>
    rw [z] at w2
    refine h2 ρ s2 G2 σ H2 v u a b d _ q2 (rv.mono g2.le) ru z fun v' G' H' q3 g3 r3 => ?_
    have w3 := w2 G' H' q3 g3
    cases d with
    | bl k => exact ⟨k, r3, w3 G' H' q3 .refl⟩
    | _ => exact (Wp.stuck w3).elim
theorem e_ch {op op' : CmpOp} {f g : D → D → Option D} {e3 : Expr} {ma mb mc : EvM S D} (c : CmS X B op f) (c' : CmS X B op' g) (ha : PE X e1 (tR B ma)) (hb : PE X e2 (tR B mb)) (hc : PE X e3 (tR B mc)) (hm : lastMarks [op, op'] [e2, e3] = false := by with_unfolding_all rfl) :
    PE X (.Compare e1 [op, op'] [e2, e3] pos) (tE B (chE f g blO ma mb mc)) := by
  obtain ⟨r, h1, h2⟩ := c.ex
  obtain ⟨r', h1', h2'⟩ := c'.ex
  refine PE.imp (pe_chain h1 h1' ha hb hc hm) fun σ H Q ⟨ρ, s, G, q, w⟩ => ?_
  unfold chE at w
  refine ⟨ρ, s, G, q, (w.bind q).imp fun a s1 G1 H1 q1 g1 w1 v rv => ⟨ρ, s1, G1, q1, (w1.bind q1).imp fun b s2 G2 H2 q2 g2 w2 u ru => ?_⟩⟩
  cases z : f a b with
  | none => rw [z] at w2; exact (Wp.stuck w2).elim
  | some d =>
    rw [z] at w2
    have w2' := w2.bind q2
    refine h2 ρ s2 G2 σ H2 v u a b d _ q2 (rv.mono g2.le) ru z fun v' G' H' q3 g3 r3 => ?_
    have w3 := w2' G' H' q3 g3
    cases d with
    | bl k =>
      refine ⟨k, r3, ?_⟩
      have w4 := w3.bind q3 G' H' q3 .refl
      cases k with
      | true =>
        rw [if_pos rfl]
        refine ⟨ρ, s2, G', q3, (Wp.bind q3 w4).imp fun c s5 G5 H5 q5 g5 w5 t rt => ?_⟩
        cases z' : g b c with
        | none => rw [z'] at w5; exact (Wp.stuck w5).elim
        | some d' =>
          rw [z'] at w5
          exact h2' ρ s5 G5 σ H5 u t b c d' Q q5 ((ru.mono g3.le).mono g5.le) rt z' fun v7 G7 H7 q7 g7 r7 => w5 G7 H7 q7 g7 v7 r7
      | false =>
        rw [if_neg Bool.false_ne_true]
        exact Wp.pure w4 q3 _ rfl
    | _ => exact (Wp.stuck w3).elim
/-- an expression whose value is a bool, as a test -/
theorem q_ch {op op' : CmpOp} {f g : D → D → Option D} {e3 : Expr} {ma mb mc : EvM S D} (c : CmS X B op f) (c' : CmS X B op' g) (ha : PE X e1 (tR B ma)) (hb : PE X e2 (tR B mb)) (hc : PE X e3 (tR B mc)) (hm : lastMarks [op, op'] [e2, e3] = false := by with_unfolding_all rfl) :
    PT X (.Compare e1 [op, op'] [e2, e3] pos) (tQ B (op1 blO (chE f g blO ma mb mc))) := by
  obtain ⟨r, h1, h2⟩ := c.ex
  obtain ⟨r', h1', h2'⟩ := c'.ex
  refine PT.imp (pt_chain h1 h1' ha hb hc hm) fun σ H Q ⟨ρ, s, G, q, w⟩ => ?_
  unfold op1 chE at w
  refine ⟨ρ, s, G, q, ((w.bind q).bind q).imp fun a s1 G1 H1 q1 g1 w1 v rv => ⟨ρ, s1, G1, q1, (w1.bind q1).imp fun b s2 G2 H2 q2 g2 w2 u ru => ?_⟩⟩
  cases z : f a b with
  | none => rw [z] at w2; exact (Wp.stuck w2).elim
  | some d =>
    rw [z] at w2
    have w2' := w2.bind q2
    refine h2 ρ s2 G2 σ H2 v u a b d _ q2 (rv.mono g2.le) ru z fun v' G' H' q3 g3 r3 => ?_
    have w3 := w2' G' H' q3 g3
    cases d with
    | bl k =>
      refine ⟨k, r3, ?_⟩
      have w4 := w3.bind q3 G' H' q3 .refl
      cases k with
      | true =>
        rw [if_pos rfl]
        refine ⟨ρ, s2, G', q3, (Wp.bind q3 w4).imp fun c s5 G5 H5 q5 g5 w5 t rt => ?_⟩
        cases z' : g b c with
        | none => rw [z'] at w5; exact (Wp.stuck w5).elim
        | some d' =>
          rw [z'] at w5
          refine h2' ρ s5 G5 σ H5 u t b c d' _ q5 ((ru.mono g3.le).mono g5.le) rt z' fun v7 G7 H7 q7 g7 r7 => ?_
          have w7 := w5 G7 H7 q7 g7
          cases d' with
          | bl k' => exact ⟨k', r7, w7 G7 H7 q7 .refl⟩
          | _ => exact (Wp.stuck w7).elim
      | false =>
        rw [if_neg Bool.false_ne_true]
        exact ⟨false, rfl, (Wp.pure w4 q3) _ _ q3 .refl⟩
    | _ => exact (Wp.stuck w3).elim

/-! ## truth, and, or, not -/
theorem RepB.tru {k : Bool} (r : SR B ρ s G σ H) (h : RepB B ρ σ G x d) (e : truO d = some k) : TruV B.X.K x H k := by
  cases d with
  | non => rw [h.non]; cases e; exact rfl
  | bl b => rw [h.bl]; cases e; exact rfl
  | int i => rw [h.int]; cases e; exact rfl
  | str t =>
    rw [h.str]
    obtain ⟨h1, rfl⟩ := opt_if e
    refine ⟨by rw [st_len]; exact fit_le h1, ?_⟩
    rw [st_len]
    cases t with
    | nil => rfl
    | cons _ _ => rw [List.isEmpty_cons]; show true = bne _ _; rw [List.length_cons]; exact (bne_iff_ne.mpr (by omega)).symm
  | tup xs =>
    obtain ⟨a, vs, rfl, q, l⟩ := h.tup r
    cases e
    refine .inr (.inl ⟨vs, q, ?_⟩)
    have n := l.length
    cases xs <;> cases vs <;> first | rfl | simp at n
  | lst xs =>
    obtain ⟨a, vs, rfl, q, l⟩ := h.lst r
    cases e
    refine .inl ⟨vs, q, ?_⟩
    have n := l.length
    cases xs <;> cases vs <;> first | rfl | simp at n
  | _ => cases e
/-- a value as a test (a name, a call, a subscript ..) -/
theorem q_val {m : EvM S D} (ha : PE X e (tR B m)) (he : ∀ whole, isTrue e X.env whole = (do let v ← whole; standAt e.pos; holding [v] (truthy v)) := by intro _; rfl) (hK : X.K = B.X.K := by rfl) : PT X e (tQ B (op1 truO m)) :=
  PT.imp (pt_truth ha he) fun σ H Q ⟨ρ, s, G, q, w⟩ => by
    unfold op1 at w
    refine ⟨ρ, s, G, q, (w.bind q).imp fun a s1 G1 H1 q1 g1 w1 v rv => ?_⟩
    cases z : truO a with
    | none => rw [z] at w1; exact (Wp.stuck w1).elim
    | some k =>
      rw [z] at w1
      exact ⟨k, by rw [hK]; exact rv.tru q1 z, Wp.pure w1 q1⟩
theorem tQ_bind {α : Type} {t : EvM S Bool} {k : Bool → M S α} {post : α → S → Hp → Hp → Prop} (q : SR B ρ s G σ H) (w : Wp B ρ σ (t ρ >>= k) s G H post) {Q : Bool → Hp → Prop} (h : ∀ b s1 G1 H1, SR B ρ s1 G1 σ H1 → Wp B ρ σ (k b) s1 G1 H1 post → Q b H1) : tQ B t σ H Q :=
  ⟨ρ, s, G, q, (w.bind q).imp fun b s1 G1 H1 q1 _ w1 => h b s1 G1 H1 q1 w1⟩
theorem PW.imp {X : Cx} {e : Expr} {t t' : TT} (h : PW X e t) (k : ∀ σ H Q, t' σ H Q → t σ H Q) : PW X e t' := ⟨fun wh pins s σ H Q I q => h.run wh pins s σ H Q I (k σ H Q q)⟩
theorem w_and {t u : EvM S Bool} {rest : List Expr} (ha : PT X e1 (tQ B t)) (hb : PW X (.BoolOp .And (e2 :: rest) pos) (tQ B u)) : PW X (.BoolOp .And (e1 :: e2 :: rest) pos) (tQ B (andQ t u)) := PW.imp (pw_and ha hb) fun σ H Q ⟨ρ, s, G, q, w⟩ => by
  unfold andQ at w
  refine tQ_bind q w fun b s1 G1 H1 q1 w1 => ?_
  cases b with
  | true => rw [if_pos rfl]; exact ⟨ρ, s1, G1, q1, w1⟩
  | false => rw [if_neg Bool.false_ne_true]; exact Wp.pure w1 q1
theorem w_or {t u : EvM S Bool} {rest : List Expr} (ha : PT X e1 (tQ B t)) (hb : PW X (.BoolOp .Or (e2 :: rest) pos) (tQ B u)) : PW X (.BoolOp .Or (e1 :: e2 :: rest) pos) (tQ B (orQ t u)) := PW.imp (pw_or ha hb) fun σ H Q ⟨ρ, s, G, q, w⟩ => by
  unfold orQ at w
  refine tQ_bind q w fun b s1 G1 H1 q1 w1 => ?_
  cases b with
  | true => rw [if_pos rfl]; exact Wp.pure w1 q1
  | false => rw [if_neg Bool.false_ne_true]; exact ⟨ρ, s1, G1, q1, w1⟩
theorem q_not {t : EvM S Bool} (ha : PT X e1 (tQ B t)) : PT X (.UnaryOp .Not e1 pos) (tQ B (notQ t)) := PT.imp (pt_not ha) fun σ H Q ⟨ρ, s, G, q, w⟩ => by
  unfold notQ at w
  exact tQ_bind q w fun b s1 G1 H1 q1 w1 => Wp.pure w1 q1
theorem e_if {t : EvM S Bool} {ma mb : EvM S D} {e3 : Expr} (hc : PT X e3 (tQ B t)) (ha : PE X e1 (tE B ma)) (hb : PE X e2 (tE B mb)) : PE X (.IfExp e3 e1 e2 pos) (tE B (ifE t ma mb)) := PE.imp (pe_ifExp hc ha hb) fun σ H Q ⟨ρ, s, G, q, w⟩ => by
  unfold ifE at w
  refine tQ_bind q w fun b s1 G1 H1 q1 w1 => ?_
  cases b with
  | true => rw [if_pos rfl]; exact ⟨ρ, s1, G1, q1, w1⟩
  | false => rw [if_neg Bool.false_ne_true]; exact ⟨ρ, s1, G1, q1, w1⟩
theorem e_one {op} {m : EvM S D} (h : PE X e1 (tE B m)) : PE X (.BoolOp op [e1] pos) (tE B m) := pe_one h
theorem e_and {ma mb : EvM S D} {rest : List Expr} (ha : PE X e1 (tE B ma)) (hb : PE X (.BoolOp .And (e2 :: rest) pos) (tE B mb)) (hK : X.K = B.X.K := by rfl) : PE X (.BoolOp .And (e1 :: e2 :: rest) pos) (tE B (andE truO ma mb)) := PE.imp (pe_andT ha hb) fun σ H Q ⟨ρ, s, G, q, w⟩ => by
  unfold andE at w
  refine ⟨ρ, s, G, q, (w.bind q).imp fun a s1 G1 H1 q1 g1 w1 v rv => ?_⟩
  cases z : truO a with
  | none => rw [z] at w1; exact (Wp.stuck w1).elim
  | some k =>
    rw [z] at w1
    refine ⟨k, by rw [hK]; exact RepB.tru q1 (.inl rv) z, ?_⟩
    have w2 := Wp.bind q1 w1 G1 H1 q1 .refl
    cases k with
    | true => rw [if_pos rfl]; exact ⟨ρ, s1, G1, q1, w2⟩
    | false => rw [if_neg Bool.false_ne_true]; exact Wp.pure w2 q1 v rv
theorem e_or {ma mb : EvM S D} {rest : List Expr} (ha : PE X e1 (tE B ma)) (hb : PE X (.BoolOp .Or (e2 :: rest) pos) (tE B mb)) (hK : X.K = B.X.K := by rfl) : PE X (.BoolOp .Or (e1 :: e2 :: rest) pos) (tE B (orE truO ma mb)) := PE.imp (pe_orT ha hb) fun σ H Q ⟨ρ, s, G, q, w⟩ => by
  unfold orE at w
  refine ⟨ρ, s, G, q, (w.bind q).imp fun a s1 G1 H1 q1 g1 w1 v rv => ?_⟩
  cases z : truO a with
  | none => rw [z] at w1; exact (Wp.stuck w1).elim
  | some k =>
    rw [z] at w1
    refine ⟨k, by rw [hK]; exact RepB.tru q1 (.inl rv) z, ?_⟩
    have w2 := Wp.bind q1 w1 G1 H1 q1 .refl
    cases k with
    | true => rw [if_pos rfl]; exact Wp.pure w2 q1 v rv
    | false => rw [if_neg Bool.false_ne_true]; exact ⟨ρ, s1, G1, q1, w2⟩
theorem e_not {ma : EvM S D} (ha : PE X e1 (tR B ma)) (hK : X.K = B.X.K := by rfl) : PE X (.UnaryOp .Not e1 pos) (tE B (op1 notO ma)) := PE.imp (pe_notT ha) fun σ H Q ⟨ρ, s, G, q, w⟩ => by
  unfold op1 at w
  refine ⟨ρ, s, G, q, (w.bind q).imp fun a s1 G1 H1 q1 g1 w1 v rv => ?_⟩
  cases z : truO a with
  | none => rw [show notO a = none by unfold notO; rw [z]; rfl] at w1; exact (Wp.stuck w1).elim
  | some k =>
    rw [show notO a = some (.bl (!k)) by unfold notO; rw [z]; rfl] at w1
    exact ⟨k, by rw [hK]; exact rv.tru q1 z, Wp.pure w1 q1 _ rfl⟩
end Dl
-- DL3
namespace Dl
open PySem PySem.Spec PyProof.Rows L2
variable {S : Type} {B : Bs S} {X : Cx} {e e1 e2 : Expr} {es : List Expr} {pos p p2 : Pos} {ρ : List Slot} {σ : L2.St} {G H : Hp} {s : S} {x y v : V} {d : D}

/-- what is new now was new then -/
theorem Gr.back {s1 : S} {G1 H1 : Hp} (q : SR B ρ s G σ H) (q1 : SR B ρ s1 G1 σ H1) (g : Gr B G H G1 H1) {p : Addr} (hp : H1 p = none) : H p = none := by
  cases e : H p with
  | none => rfl
  | some o =>
    by_cases n : B.rg.reg p
    · obtain ⟨o', z'⟩ := B.rg.there _ _ p q1.hs n
      rw [hp] at z'; cases z'
    · have := g.kp p o e n
      rw [hp] at this; cases this
/-! ## argument lists, displays -/
theorem a_nil : PA X [] (tAs B argNil) := PA.imp pa_nil fun σ H Q ⟨ρ, s, G, q, w⟩ => Wp.pure w q [] rfl
theorem a_cons {m : EvM S D} {n : EvM S (List D)} (ha : PE X e (tE B m)) (hr : PA X es (tAs B n)) (hs : starEach (e :: es) X.env = (false, eval e X.env) :: starEach es X.env := by rfl) : PA X (e :: es) (tAs B (argCons m n)) :=
  PA.imp (pa_cons ha hr hs) fun σ H Q ⟨ρ, s, G, q, w⟩ => by
    unfold argCons at w
    exact ⟨ρ, s, G, q, (w.bind q).imp fun a s1 G1 H1 q1 g1 w1 v rv => ⟨ρ, s1, G1, q1, (w1.bind q1).imp fun b s2 G2 H2 q2 g2 w2 vs rs => Wp.pure w2 q2 (v :: vs) (.cons (rv.mono g2.le) rs)⟩⟩
theorem e_tup {j} {m : EvM S (List D)} (h : PA X es (tAs B m)) : PE X (.Tuple es j pos) (tE B (tupE m)) := PE.imp (pe_tup h) fun σ H Q ⟨ρ, s, G, q, w⟩ => by
  unfold tupE at w
  refine ⟨ρ, s, G, q, (w.bind q).imp fun ds s1 G1 H1 q1 g1 w1 vs rs => ?_⟩
  cases z : fit ds.length with
  | false => rw [z, if_neg Bool.false_ne_true] at w1; exact (Wp.stuck w1).elim
  | true =>
    rw [z, if_pos rfl] at w1
    refine ⟨by rw [rs.length]; exact fit_le z, fun p hp => ?_⟩
    exact new_tup (Q := Q) q1 (fun v G' H' q' g' r' => w1 G' H' q' g' v r') rs hp
theorem o_lst {m : EvM S (List D)} (h : PA X es (tAs B m)) : PE X (.List es pos) (tO B (disO m)) := PE.imp (pe_lst h) fun σ H Q ⟨ρ, s, G, q, w⟩ => by
  unfold disO at w
  refine ⟨ρ, s, G, q, (w.bind q).imp fun ds s1 G1 H1 q1 g1 w1 vs rs => ?_⟩
  cases z : fit ds.length with
  | false => rw [z, if_neg Bool.false_ne_true] at w1; exact (Wp.stuck w1).elim
  | true =>
    rw [z, if_pos rfl] at w1
    refine ⟨by rw [rs.length]; exact fit_le z, fun p hp => ?_⟩
    obtain ⟨q2, g2⟩ := q1.alloc0 (o := .lst vs) hp
    exact w1 _ _ q2 g2 p vs (Gr.back q q1 g1 hp) (q1.there hp).2.2 upd_same rs
theorem SR.frz {a : Addr} {vs : List V} (r : SR B ρ s G σ H) (h : H a = some (.lst vs)) (h0 : B.H0 a = none) (nr : ¬ B.rg.reg a) (no : ∀ (i : Nat) xs, ρ[i]? = some (.own xs) → σ[i]? ≠ some (some (.ref a))) (hG : G a = none) : SR B ρ s (upd G a (.lst vs)) σ H := by
  have l : Le G (upd G a (.lst vs)) := Le.upd hG
  refine ⟨fun b o e => ?_, r.g0.trans l, fun b o e => ?_, r.kept, fun b q => ?_, r.hs, r.len, fun i q e => ?_, r.ds⟩
  · by_cases z : b = a
    · subst z; rw [upd_same] at e; cases e; exact h
    · rw [upd_ne z] at e; exact r.sub b o e
  · by_cases z : b = a
    · subst z; exact .inr h0
    · rw [upd_ne z] at e; exact r.gn b o e
  · rw [upd_ne (fun z => nr (by rw [← z]; exact q))]; exact r.rgn b q
  · have z := r.sl i q e
    cases q with
    | emp => exact z
    | val d =>
      obtain ⟨v, e1, e2⟩ := z
      exact ⟨v, e1, Rep.mono l _ _ e2⟩
    | own xs =>
      obtain ⟨b, us, e1, e2, e3, e4, e5, e6⟩ := z
      refine ⟨b, us, e1, ?_, e3, e4, e5, RepL.mono l _ _ e6⟩
      rw [upd_ne (fun z => no i xs e (by rw [← z]; exact e1))]; exact e2
theorem Wp.mapAll {α β : Type} {m : M S α} {f : α → β} {post : β → S → Hp → Hp → Prop} (h : Wp B ρ σ (m >>= fun a => Pure.pure (f a)) s G H post) : Wp B ρ σ m s G H fun a s' _ _ => ∀ G' H', SR B ρ s' G' σ H' → Gr B G H G' H' → post (f a) s' G' H' := by
  unfold Wp at h ⊢
  rw [bind_run] at h
  cases e : m s with
  | ok a s1 => rw [e] at h; exact fun _ _ _ _ => h
  | exc c fs s1 => rw [e] at h; exact h
  | stuck => rw [e] at h; exact h
/-- a new list is known at once -/
theorem e_of {m : EvM S (List D)} (h : PE X e (tO B m)) : PE X e (tE B (lstE m)) := PE.imp h fun σ H Q ⟨ρ, s, G, q, w⟩ => by
  unfold lstE at w
  refine ⟨ρ, s, G, q, w.mapAll.imp fun ds s1 G1 H1 q1 g1 w1 a vs hn hg ha rs => ?_⟩
  obtain ⟨h0, nr, _⟩ := q.there hn
  have own : ∀ (i : Nat) xs, ρ[i]? = some (.own xs) → σ[i]? ≠ some (some (.ref a)) := fun i xs e z => by
    obtain ⟨b, us, e1, _, _, _, e5, _⟩ := q.sl i _ e
    rw [z] at e1; cases e1
    rw [hn] at e5; cases e5
  have l : Le G1 (upd G1 a (.lst vs)) := Le.upd hg
  refine w1 _ _ (q1.frz ha h0 nr own hg) ⟨g1.le.trans l, g1.kp, fun b o e => ?_⟩ (.ref a) ?_
  · by_cases z : b = a
    · subst z; exact .inr hn
    · rw [upd_ne z] at e; exact g1.new b o e
  · unfold Rep
    exact ⟨a, vs, rfl, .inl (.inl upd_same), RepL.mono l _ _ rs⟩

/-! ## subscripts, slices -/
theorem s_ix : OpS B (rIx B.X.K) ixO := by
  intro ρ s G σ H x y a b d Q q ra rb h k
  have key : ∀ {xs : List D} {vs : List V} {i : Int}, RepL B.X B.hp G vs xs → ixL xs i = some d → ∃ v, atI vs i = some v ∧ Q v H := fun {xs vs i} l z => by
    unfold ixL at z
    obtain ⟨j, e1, e2⟩ := Option.bind_eq_some_iff.mp z
    obtain ⟨v, e3, r3⟩ := l.get e2
    refine ⟨v, ?_, same_r q k v r3⟩
    unfold atI
    rw [l.length, show ixN xs.length i = some j from e1]
    exact e3
  cases b with
  | int i =>
    cases a with
    | tup xs =>
      obtain ⟨l, vs, rfl, z, r⟩ := ra.tup q
      obtain ⟨v, e1, e2⟩ := key r h
      exact .inr (.inl ⟨l, vs, i, v, rfl, rb.int, z, e1, e2⟩)
    | lst xs =>
      obtain ⟨l, vs, rfl, z, r⟩ := ra.lst q
      obtain ⟨v, e1, e2⟩ := key r h
      exact .inl ⟨l, vs, i, v, rfl, rb.int, z, e1, e2⟩
    | str t =>
      have h : (if fit t.length = true then (ixP t.length i).bind fun j => t[j]?.map fun c => D.str [c] else none) = some d := h
      cases f : fit t.length with
      | false => rw [f, if_neg Bool.false_ne_true] at h; cases h
      | true =>
        rw [f, if_pos rfl] at h
        obtain ⟨j, e1, e2⟩ := Option.bind_eq_some_iff.mp h
        obtain ⟨c, e3, rfl⟩ := Option.map_eq_some_iff.mp e2
        refine .inr (.inr ⟨stOf t, i, c, ra.str, rb.int, by rw [st_len]; exact fit_le f, ?_, same_r q k _ rfl⟩)
        unfold atI
        rw [st_list, show ixN t.length i = some j from e1]
        exact e3
    | _ => cases h
  | _ => cases a <;> cases h
theorem e_ix {ma mb : EvM S D} (ha : PE X e1 (tR B ma)) (hb : PE X e2 (tR B mb)) (hs : PlainIx e2 := by exact fun _ _ => rfl) (hK : X.K = B.X.K := by rfl) : PE X (.Subscript e1 e2 pos) (tE B (op2 ixO ma mb)) := e_op2 (r := rIx X.K) (by rw [hK]; exact s_ix) (pe_ix ix_seq ha hb hs)
def tP (B : Bs S) (m : EvM S (Option Int)) : TO := fun σ H Q => ∃ ρ s G, SR B ρ s G σ H ∧ Wp B ρ σ (m ρ) s G H fun o _ _ H' => Q o H'
theorem PO.imp {e : Option Expr} {t t' : TO} (h : PO X e t) (k : ∀ σ H Q, t' σ H Q → t σ H Q) : PO X e t' := ⟨fun pins s σ H Q I q => h.run pins s σ H Q I (k σ H Q q)⟩
theorem p_none : PO X none (tP B ptN) := PO.imp po_none fun σ H Q ⟨ρ, s, G, q, w⟩ => Wp.pure w q
theorem p_some {m : EvM S D} (h : PE X e (tR B m)) : PO X (some e) (tP B (ptS m)) := PO.imp (po_some h) fun σ H Q ⟨ρ, s, G, q, w⟩ => by
  unfold ptS op1 at w
  refine ⟨ρ, s, G, q, (w.bind q).imp fun a s1 G1 H1 q1 g1 w1 v rv => ?_⟩
  cases a with
  | int i => exact ⟨i, rv.int, Wp.pure w1 q1⟩
  | _ => exact (Wp.stuck w1).elim
theorem cut_rep {xs : List D} {vs : List V} (lo hi : Option Int) (h : RepL B.X B.hp G vs xs) : RepL B.X B.hp G (cutV vs lo hi) (cut xs lo hi) := by
  have e : ∀ (n d : Nat) (o : Option Int), HT.sIx n d o = slP n d o := fun n d o => by cases o <;> rfl
  unfold cutV cut
  rw [e, e, h.length]
  exact (h.drop _).take _
def rSlAny (K : PySem.W.Frag) : V → Option Int → Option Int → Hp → VK → Prop := fun x lo hi H Q => rSlL K x lo hi H Q ∨ rSlA K x lo hi H Q ∨ rSlS x lo hi H Q
theorem sl_any : SlR X (rSlAny X.K) := sl_list.or (sl_tupA.or sl_str)
theorem e_sl {lo hi : Option Expr} {m : EvM S D} {ml mh : EvM S (Option Int)} (he : PE X e (tR B m)) (hl : PO X lo (tP B ml)) (hu : PO X hi (tP B mh)) (hK : X.K = B.X.K := by rfl) : PE X (.Subscript e (.Slice lo hi none p2) pos) (tE B (slE m ml mh)) :=
  PE.imp (pe_slice sl_any he hl hu) fun σ H Q ⟨ρ, s, G, q, w⟩ => by
    unfold slE at w
    refine ⟨ρ, s, G, q, (w.bind q).imp fun a s1 G1 H1 q1 g1 w1 v rv => ⟨ρ, s1, G1, q1, (w1.bind q1).imp fun l s2 G2 H2 q2 g2 w2 => ⟨ρ, s2, G2, q2, (w2.bind q2).imp fun h s3 G3 H3 q3 g3 w3 => ?_⟩⟩⟩
    rw [hK]
    have ra := (rv.mono g2.le).mono g3.le
    cases a with
    | tup xs =>
      obtain ⟨a, vs, rfl, z, r⟩ := ra.tup q3
      have n := r.length
      have rc := cut_rep (B := B) l h r
      refine .inr (.inl ⟨a, vs, rfl, z, fun e => ?_, fun _ p hp => new_tup (Q := Q) q3 (fun v G' H' q' g' r' => w3 G' H' q' g' v r') rc hp⟩)
      have e2 : cut xs l h = xs := by
        unfold cut
        have e1 : ∀ (n d : Nat) (o : Option Int), HT.sIx n d o = slP n d o := fun n d o => by cases o <;> rfl
        rw [e1, e1, n] at e
        rw [e.1, e.2]
        simp
      have w3' : Wp B ρ σ (pure (D.tup (cut xs l h))) s3 G3 H3 (fun d _ G' H' => ∀ v, Rep B.X B.hp G' v d → Q v H') := w3
      rw [e2] at w3'
      rcases ra with ra | ⟨_, _, _, _, z⟩
      · exact Wp.pure w3' q3 _ ra
      · cases z
    | lst xs =>
      obtain ⟨a, vs, rfl, z, r⟩ := ra.lst q3
      exact .inl ⟨a, vs, rfl, z, fun p hp => new_lst (Q := Q) q3 (fun v G' H' q' g' r' => w3 G' H' q' g' v r') (cut_rep (B := B) l h r) hp⟩
    | str t =>
      have w3' : Wp B ρ σ (opt (if fit t.length = true then some (D.str (cut t l h)) else none)) s3 G3 H3 (fun d _ G' H' => ∀ v, Rep B.X B.hp G' v d → Q v H') := w3
      cases f : fit t.length with
      | false => rw [f, if_neg Bool.false_ne_true] at w3'; exact (Wp.stuck w3').elim
      | true =>
        rw [f, if_pos rfl] at w3'
        refine .inr (.inr ⟨stOf t, ra.str, by rw [st_len]; exact fit_le f, Wp.pure w3' q3 _ ?_⟩)
        show V.str _ = V.str _
        have e1 : ∀ (n d : Nat) (o : Option Int), HT.sIx n d o = slP n d o := fun n d o => by cases o <;> rfl
        unfold cutS cut
        rw [st_list, st_len, e1, e1]
    | _ => exact (Wp.stuck w3).elim
/-- xs[::-1], a list -/
theorem o_rev {m : EvM S D} {k : Nat} {p1 p2 p3 : Pos} (he : PE X e (tR B m)) (hK : X.K = B.X.K := by rfl) : PE X (.Subscript e (.Slice none none (some (.UnaryOp .USub (.Constant (.int 1) k p1) p2)) p3) pos) (tO B (op1 (fun d => (lsO d).map List.reverse) m)) :=
  PE.imp (pe_revL he) fun σ H Q ⟨ρ, s, G, q, w⟩ => by
    unfold op1 at w
    refine ⟨ρ, s, G, q, (w.bind q).imp fun a s1 G1 H1 q1 g1 w1 v rv => ?_⟩
    cases a with
    | lst xs =>
      obtain ⟨a, vs, rfl, z, r⟩ := rv.lst q1
      refine ⟨a, vs, rfl, hK ▸ z, fun p hp => ?_⟩
      obtain ⟨q2, g2⟩ := q1.alloc0 (o := .lst vs.reverse) hp
      exact w1 _ _ q2 g2 p vs.reverse (Gr.back q q1 g1 hp) (q1.there hp).2.2 upd_same r.reverse
    | _ => exact (Wp.stuck w1).elim
end Dl
-- DL4
namespace Dl
open PySem PySem.Spec PyProof.Rows L2
variable {S : Type} {B : Bs S} {X : Cx} {e e1 e2 : Expr} {es : List Expr} {pos p p2 : Pos} {ρ : List Slot} {σ : L2.St} {G H : Hp} {s : S} {x y v : V} {d : D} {z : Str} {id T : String}

/-! ## calls of what is built in -/
theorem e_cb1 {r : List V → Hp → VK → Prop} {f : D → Option D} {m : EvM S D} (hr : UnS B (fun x H Q => r [x] H Q) f) (h : PE X e (tCB r (tCons (tR B m) tNil))) : PE X e (tE B (op1 f m)) := e_op1 (t := fun t => t) hr (PE.imp h fun σ H Q q => q)
theorem e_cb2 {r : List V → Hp → VK → Prop} {f : D → D → Option D} {m n : EvM S D} (hr : OpS B (fun x y H Q => r [x, y] H Q) f) (h : PE X e (tCB r (tCons (tR B m) (tCons (tR B n) tNil)))) : PE X e (tE B (op2 f m n)) := e_op2 hr (PE.imp h fun σ H Q q => q)
/-- a result that is a new list of the caller's own -/
theorem o_cb1 {r : List V → Hp → VK → Prop} {f : D → Option (List D)} {m : EvM S D}
    (hr : ∀ (ρ : List Slot) (s : S) (G : Hp) (σ : L2.St) (H : Hp) (x : V) (a : D) (xs : List D) (Q : VK), SR B ρ s G σ H → RepB B ρ σ G x a → f a = some xs → (∀ p vs, H p = none → RepL B.X B.hp G vs xs → Q (.ref p) (upd H p (.lst vs))) → r [x] H Q)
    (h : PE X e (tCB r (tCons (tR B m) tNil))) : PE X e (tO B (op1 f m)) := PE.imp h fun σ H Q ⟨ρ, s, G, q, w⟩ => by
  unfold op1 at w
  refine ⟨ρ, s, G, q, (w.bind q).imp fun a s1 G1 H1 q1 g1 w1 v rv => ?_⟩
  cases z : f a with
  | none => rw [z] at w1; exact (Wp.stuck w1).elim
  | some xs =>
    rw [z] at w1
    refine hr ρ s1 G1 σ H1 v a xs Q q1 rv z fun p vs hp rs => ?_
    obtain ⟨q2, g2⟩ := q1.alloc0 (o := .lst vs) hp
    exact w1 _ _ q2 g2 p vs (Gr.back q q1 g1 hp) (q1.there hp).2.2 upd_same rs

theorem e_len {m : EvM S D} (hg : Gl X "len") (hm : X.mg "len" = none) (ha : PE X e1 (tR B m)) (hs : starEach [e1] X.env = [(false, eval e1 X.env)] := by rfl) (hp : (backTo pos (starEach [] X.env)).any (·.1) = false := by rfl) (hK : X.K = B.X.K := by rfl) :
    PE X (.Call (.Name "len" p) [e1] [] pos) (tE B (op1 lenO m)) := e_cb1 (by
  rw [hK]
  intro ρ s G σ H x a d Q q ra h k
  cases a with
  | tup xs =>
    obtain ⟨l, vs, rfl, z, r⟩ := ra.tup q
    cases h
    exact ⟨.ref l, xs.length, rfl, .inr ⟨vs, z, r.length.symm⟩, same_r q k _ rfl⟩
  | lst xs =>
    obtain ⟨l, vs, rfl, z, r⟩ := ra.lst q
    cases h
    exact ⟨.ref l, xs.length, rfl, .inl ⟨vs, z, r.length.symm⟩, same_r q k _ rfl⟩
  | str t =>
    obtain ⟨f, rfl⟩ := opt_if h
    rw [ra.str]
    exact ⟨_, t.length, rfl, ⟨by rw [st_len]; exact fit_le f, (st_len t).symm⟩, same_r q k _ rfl⟩
  | _ => cases h) (pe_callB call_len hg hm PySem.boot_len (pa_cons ha pa_nil hs) (he := hs) (hpl := hp))
theorem e_abs {m : EvM S D} (hg : Gl X "abs") (hm : X.mg "abs" = none) (ha : PE X e1 (tR B m)) (hs : starEach [e1] X.env = [(false, eval e1 X.env)] := by rfl) (hp : (backTo pos (starEach [] X.env)).any (·.1) = false := by rfl) :
    PE X (.Call (.Name "abs" p) [e1] [] pos) (tE B (op1 absO m)) := e_cb1 (by
  intro ρ s G σ H x a d Q q ra h k
  cases a with
  | int i => cases h; exact ⟨i, by rw [ra.int], same_r q k _ rfl⟩
  | _ => cases h) (pe_callB call_abs hg hm (by decide +kernel) (pa_cons ha pa_nil hs) (he := hs) (hpl := hp))
theorem e_toInt {m : EvM S D} (hg : Gl X "int") (hm : X.mg "int" = none) (ha : PE X e1 (tR B m)) (hs : starEach [e1] X.env = [(false, eval e1 X.env)] := by rfl) (hp : (backTo pos (starEach [] X.env)).any (·.1) = false := by rfl) :
    PE X (.Call (.Name "int" p) [e1] [] pos) (tE B (op1 toIntO m)) := e_cb1 (by
  intro ρ s G σ H x a d Q q ra h k
  cases a with
  | int i => cases h; exact .inl ⟨i, by rw [ra.int], same_r q k _ rfl⟩
  | bl b => cases h; exact .inr ⟨b, by rw [ra.bl], same_r q k _ rfl⟩
  | _ => cases h) (pe_callTy call_int1 hg hm (by decide +kernel) (pa_cons ha pa_nil hs) (he := hs) (hpl := hp))
theorem e_toTup {m : EvM S D} (hg : Gl X "tuple") (hm : X.mg "tuple" = none) (ha : PE X e1 (tR B m)) (hs : starEach [e1] X.env = [(false, eval e1 X.env)] := by rfl) (hp : (backTo pos (starEach [] X.env)).any (·.1) = false := by rfl) (hK : X.K = B.X.K := by rfl) :
    PE X (.Call (.Name "tuple" p) [e1] [] pos) (tE B (op1 toTupO m)) := e_cb1 (by
  rw [hK]
  intro ρ s G σ H x a d Q q ra h k
  cases a with
  | tup xs =>
    obtain ⟨l, vs, rfl, z, r⟩ := ra.tup q
    cases h
    refine ⟨l, vs, rfl, .inr ⟨z, ?_⟩⟩
    rcases ra with ra | ⟨_, _, _, _, z⟩
    · exact same_r q k _ ra
    · cases z
  | lst xs =>
    obtain ⟨l, vs, rfl, z, r⟩ := ra.lst q
    cases h
    exact ⟨l, vs, rfl, .inl ⟨z, fun p hp => new_tup (Q := Q) q k r hp⟩⟩
  | _ => cases h) (pe_callTy call_tuple_of hg hm (by decide +kernel) (pa_cons ha pa_nil hs) (he := hs) (hpl := hp))
theorem o_toLst {m : EvM S D} (hg : Gl X "list") (hm : X.mg "list" = none) (ha : PE X e1 (tR B m)) (hs : starEach [e1] X.env = [(false, eval e1 X.env)] := by rfl) (hp : (backTo pos (starEach [] X.env)).any (·.1) = false := by rfl) (hK : X.K = B.X.K := by rfl) :
    PE X (.Call (.Name "list" p) [e1] [] pos) (tO B (op1 toLsO m)) := o_cb1 (by
  rw [hK]
  intro ρ s G σ H x a xs Q q ra h k
  obtain ⟨l, vs, rfl, z, r⟩ := ra.seq q h
  exact ⟨l, vs, rfl, z, fun p hp => k p vs hp r⟩) (pe_callTy call_list_of hg hm (by decide +kernel) (pa_cons ha pa_nil hs) (he := hs) (hpl := hp))
theorem intsR : ∀ {xs : List D} {ns : List Int} {vs : List V}, intsO xs = some ns → RepL B.X B.hp G vs xs → vs = ns.map V.int
  | [], ns, vs, h, r => by cases h; exact r
  | d :: ds, ns, vs, h, r => by
    unfold RepL at r
    obtain ⟨v, vr, rfl, r1, r2⟩ := r
    cases d with
    | int i =>
      obtain ⟨ms, e, rfl⟩ := Option.map_eq_some_iff.mp (show (intsO ds).map (i :: ·) = some ns from h)
      rw [show v = .int i from r1, intsR e r2]; rfl
    | _ => cases h
theorem bools_rep : ∀ {xs : List D} {ns : List Bool} {vs : List V}, bools xs = some ns → RepL B.X B.hp G vs xs → vs = ns.map V.bl
  | [], ns, vs, h, r => by cases h; exact r
  | d :: ds, ns, vs, h, r => by
    unfold RepL at r
    obtain ⟨v, vr, rfl, r1, r2⟩ := r
    cases d with
    | bl i =>
      obtain ⟨ms, e, rfl⟩ := Option.map_eq_some_iff.mp (show (bools ds).map (i :: ·) = some ns from h)
      rw [show v = .bl i from r1, bools_rep e r2]; rfl
    | _ => cases h
theorem strs_rep : ∀ {xs : List D} {ns : List (List Nat)} {vs : List V}, strsO xs = some ns → RepL B.X B.hp G vs xs → vs = (ns.map stOf).map V.str
  | [], ns, vs, h, r => by cases h; exact r
  | d :: ds, ns, vs, h, r => by
    unfold RepL at r
    obtain ⟨v, vr, rfl, r1, r2⟩ := r
    cases d with
    | str i =>
      obtain ⟨ms, e, rfl⟩ := Option.map_eq_some_iff.mp (show (strsO ds).map (i :: ·) = some ns from h)
      rw [show v = .str (stOf i) from r1, strs_rep e r2]; rfl
    | _ => cases h
theorem e_sum {m : EvM S D} (hc : X.calm = true) (hg : Gl X "sum") (hm : X.mg "sum" = none) (ha : PE X e1 (tR B m)) (hs : starEach [e1] X.env = [(false, eval e1 X.env)] := by rfl) (hp : (backTo pos (starEach [] X.env)).any (·.1) = false := by rfl) (hK : X.K = B.X.K := by rfl) :
    PE X (.Call (.Name "sum" p) [e1] [] pos) (tE B (op1 sumO m)) := e_cb1 (by
  rw [hK]
  intro ρ s G σ H x a d Q q ra h k
  cases a with
  | lst xs =>
    obtain ⟨l, vs, rfl, z, r⟩ := ra.lst q
    obtain ⟨ns, e, rfl⟩ := Option.map_eq_some_iff.mp (show (intsO xs).map _ = some d from h)
    have ev := intsR (B := B) e r
    subst ev
    exact ⟨l, ns, rfl, z, same_r q k _ rfl⟩
  | _ => cases h) (pe_callB (cr_sum hc) hg hm (by decide +kernel) (pa_cons ha pa_nil hs) (he := hs) (hpl := hp))
theorem e_all {m : EvM S D} (hc : X.calm = true) (hg : Gl X "all") (hm : X.mg "all" = none) (ha : PE X e1 (tR B m)) (hs : starEach [e1] X.env = [(false, eval e1 X.env)] := by rfl) (hp : (backTo pos (starEach [] X.env)).any (·.1) = false := by rfl) (hK : X.K = B.X.K := by rfl) :
    PE X (.Call (.Name "all" p) [e1] [] pos) (tE B (op1 allO m)) := e_cb1 (by
  rw [hK]
  intro ρ s G σ H x a d Q q ra h k
  cases a with
  | lst xs =>
    obtain ⟨l, vs, rfl, z, r⟩ := ra.lst q
    obtain ⟨ns, e, rfl⟩ := Option.map_eq_some_iff.mp (show (bools xs).map _ = some d from h)
    have ev := bools_rep (B := B) e r
    subst ev
    exact ⟨l, ns, rfl, z, same_r q k _ rfl⟩
  | _ => cases h) (pe_callB (cr_all hc) hg hm (by decide +kernel) (pa_cons ha pa_nil hs) (he := hs) (hpl := hp))
theorem e_any {m : EvM S D} (hc : X.calm = true) (hg : Gl X "any") (hm : X.mg "any" = none) (ha : PE X e1 (tR B m)) (hs : starEach [e1] X.env = [(false, eval e1 X.env)] := by rfl) (hp : (backTo pos (starEach [] X.env)).any (·.1) = false := by rfl) (hK : X.K = B.X.K := by rfl) :
    PE X (.Call (.Name "any" p) [e1] [] pos) (tE B (op1 anyO m)) := e_cb1 (by
  rw [hK]
  intro ρ s G σ H x a d Q q ra h k
  cases a with
  | lst xs =>
    obtain ⟨l, vs, rfl, z, r⟩ := ra.lst q
    obtain ⟨ns, e, rfl⟩ := Option.map_eq_some_iff.mp (show (bools xs).map _ = some d from h)
    have ev := bools_rep (B := B) e r
    subst ev
    exact ⟨l, ns, rfl, z, same_r q k _ rfl⟩
  | _ => cases h) (pe_callB (cr_any hc) hg hm (by decide +kernel) (pa_cons ha pa_nil hs) (he := hs) (hpl := hp))
theorem e_max2 {m n : EvM S D} (hc : X.calm = true) (hg : Gl X "max") (hm : X.mg "max" = none) (ha : PE X e1 (tR B m)) (hb : PE X e2 (tR B n)) (hs : starEach [e1, e2] X.env = [(false, eval e1 X.env), (false, eval e2 X.env)] := by rfl)
    (hs2 : starEach [e2] X.env = [(false, eval e2 X.env)] := by rfl) (hp : (backTo pos (starEach [e2] X.env)).any (·.1) = false := by rfl) :
    PE X (.Call (.Name "max" p) [e1, e2] [] pos) (tE B (op2 max2O m n)) := e_cb2 (by
  intro ρ s G σ H x y a b d Q q ra rb h k
  cases a <;> cases b <;> first | (cases h; exact ⟨_, _, by rw [ra.int, rb.int], same_r q k _ rfl⟩) | cases h) (pe_callB (call_max2 hc) hg hm (by decide +kernel) (pa_cons ha (pa_cons hb pa_nil hs2) (by rw [hs, hs2])) (he := by rw [hs, hs2]) (hpl := hp))
theorem e_min2 {m n : EvM S D} (hc : X.calm = true) (hg : Gl X "min") (hm : X.mg "min" = none) (ha : PE X e1 (tR B m)) (hb : PE X e2 (tR B n)) (hs : starEach [e1, e2] X.env = [(false, eval e1 X.env), (false, eval e2 X.env)] := by rfl)
    (hs2 : starEach [e2] X.env = [(false, eval e2 X.env)] := by rfl) (hp : (backTo pos (starEach [e2] X.env)).any (·.1) = false := by rfl) :
    PE X (.Call (.Name "min" p) [e1, e2] [] pos) (tE B (op2 min2O m n)) := e_cb2 (by
  intro ρ s G σ H x y a b d Q q ra rb h k
  cases a <;> cases b <;> first | (cases h; exact ⟨_, _, by rw [ra.int, rb.int], same_r q k _ rfl⟩) | cases h) (pe_callB (call_min2 hc) hg hm (by decide +kernel) (pa_cons ha (pa_cons hb pa_nil hs2) (by rw [hs, hs2])) (he := by rw [hs, hs2]) (hpl := hp))
/-- a method of a text -/
theorem e_sm1 {r : V → List V → Hp → VK → Prop} {f : List Nat → D → Option D} {m n : EvM S D} (hr : ∀ t, UnS B (fun y H Q => r (.str (stOf t)) [y] H Q) (f t)) (h : PE X e (tM1 r (tR B m) (tR B n))) : PE X e (tE B (sm1 f m n)) := PE.imp h fun σ H Q ⟨ρ, s, G, q, w⟩ => by
  unfold sm1 at w
  refine ⟨ρ, s, G, q, (w.bind q).imp fun a s1 G1 H1 q1 g1 w1 v rv => ?_⟩
  have w1' := w1.bind q1
  cases a with
  | str t =>
    have w2 := w1' G1 H1 q1 .refl
    refine ⟨⟨_, rv.str⟩, ρ, s1, G1, q1, (w2.bind q1).imp fun b s2 G2 H2 q2 g2 w3 u ru => ?_⟩
    cases z : f t b with
    | none => rw [z] at w3; exact (Wp.stuck w3).elim
    | some d =>
      rw [z] at w3
      rw [rv.str]
      exact hr t ρ s2 G2 σ H2 u b d Q q2 ru z fun v' G' H' q3 g3 r3 => w3 G' H' q3 g3 v' r3
  | _ => exact (Wp.stuck w1').elim
theorem e_sm0 {r : V → List V → Hp → VK → Prop} {f : List Nat → Option D} {m : EvM S D} (hr : ∀ t (ρ : List Slot) (s : S) (G : Hp) (σ : L2.St) (H : Hp) (d : D) (Q : VK), SR B ρ s G σ H → f t = some d → (∀ v G' H', SR B ρ s G' σ H' → Gr B G H G' H' → Rep B.X B.hp G' v d → Q v H') → r (.str (stOf t)) [] H Q)
    (h : PE X e (tM0 r (tR B m))) : PE X e (tE B (sm0 f m)) := PE.imp h fun σ H Q ⟨ρ, s, G, q, w⟩ => by
  unfold sm0 at w
  refine ⟨ρ, s, G, q, (w.bind q).imp fun a s1 G1 H1 q1 g1 w1 v rv => ?_⟩
  have w1' := w1.bind q1
  cases a with
  | str t =>
    have w2 : Wp B ρ σ (opt (f t)) s1 G1 H1 _ := w1' G1 H1 q1 .refl
    refine ⟨⟨_, rv.str⟩, ?_⟩
    cases z : f t with
    | none => rw [z] at w2; exact (Wp.stuck w2).elim
    | some d =>
      rw [z] at w2
      rw [rv.str]
      exact hr t ρ s1 G1 σ H1 d Q q1 z fun v' G' H' q3 g3 r3 => w2 G' H' q3 g3 v' r3
  | _ => exact (Wp.stuck w1').elim
theorem join_tl : ∀ (t : List Nat) (ys : List (List Nat)), TL.joinL t ys = joinL t ys
  | t, [] => rfl
  | t, [_] => rfl
  | t, p :: q :: r => by
    show p ++ (t ++ TL.joinL t (q :: r)) = p ++ (t ++ joinL t (q :: r))
    rw [join_tl t (q :: r)]
/-- sep.join(..) -/
theorem e_join {m n : EvM S D} {ap : Pos} (ha : PE X e1 (tR B m)) (hb : PE X e2 (tR B n)) (hs : starEach [e2] X.env = [(false, eval e2 X.env)] := by rfl) (hbs : attributeBase e1 "join" X.env (eval e1 X.env) = eval e1 X.env := by rfl) (hl : (ap.endLine == pos.line) = true := by rfl) (hK : X.K = B.X.K := by rfl) :
    PE X (.Call (.Attribute e1 "join" ap) [e2] [] pos) (tE B (sm1 joinO m n)) := e_sm1 (by
  rw [hK]
  intro t ρ s G σ H x a d Q q ru z kk
  unfold joinO at z
  obtain ⟨xs, e1, z⟩ := Option.bind_eq_some_iff.mp z
  obtain ⟨ys, e2, z⟩ := Option.bind_eq_some_iff.mp z
  obtain ⟨f, rfl⟩ := opt_if z
  obtain ⟨l, vs, rfl, k, r⟩ := ru.seq q e1
  have ev := strs_rep (B := B) e2 r
  subst ev
  have len : (((ys.map stOf).map (fun x : Str => x.length)).sum + (ys.map stOf).length * (stOf t).length ≤ 16777216) := by
    rw [List.map_map, st_len, List.length_map, show ((fun x : Str => x.length) ∘ stOf) = List.length from funext fun t => st_len t]
    exact of_decide_eq_true f
  refine ⟨stOf t, l, ys.map stOf, rfl, rfl, k, len, same_r q kk _ ?_⟩
  show V.str _ = V.str _
  congr 1
  rw [TL.join_eq]
  refine TL.ext_tl ?_
  have e3 : (TL.tl ∘ stOf) = (fun t => t) := funext fun t => st_list t
  rw [TL.tl_join, List.map_map, e3, List.map_id', join_tl]) (pe_join ha hb hs hbs hl)
end Dl
-- DL5
namespace Dl
open PySem PySem.Spec PyProof.Rows L2
variable {S : Type} {B : Bs S} {X : Cx} {e e1 e2 : Expr} {es : List Expr} {pos p p2 : Pos} {ρ : List Slot} {σ : L2.St} {G H : Hp} {s : S} {x y v : V} {d : D} {z : Str} {id T : String}

/-! ## repr -/
def shD (d : D) : List Nat := (PyData.shown (toPy d)).cps.toList
theorem sh_st (d : D) : stOf (shD d) = PyData.shown (toPy d) := by
  show (⟨(PyData.shown (toPy d)).cps.toList.toArray⟩ : Str) = _
  simp
mutual
theorem blk_py : ∀ (n : Nat) (d : D), okD n d = true → PyData.bulk (toPy d) = blk d
  | n, d, h => by
    cases d with
    | str t => simp [toPy, PyData.bulk, blk]
    | tup xs =>
      cases n with
      | zero => simp [okD] at h
      | succ n => simp only [toPy, PyData.bulk, blk]; exact blk_pyL n xs (by simpa [okD] using h)
    | lst xs =>
      cases n with
      | zero => simp [okD] at h
      | succ n => simp only [toPy, PyData.bulk, blk]; exact blk_pyL n xs (by simpa [okD] using h)
    | _ => simp [toPy, PyData.bulk, blk]
theorem blk_pyL : ∀ (n : Nat) (xs : List D), okL n xs = true → PyData.bulkAll (toPyL xs) = blkL xs
  | _, [], _ => by simp [toPyL, PyData.bulkAll, blkL]
  | n, x :: xs, h => by
    have h' : okD n x = true ∧ okL n xs = true := by simpa [okL] using h
    simp only [toPyL, PyData.bulkAll, blkL, blk_py n x h'.1, blk_pyL n xs h'.2]
end
theorem log2_of {b : Nat} {i : Int} (hb : 0 < b) (h : i.natAbs < 2 ^ b) : i.natAbs.log2 < b := by
  by_cases z : i.natAbs = 0
  · rw [z]; simpa using hb
  · exact (Nat.log2_lt z).mpr h
mutual
theorem sho_py (b : Nat) (hb : 0 < b) (hb2 : b ≤ 1919) : ∀ (n : Nat) (d : D), okD n d = true → sho b d = true → PyData.showable (toPy d) = true ∧ PyData.leavesShort (b + 1) (toPy d) = true
  | n, d, h, k => by
    cases d with
    | int i =>
      have k' : i.natAbs < 2 ^ b := by simpa [sho] using k
      have l := log2_of hb k'
      simp only [toPy, PyData.showable, PyData.leavesShort, PyData.shown]
      refine ⟨decide_eq_true (by omega), ?_⟩
      have q := int_text_length_le (a := i) hb l
      have e : (Str.ofString (toString i)).length = (toString i).length := PySem.ofString_length _
      refine decide_eq_true ?_
      show (Str.ofString (toString i)).length ≤ b + 1
      omega
    | str t =>
      have h' : ∀ c ∈ t, c < 1114112 := by
        have : (t.all fun c => decide (c < 1114112)) = true := by cases n <;> simpa [okD] using h
        simpa using this
      simp only [toPy, PyData.showable, PyData.leavesShort, true_and, List.all_eq_true, decide_eq_true_eq]
      intro c hc
      have := h' c (by simpa using hc)
      omega
    | tup xs =>
      cases n with
      | zero => simp [okD] at h
      | succ n => simp only [toPy, PyData.showable, PyData.leavesShort]; exact sho_pyL b hb hb2 n xs (by simpa [okD] using h) (by simpa [sho] using k)
    | lst xs =>
      cases n with
      | zero => simp [okD] at h
      | succ n => simp only [toPy, PyData.showable, PyData.leavesShort]; exact sho_pyL b hb hb2 n xs (by simpa [okD] using h) (by simpa [sho] using k)
    | _ => simp [toPy, PyData.showable, PyData.leavesShort]
theorem sho_pyL (b : Nat) (hb : 0 < b) (hb2 : b ≤ 1919) : ∀ (n : Nat) (xs : List D), okL n xs = true → shoL b xs = true → PyData.showableAll (toPyL xs) = true ∧ PyData.leavesShortAll (b + 1) (toPyL xs) = true
  | _, [], _, _ => by simp [toPyL, PyData.showableAll, PyData.leavesShortAll]
  | n, x :: xs, h, k => by
    have h' : okD n x = true ∧ okL n xs = true := by simpa [okL] using h
    have k' : sho b x = true ∧ shoL b xs = true := by simpa [shoL] using k
    have a1 := sho_py b hb hb2 n x h'.1 k'.1
    have a2 := sho_pyL b hb hb2 n xs h'.2 k'.2
    simp only [toPyL, PyData.showableAll, PyData.leavesShortAll, a1.1, a1.2, a2.1, a2.2, Bool.and_self, and_self]
end
theorem repr_fits (h : reprOk d = true) : pl d = true ∧ PyData.showable (toPy d) = true ∧ (PyData.shown (toPy d)).length ≤ sizeLine := by
  unfold reprOk at h
  rw [Bool.and_eq_true, Bool.or_eq_true, Bool.and_eq_true, Bool.and_eq_true] at h
  obtain ⟨h1, h2⟩ := h
  have bl := blk_py 60 d h1
  have hs : sizeLine = 16777216 := sizeLine_eq
  rcases h2 with ⟨k, f⟩ | ⟨k, f⟩
  · obtain ⟨a1, a2⟩ := sho_py 64 (by decide) (by decide) 60 d h1 k
    have q := PyData.shown_le_bulk 65 (by decide) _ a2
    rw [bl] at q
    exact ⟨h1, a1, by rw [hs]; exact Nat.le_trans q (of_decide_eq_true f)⟩
  · obtain ⟨a1, a2⟩ := sho_py 1900 (by decide) (by decide) 60 d h1 k
    have q := PyData.shown_le_bulk 1901 (by decide) _ a2
    rw [bl] at q
    exact ⟨h1, a1, by rw [hs]; exact Nat.le_trans q (of_decide_eq_true f)⟩
def rRepr (K : PySem.W.Frag) : List V → Hp → VK → Prop := fun xs H Q => ∃ x d, xs = [x] ∧ Dp K H x d ∧ PyData.showable d = true ∧ d.hasDict = false ∧ d.depth ≤ 60 ∧ d.shown.length ≤ sizeLine ∧ Q (.str d.shown) H
theorem call_reprD (hg : X.A.guards = some []) (hu : X.A.units + 66 < cLine) : CallR X (.builtin "repr") (rRepr X.K) := by
  intro pins s σ H xs us Q I r h
  obtain ⟨x, d, rfl, hd, h1, h2, h3, h4, q⟩ := h
  obtain ⟨u, rfl, ru⟩ := vals1 r
  have refc : ∀ a, u = .ref a → wpAny (model X.prog X.w) X.A (call (.builtin "repr") [u]) (EP X pins σ Q) X.xe s := fun a e => by
    subst e
    obtain ⟨as, rd⟩ := Dp.reads I d x _ hd ru
    exact repr_of_reads' rd h1 (PyData.noDict_hsm h2) hg (by omega) (fun _ _ z => z) (fun h' u tk k => ⟨.str d.shown, H, I.kept k, ⟨_, rfl⟩, q⟩) h4
  cases hd with
  | non => cases ru; exact P.repr_of_none ⟨.str _, H, I.tok _, ⟨_, rfl⟩, q⟩
  | bl b => cases ru; exact P.repr_of_bool ⟨.str _, H, I.tok _, ⟨_, by cases b <;> rfl⟩, q⟩
  | int i => obtain ⟨t, rfl⟩ := ru; exact P.repr_of_int (by simpa [PyData.showable] using h1) ⟨.str _, H, I.tok _, ⟨_, rfl⟩, q⟩
  | str t => obtain ⟨t', rfl⟩ := ru; exact P.repr_of_str ⟨.str _, H, I.tok _, ⟨_, rfl⟩, q⟩ h4
  | lst a b => cases ru; exact refc _ rfl
  | tup a b => cases ru; exact refc _ rfl
theorem e_repr {m : EvM S D} (hgu : X.A.guards = some []) (hu : X.A.units + 66 < cLine) (hg : Gl X "repr") (hm : X.mg "repr" = none) (ha : PE X e1 (tR B m)) (hs : starEach [e1] X.env = [(false, eval e1 X.env)] := by rfl) (hp : (backTo pos (starEach [] X.env)).any (·.1) = false := by rfl) (hK : X.K = B.X.K := by rfl) :
    PE X (.Call (.Name "repr" p) [e1] [] pos) (tE B (op1 (reprO shD) m)) := e_cb1 (by
  rw [hK]
  intro ρ s G σ H x a d Q q ra h k
  obtain ⟨f, rfl⟩ := opt_if h
  obtain ⟨h1, h2, h3⟩ := repr_fits f
  obtain ⟨l1, l2⟩ := ok_lay 60 a h1
  refine ⟨x, toPy a, rfl, ra.dp q h1, h2, PyData.hasDict_of_canLay _ l1, l2, h3, same_r q k _ ?_⟩
  show V.str _ = V.str _
  rw [sh_st]) (pe_callB (call_reprD hgu hu) hg hm (by decide +kernel) (pa_cons ha pa_nil hs) (he := hs) (hpl := hp))
end Dl
-- DL6
namespace Dl
open PySem PySem.Spec PyProof.Rows L2
variable {S : Type} {B : Bs S} {X : Cx} {e e1 e2 tg it : Expr} {es : List Expr} {pos p p2 : Pos} {ρ ρ' : List Slot} {σ : L2.St} {G H G' H' : Hp} {s : S} {x y v : V} {d : D} {z : Str} {id T : String}

/-! ## what behind a statement stands -/
def OutP (B : Bs S) (E : Ends) (G : Hp) (o : Out S) : Prop := match o with
  | .nx ρ s => ∀ σ G' H', SR B ρ s G' σ H' → Le G G' → E.nx σ H'
  | .bk ρ s => ∀ σ G' H', SR B ρ s G' σ H' → Le G G' → E.bk σ H'
  | .ct ρ s => ∀ σ G' H', SR B ρ s G' σ H' → Le G G' → E.ct σ H'
  | .ret d s => ∀ v σ ρ G' H', SR B ρ s G' σ H' → Le G G' → Rep B.X B.hp G' v d → E.rt v H'
  | .exc c fs ρ s => ∀ σ G' H', SR B ρ s G' σ H' → Le G G' → ∀ cv d, ExR B G' H' c fs cv d → B.W cv d σ H'
  | .stuck => False
def tS (B : Bs S) (m : SM S) : TS := fun E σ H => ∃ ρ s G, SR B ρ s G σ H ∧ OutP B E G (m ρ s)
theorem OutP.mono {E : Ends} {o : Out S} (l : Le G G') (h : OutP B E G o) : OutP B E G' o := by
  cases o with
  | nx ρ s => exact fun σ G2 H2 r k => h σ G2 H2 r (l.trans k)
  | bk ρ s => exact fun σ G2 H2 r k => h σ G2 H2 r (l.trans k)
  | ct ρ s => exact fun σ G2 H2 r k => h σ G2 H2 r (l.trans k)
  | ret d s => exact fun v σ ρ G2 H2 r k q => h v σ ρ G2 H2 r (l.trans k) q
  | exc c fs ρ s => exact fun σ G2 H2 r k cv d q => h σ G2 H2 r (l.trans k) cv d q
  | stuck => exact h
theorem OutP.imp {E E' : Ends} {o : Out S} (h : OutP B E G o) (h1 : ∀ ρ s, o = .nx ρ s → ∀ σ G' H', SR B ρ s G' σ H' → Le G G' → E.nx σ H' → E'.nx σ H') (h2 : ∀ ρ s, o = .bk ρ s → ∀ σ G' H', SR B ρ s G' σ H' → Le G G' → E.bk σ H' → E'.bk σ H')
    (h3 : ∀ ρ s, o = .ct ρ s → ∀ σ G' H', SR B ρ s G' σ H' → Le G G' → E.ct σ H' → E'.ct σ H') (h4 : ∀ v H', E.rt v H' → E'.rt v H') : OutP B E' G o := by
  cases o with
  | nx ρ s => exact fun σ G2 H2 r k => h1 ρ s rfl σ G2 H2 r k (h σ G2 H2 r k)
  | bk ρ s => exact fun σ G2 H2 r k => h2 ρ s rfl σ G2 H2 r k (h σ G2 H2 r k)
  | ct ρ s => exact fun σ G2 H2 r k => h3 ρ s rfl σ G2 H2 r k (h σ G2 H2 r k)
  | ret d s => exact fun v σ ρ G2 H2 r k q => h4 _ _ (h v σ ρ G2 H2 r k q)
  | exc c fs ρ s => exact h
  | stuck => exact h
/-- an expression ahead of the rest -/
theorem OutP.bind {α : Type} {E : Ends} {m : EvM S α} {k : α → SM S} (r : SR B ρ s G σ H) (h : OutP B E G (bindS m k ρ s)) : Wp B ρ σ (m ρ) s G H fun a s1 G1 _ => OutP B E G1 (k a ρ s1) := by
  unfold bindS at h
  unfold Wp
  cases e : m ρ s with
  | ok a s1 => rw [e] at h; exact fun G1 H1 r1 g1 => h.mono g1.le
  | exc c fs s1 => rw [e] at h; exact fun G1 H1 r1 g1 cv d q => h σ G1 H1 r1 g1.le cv d q
  | stuck => rw [e] at h; exact h

theorem s_nil : PSs X [] (tS B nopS) := PSs.imp pss_nil fun E σ H ⟨ρ, s, G, r, w⟩ => w σ G H r (.refl G)
theorem s_cons {st : Stmt} {rest : List Stmt} {a b : SM S} (h1 : PS X st (tS B a)) (h2 : PSs X rest (tS B b)) : PSs X (st :: rest) (tS B (seqS a b)) := PSs.imp (pss_cons h1 h2) fun E σ H ⟨ρ, s, G, r, w⟩ => by
  unfold seqS at w
  refine ⟨ρ, s, G, r, ?_⟩
  cases e : a ρ s with
  | nx ρ1 s1 => rw [e] at w; exact fun σ' G' H' r' l => ⟨ρ1, s1, G', r', OutP.mono l w⟩
  | bk ρ1 s1 => rw [e] at w; exact w
  | ct ρ1 s1 => rw [e] at w; exact w
  | ret d s1 => rw [e] at w; exact w
  | exc c fs ρ1 s1 => rw [e] at w; exact w
  | stuck => rw [e] at w; exact w
theorem s_one {st : Stmt} {a : SM S} (h1 : PS X st (tS B a)) : PSs X [st] (tS B a) := pss_one h1
theorem s_pass : PS X (.Pass pos) (tS B nopS) := PS.imp ps_pass fun E σ H ⟨ρ, s, G, r, w⟩ => w σ G H r (.refl G)
theorem s_break : PS X (.Break pos) (tS B brkS) := PS.imp ps_break fun E σ H ⟨ρ, s, G, r, w⟩ => w σ G H r (.refl G)
theorem s_cont : PS X (.Continue pos) (tS B cntS) := PS.imp ps_continue fun E σ H ⟨ρ, s, G, r, w⟩ => w σ G H r (.refl G)
theorem s_doc {j p' } : PS X (.Expr (.Constant (.str z) j p) p') (tS B nopS) := PS.imp ps_doc fun E σ H ⟨ρ, s, G, r, w⟩ => w σ G H r (.refl G)
/-- a statement that is never come to -/
theorem s_never {st : Stmt} : PS X st (tS B stkS) := PS.imp ps_never fun E σ H ⟨ρ, s, G, r, w⟩ => w
theorem s_nevers {sts : List Stmt} : PSs X sts (tS B stkS) := PSs.imp pss_never fun E σ H ⟨ρ, s, G, r, w⟩ => w
theorem s_ret {m : EvM S D} (h : PE X e (tE B m)) : PS X (.Return (some e) pos) (tS B (retS m)) := PS.imp (ps_ret h) fun E σ H ⟨ρ, s, G, r, w⟩ => by
  unfold retS at w
  exact ⟨ρ, s, G, r, (OutP.bind r w).imp fun d s1 G1 H1 r1 g1 w1 v rv => w1 v σ ρ G1 H1 r1 (.refl _) rv⟩
theorem s_retN : PS X (.Return none pos) (tS B retN) := PS.imp ps_retN fun E σ H ⟨ρ, s, G, r, w⟩ => w .non σ ρ G H r (.refl G) rfl
theorem s_drop {m : EvM S D} (h : PE X e (tE B m)) (hs : swapsWith e none pos.line X.env = pure false := by rfl) : PS X (.Expr e pos) (tS B (drpS m)) := PS.imp (ps_expr h hs) fun E σ H ⟨ρ, s, G, r, w⟩ => by
  unfold drpS at w
  exact ⟨ρ, s, G, r, (OutP.bind r w).imp fun d s1 G1 H1 r1 g1 w1 v rv => w1 σ G1 H1 r1 (.refl _)⟩
theorem s_if {c : Expr} {a b : List Stmt} {t : EvM S Bool} {m n : SM S} (hc : PT X c (tQ B t)) (ha : PSs X a (tS B m)) (hb : PSs X b (tS B n)) : PS X (.If c a b pos) (tS B (ifS t m n)) := PS.imp (ps_if hc ha hb) fun E σ H ⟨ρ, s, G, r, w⟩ => by
  unfold ifS at w
  refine ⟨ρ, s, G, r, (OutP.bind r w).imp fun k s1 G1 H1 r1 g1 w1 => ?_⟩
  cases k with
  | true => rw [if_pos rfl] at w1 ⊢; exact ⟨ρ, s1, G1, r1, w1⟩
  | false => rw [if_neg Bool.false_ne_true] at w1 ⊢; exact ⟨ρ, s1, G1, r1, w1⟩

/-! ## slots -/
theorem set_lt {α : Type} {l : List α} {i j : Nat} {a b : α} (h : (l.set i a)[j]? = some b) : (i = j ∧ j < l.length ∧ a = b) ∨ (i ≠ j ∧ l[j]? = some b) := by
  by_cases e : i = j
  · subst e
    by_cases q : i < l.length
    · rw [List.getElem?_set_self q] at h; exact .inl ⟨rfl, q, Option.some.inj h⟩
    · rw [List.getElem?_eq_none (by simpa using q)] at h; cases h
  · rw [List.getElem?_set_ne e] at h; exact .inr ⟨e, h⟩
theorem set_at {α : Type} {l : List α} {i : Nat} {a : α} (h : i < l.length) : (l.set i a)[i]? = some a := List.getElem?_set_self h
/-- a slot's value is another one -/
theorem SR.put {i : Nat} {q : Slot} {w : Option V} (r : SR B ρ s G σ H) (h : SlOk B G H (some w) q) (no : ∀ xs a, q = .own xs → w = some (.ref a) → ∀ (j : Nat) ys, j ≠ i → ρ[j]? = some (.own ys) → σ[j]? ≠ some (some (.ref a))) : SR B (ρ.set i q) s G (σ.set i w) H := by
  refine ⟨r.sub, r.g0, r.gn, r.kept, r.rgn, r.hs, by rw [List.length_set, List.length_set]; exact r.len, fun j p e => ?_, fun j k a xs ys e1 e2 e3 e4 => ?_⟩
  · rcases set_lt e with ⟨e1, e2, e3⟩ | ⟨e1, e2⟩
    · subst e1 e3
      rw [set_at (by rw [r.len]; exact e2)]
      exact h
    · rw [List.getElem?_set_ne e1]
      exact r.sl j p e2
  · rcases set_lt e1 with ⟨a1, a2, a3⟩ | ⟨a1, a2⟩
    · rcases set_lt e2 with ⟨b1, _, _⟩ | ⟨b1, b2⟩
      · rw [← a1, ← b1]
      · rw [List.getElem?_set_ne b1] at e4
        subst a1
        rw [set_at (by rw [r.len]; exact a2)] at e3
        exact absurd e4 (no xs a a3 (Option.some.inj e3) k ys (fun z => b1 z.symm) b2)
    · rw [List.getElem?_set_ne a1] at e3
      rcases set_lt e2 with ⟨b1, b2, b3⟩ | ⟨b1, b2⟩
      · subst b1
        rw [set_at (by rw [r.len]; exact b2)] at e4
        exact absurd e3 (no ys a b3 (Option.some.inj e4) j xs (fun z => a1 z.symm) a2)
      · rw [List.getElem?_set_ne b1] at e4
        exact r.ds j k a xs ys a2 b2 e3 e4
theorem SR.putV {i : Nat} (r : SR B ρ s G σ H) (h : Rep B.X B.hp G v d) : SR B (ρ.set i (.val d)) s G (σ.set i (some v)) H := r.put ⟨v, rfl, h⟩ fun _ _ e => nomatch e
theorem SR.putE {i : Nat} {w : Option V} (r : SR B ρ s G σ H) : SR B (ρ.set i .emp) s G (σ.set i w) H := r.put trivial fun _ _ e => nomatch e
theorem SR.putO {i : Nat} {a : Addr} {vs : List V} {xs : List D} (r : SR B ρ s G σ H) (h0 : B.H0 a = none) (nr : ¬ B.rg.reg a) (hg : G a = none) (hH : H a = some (.lst vs)) (l : RepL B.X B.hp G vs xs) (no : ∀ (j : Nat) ys, ρ[j]? = some (.own ys) → σ[j]? ≠ some (some (.ref a))) : SR B (ρ.set i (.own xs)) s G (σ.set i (some (.ref a))) H :=
  r.put ⟨a, vs, rfl, hg, h0, nr, hH, l⟩ fun xs' a' e1 e2 j ys _ e3 => by cases e2; exact no j ys e3
/-- a list that is new is nobody's -/
theorem SR.none_own {s1 : S} {G1 H1 : Hp} (r : SR B ρ s G σ H) {a : Addr} (h : H a = none) : ∀ (j : Nat) ys, ρ[j]? = some (.own ys) → σ[j]? ≠ some (some (.ref a)) := fun j ys e z => by
  obtain ⟨b, us, e1, _, _, _, e5, _⟩ := r.sl j _ e
  rw [z] at e1; cases e1
  rw [h] at e5; cases e5
theorem s_asg {i : Nat} {m : EvM S D} {g : TG} (h : PS X (.Assign [tg] e pos) (tAsg (tE B m) (gName i))) : PS X (.Assign [tg] e pos) (tS B (asgS i m)) := PS.imp h fun E σ H ⟨ρ, s, G, r, w⟩ => by
  unfold asgS at w
  exact ⟨ρ, s, G, r, (OutP.bind r w).imp fun d s1 G1 H1 r1 g1 w1 v rv => w1 _ G1 H1 (r1.putV rv) (.refl _)⟩
theorem s_set {i : Nat} {m : EvM S D} {p' : Pos} (hN : X.N.Nodup) (hi : X.N[i]? = some z) (hx : Loc X.env.scope z) (he : PE X e (tE B m)) (hs : swapsWith e (some (.Name z p')) pos.line X.env = pure false := by rfl) (hf : X.fn z = true ∨ X.env.scope.names.lookup z = some .local := by first | exact .inl rfl | exact .inr rfl | assumption) :
    PS X (.Assign [.Name z p'] e pos) (tS B (asgS i m)) := s_asg (g := gName i) (ps_set hN hi hx he hs hf)
theorem s_asgO {i : Nat} {m : EvM S (List D)} (h : PS X (.Assign [tg] e pos) (tAsg (tO B m) (gName i))) : PS X (.Assign [tg] e pos) (tS B (asgO i m)) := PS.imp h fun E σ H ⟨ρ, s, G, r, w⟩ => by
  unfold asgO at w
  refine ⟨ρ, s, G, r, (OutP.bind r w).imp fun d s1 G1 H1 r1 g1 w1 a vs hn hg ha rs => ?_⟩
  obtain ⟨h0, nr, _⟩ := r.there hn
  exact w1 _ G1 H1 (r1.putO h0 nr hg ha rs (r.none_own (s1 := s) (G1 := G) (H1 := H) hn)) (.refl _)
theorem s_setO {i : Nat} {m : EvM S (List D)} {p' : Pos} (hN : X.N.Nodup) (hi : X.N[i]? = some z) (hx : Loc X.env.scope z) (he : PE X e (tO B m)) (hs : swapsWith e (some (.Name z p')) pos.line X.env = pure false := by rfl) (hf : X.fn z = true ∨ X.env.scope.names.lookup z = some .local := by first | exact .inl rfl | exact .inr rfl | assumption) :
    PS X (.Assign [.Name z p'] e pos) (tS B (asgO i m)) := s_asgO (ps_set hN hi hx he hs hf)
/-- what only a slot had is known from here on -/
theorem s_frz {i : Nat} {sts : List Stmt} {m : SM S} (h : PSs X sts (tS B m)) : PSs X sts (tS B (frzS i m)) := PSs.imp h fun E σ H ⟨ρ, s, G, r, w⟩ => by
  unfold frzS at w
  split at w
  · rename_i xs e
    obtain ⟨a, vs, e1, e2, e3, e4, e5, e6⟩ := r.sl i _ e
    have hi : i < ρ.length := (List.getElem?_eq_some_iff.mp e).1
    have r1 : SR B (ρ.set i .emp) s G σ H := by
      have z := r.putE (i := i) (w := some (.ref a))
      have e' : σ.set i (some (.ref a)) = σ := by
        apply List.ext_getElem?
        intro j
        by_cases q : i = j
        · subst q; rw [set_at (by rw [r.len]; exact hi), e1]
        · rw [List.getElem?_set_ne q]
      rw [e'] at z
      exact z
    have no : ∀ (j : Nat) ys, (ρ.set i .emp)[j]? = some (.own ys) → σ[j]? ≠ some (some (.ref a)) := fun j ys q q2 => by
      rcases set_lt q with ⟨_, _, z⟩ | ⟨z1, z2⟩
      · cases z
      · exact z1 (r.ds i j a xs ys e z2 e1 q2)
    have r2 := r1.frz e5 e3 e4 no e2
    have l : Le G (upd G a (.lst vs)) := Le.upd e2
    have rp : Rep B.X B.hp (upd G a (.lst vs)) (.ref a) (.lst xs) := by
      unfold Rep; exact ⟨a, vs, rfl, .inl (.inl upd_same), RepL.mono l _ _ e6⟩
    have r3 := r2.putV (i := i) rp
    have e' : σ.set i (some (V.ref a)) = σ := by
      apply List.ext_getElem?
      intro j
      by_cases q : i = j
      · subst q; rw [set_at (by rw [r.len]; exact hi), e1]
      · rw [List.getElem?_set_ne q]
    rw [e', List.set_set] at r3
    exact ⟨_, s, _, r3, w.mono l⟩
  · exact ⟨ρ, s, G, r, w⟩
end Dl
-- DL7
namespace Dl
open PySem PySem.Spec PyProof.Rows L2
variable {S : Type} {B : Bs S} {X : Cx} {e e1 e2 tg it : Expr} {es : List Expr} {pos p p2 : Pos} {ρ ρ' : List Slot} {σ : L2.St} {G H G' H' : Hp} {s : S} {x y v : V} {d : D} {z : Str} {id T : String}

/-! ## while -/
theorem s_while {t : EvM S Bool} {b : SM S} {body : List Stmt} (hp : PassesOwn (model X.prog X.w) X.A X.env X.xe) (hc : PT X e (tQ B t)) (hb : PSs X body (tS B b)) : PS X (.While e body [] pos) (tS B (whlS t b)) := PS.imp (ps_while hp hc hb) fun E σ H ⟨ρ, s, G, r, w⟩ => by
  have ns : whlS t b ρ s ≠ .stuck := fun z => by rw [z] at w; exact w
  obtain ⟨n, en⟩ := whlS_ex t b ρ s ns
  rw [← en] at w
  refine ⟨fun n σ H => ∃ ρ s G, SR B ρ s G σ H ∧ OutP B E G (whlN t b n ρ s), ⟨n, ρ, s, G, r, w⟩, ?_⟩
  rintro n σ H ⟨ρ, s, G, r, w⟩
  cases n with
  | zero => exact w.elim
  | succ n =>
    unfold whlN at w
    refine ⟨ρ, s, G, r, ?_⟩
    unfold Wp
    cases e1 : t ρ s with
    | stuck => rw [e1] at w; exact w
    | exc c fs s1 => rw [e1] at w; exact fun G1 H1 r1 g1 cv d q => w σ G1 H1 r1 g1.le cv d q
    | ok c s1 =>
      rw [e1] at w
      intro G1 H1 r1 g1
      cases c with
      | false => rw [if_neg Bool.false_ne_true]; exact w σ G1 H1 r1 g1.le
      | true =>
        rw [if_pos rfl]
        refine ⟨fun σ H => ∃ ρ s G, SR B ρ s G σ H ∧ OutP B E G (whlN t b n ρ s), fun σ' H' h => ⟨n, Nat.lt_succ_self n, h⟩, ρ, s1, G1, r1, ?_⟩
        dsimp only at w
        cases e2 : b ρ s1 with
        | nx ρ2 s2 => rw [e2] at w; exact fun σ2 G2 H2 r2 l2 => ⟨ρ2, s2, G2, r2, OutP.mono (g1.le.trans l2) w⟩
        | ct ρ2 s2 => rw [e2] at w; exact fun σ2 G2 H2 r2 l2 => ⟨ρ2, s2, G2, r2, OutP.mono (g1.le.trans l2) w⟩
        | bk ρ2 s2 => rw [e2] at w; exact fun σ2 G2 H2 r2 l2 => w σ2 G2 H2 r2 (g1.le.trans l2)
        | ret d s2 => rw [e2] at w; exact OutP.mono (o := .ret d s2) g1.le w
        | exc c fs ρ2 s2 => rw [e2] at w; exact OutP.mono (o := .exc c fs ρ2 s2) g1.le w
        | stuck => rw [e2] at w; exact w

/-! ## what is walked -/
def ItOk (B : Bs S) (J : It) (xs : List D) (G : Hp) : Prop := ∀ (ρ : List Slot) (s : S) (G1 : Hp) (σ : L2.St) (H : Hp), SR B ρ s G1 σ H → Le G G1 →
  (∀ i, xs.length ≤ i → J.stop i H) ∧ ∀ (i : Nat) d, xs[i]? = some d → J.go i H ∧ ∀ x H', J.yld i H x H' → ∃ G2, SR B ρ s G2 σ H' ∧ Gr B G1 H G2 H' ∧ Rep B.X B.hp G2 x d
def tI (B : Bs S) (m : EvM S (List D)) : TI := fun σ H R => ∃ ρ s G, SR B ρ s G σ H ∧ Wp B ρ σ (m ρ) s G H fun xs _ G' H' => ∀ J, ItOk B J xs G' → R J H'
theorem PI.imp {t t' : TI} (h : PI X tg it t) (k : ∀ σ H R, t' σ H R → t σ H R) : PI X tg it t' := ⟨fun pins s σ H R I q => h.run pins s σ H R I (k σ H R q)⟩
theorem it_list {a : Addr} {vs : List V} {xs : List D} (h : SqL B.X.K G a vs) (l : RepL B.X B.hp G vs xs) : ItOk B (Itl B.X.K a) xs G := fun ρ s G1 σ H r k => by
  have q : SqL B.X.K H a vs := r.sub.sqL (k.sqL h)
  refine ⟨fun i hi => ⟨vs, q, by rw [l.length]; exact hi⟩, fun i d e => ?_⟩
  obtain ⟨v, e1, e2⟩ := l.get e
  refine ⟨⟨vs, v, q, e1⟩, fun x H' y => ?_⟩
  obtain ⟨rfl, y⟩ := y
  have := y vs q
  rw [e1] at this
  cases this
  exact ⟨G1, r, .refl, Rep.mono k _ _ e2⟩
theorem it_tup {a : Addr} {vs : List V} {xs : List D} (h : SqT B.X.K G a vs) (l : RepL B.X B.hp G vs xs) : ItOk B (Itt B.X.K a) xs G := fun ρ s G1 σ H r k => by
  have q : SqT B.X.K H a vs := Le.sqT r.sub (k.sqT h)
  refine ⟨fun i hi => ⟨vs, q, by rw [l.length]; exact hi⟩, fun i d e => ?_⟩
  obtain ⟨v, e1, e2⟩ := l.get e
  refine ⟨⟨vs, v, q, e1⟩, fun x H' y => ?_⟩
  obtain ⟨rfl, y⟩ := y
  have := y vs q
  rw [e1] at this
  cases this
  exact ⟨G1, r, .refl, Rep.mono k _ _ e2⟩
theorem it_str {t : List Nat} : ItOk B (Its (stOf t)) (t.map fun c => D.str [c]) G := fun ρ s G1 σ H r k => by
  refine ⟨fun i hi => ?_, fun i d e => ?_⟩
  · have : t.length ≤ i := by simpa using hi
    show t.toArray.size ≤ i
    simpa using this
  · rw [List.getElem?_map] at e
    obtain ⟨c, e1, rfl⟩ := Option.map_eq_some_iff.mp e
    have hi := (List.getElem?_eq_some_iff.mp e1).1
    refine ⟨by show i < t.toArray.size; simpa using hi, fun x H' y => ?_⟩
    obtain ⟨rfl, c', e2, rfl⟩ := y
    have e3 : t[i]? = some c' := by simpa using e2
    rw [e1] at e3
    cases e3
    exact ⟨G1, r, .refl, rfl⟩
theorem it_rng {lo hi : Int} : ItOk B (Itr lo (hi - lo).toNat) (rngO lo hi) G := fun ρ s G1 σ H r k => by
  unfold rngO
  refine ⟨fun i h => by show _ ≤ i; simpa using h, fun i d e => ?_⟩
  rw [List.getElem?_map] at e
  obtain ⟨c, e1, rfl⟩ := Option.map_eq_some_iff.mp e
  obtain ⟨h1, h2⟩ := List.getElem?_eq_some_iff.mp e1
  have h3 : i < (hi - lo).toNat := by simpa using h1
  have h4 : i = c := by simpa using h2
  subst h4
  refine ⟨h3, fun x H' y => ?_⟩
  obtain ⟨rfl, rfl⟩ := y
  exact ⟨G1, r, .refl, rfl⟩
/-- a list, a tuple, a text -/
def iSeq (K : PySem.W.Frag) (t : TE) : TI := fun σ H R => t σ H fun x H1 => (∃ a, x = .ref a ∧ (∃ xs, SqL K H1 a xs) ∧ R (Itl K a) H1) ∨ (∃ a, x = .ref a ∧ (∃ xs, SqT K H1 a xs) ∧ R (Itt K a) H1) ∨ ∃ w, x = .str w ∧ R (Its w) H1
theorem pi_seq {t : TE} (h : PE X it t) : PI X tg it (iSeq X.K t) := by
  refine ⟨fun pins s σ H R I w => ?_⟩
  refine thn (h.run pins s σ H _ I w) fun v s1 ⟨x, H1, I1, r1, q1⟩ => ?_
  rcases q1 with ⟨a, rfl, ⟨xs, hq⟩, q⟩ | ⟨a, rfl, ⟨xs, hq⟩, q⟩ | ⟨t, rfl, q⟩
  · cases r1
    obtain ⟨its, rv, pl, hz⟩ := I1.list hq
    exact wpAny_pyIter_list pl.isList (pi_one (tk := s1.toks) I1 _ (turn_list a _) ⟨_, Heap.get?_push_size _ rfl, rfl, rfl⟩ q)
  · cases r1
    obtain ⟨its, rv, pl, hz⟩ := I1.tuple hq
    exact wpAny_pyIter_tuple (show s1.heap.IsTuple a its.toArray from pl) (pi_one (tk := s1.toks) I1 _ (turn_tuple a _) ⟨_, Heap.get?_push_size _ rfl, rfl, rfl⟩ q)
  · obtain ⟨tk, rfl⟩ := r1
    cases ha : t.cps.all (· < 128) with
    | false => exact wpAny_pyIter_wide ha (pi_one (tk := s1.toks) I1 _ (turn_str _ t tk "str_iterator" (.inr rfl)) ⟨_, Heap.get?_push_size _ rfl, rfl, rfl⟩ q)
    | true => exact wpAny_pyIter_ascii ha (pi_one (tk := s1.toks) I1 _ (turn_str _ t tk "str_ascii_iterator" (.inl rfl)) ⟨_, Heap.get?_push_size _ rfl, rfl, rfl⟩ q)
theorem i_seq {m : EvM S D} (h : PE X it (tE B m)) (hK : X.K = B.X.K := by rfl) : PI X tg it (tI B (op1 itO m)) := PI.imp (pi_seq h) fun σ H R ⟨ρ, s, G, r, w⟩ => by
  unfold op1 at w
  refine ⟨ρ, s, G, r, (w.bind r).imp fun d s1 G1 H1 r1 g1 w1 v rv => ?_⟩
  rw [hK]
  cases d with
  | tup xs =>
    unfold Rep at rv
    obtain ⟨a, vs, rfl, q, l⟩ := rv
    exact .inr (.inl ⟨a, rfl, ⟨vs, Le.sqT r1.sub q⟩, Wp.pure w1 r1 _ (it_tup q l)⟩)
  | lst xs =>
    unfold Rep at rv
    obtain ⟨a, vs, rfl, q, l⟩ := rv
    exact .inl ⟨a, rfl, ⟨vs, (r1.sub.sqL q)⟩, Wp.pure w1 r1 _ (it_list q l)⟩
  | str t =>
    rw [show v = .str (stOf t) from rv]
    exact .inr (.inr ⟨_, rfl, Wp.pure w1 r1 _ it_str⟩)
  | _ => exact (Wp.stuck w1).elim
theorem i_rng1 {m : EvM S D} (hg : Gl X "range") (hm : X.mg "range" = none) (ha : PE X e1 (tR B m)) (hs : starEach [e1] X.env = [(false, eval e1 X.env)] := by rfl) : PI X tg (.Call (.Name "range" p) [e1] [] pos) (tI B (op1 rng1 m)) :=
  PI.imp (pi_range1 hg hm (pa_cons ha pa_nil hs) hs) fun σ H R ⟨ρ, s, G, r, w⟩ => by
    unfold op1 at w
    refine ⟨ρ, s, G, r, (w.bind r).imp fun d s1 G1 H1 r1 g1 w1 v rv => ?_⟩
    cases d with
    | int n =>
      cases q : rng1 (.int n) with
      | none => rw [q] at w1; exact (Wp.stuck w1).elim
      | some xs =>
        rw [q] at w1
        obtain ⟨q1, q2⟩ := opt_ifP q
        subst q2
        refine ⟨n, by rw [rv.int], q1.1, q1.2, ?_⟩
        have := Wp.pure w1 r1 (Itr 0 (n - 0).toNat) it_rng
        rw [Int.sub_zero] at this
        exact this
    | _ => exact (Wp.stuck w1).elim
theorem i_rng2 {m n : EvM S D} (hg : Gl X "range") (hm : X.mg "range" = none) (ha : PE X e1 (tR B m)) (hb : PE X e2 (tR B n)) (hs : starEach [e1, e2] X.env = [(false, eval e1 X.env), (false, eval e2 X.env)] := by rfl) (hs2 : starEach [e2] X.env = [(false, eval e2 X.env)] := by rfl) :
    PI X tg (.Call (.Name "range" p) [e1, e2] [] pos) (tI B (op2 rng2 m n)) :=
  PI.imp (pi_range2 hg hm (pa_cons ha (pa_cons hb pa_nil hs2) (by rw [hs, hs2])) hs hs2) fun σ H R ⟨ρ, s, G, r, w⟩ => by
    unfold op2 at w
    refine ⟨ρ, s, G, r, (w.bind r).imp fun d s1 G1 H1 r1 g1 w1 v rv => ⟨ρ, s1, G1, r1, (w1.bind r1).imp fun d2 s2 G2 H2 r2 g2 w2 u ru => ?_⟩⟩
    cases d with
    | int i =>
      cases d2 with
      | int j =>
        cases q : rng2 (.int i) (.int j) with
        | none => rw [q] at w2; exact (Wp.stuck w2).elim
        | some xs =>
          rw [q] at w2
          obtain ⟨q1, q2⟩ := opt_ifP q
          subst q2
          exact ⟨i, j, by rw [rv.int, ru.int], q1, Wp.pure w2 r2 _ it_rng⟩
      | _ => exact (Wp.stuck w2).elim
    | _ => cases d2 <;> exact (Wp.stuck w2).elim

/-! ## targets -/
/-- only these slots are other ones -/
def Oth (is : List Nat) (σ σ' : L2.St) : Prop := σ'.length = σ.length ∧ ∀ j, j ∉ is → σ'[j]? = σ[j]?
def tG (B : Bs S) (g : Tg) (is : List Nat) : TG := fun v σ H Q => ∃ ρ s G d ρ', SR B ρ s G σ H ∧ Rep B.X B.hp G v d ∧ g d ρ = some ρ' ∧ ∀ σ' G' H', SR B ρ' s G' σ' H' → Gr B G H G' H' → Oth is σ σ' → Q σ' H'
def tGs (B : Bs S) (g : List D → List Slot → Option (List Slot)) (is : List Nat) : TGs := fun vs σ H Q => ∃ ρ s G ds ρ', SR B ρ s G σ H ∧ RepL B.X B.hp G vs ds ∧ g ds ρ = some ρ' ∧ ∀ σ' G' H', SR B ρ' s G' σ' H' → Gr B G H G' H' → Oth is σ σ' → Q σ' H'
theorem PG.imp {t t' : TG} (h : PG X tg t) (k : ∀ v σ H Q, t' v σ H Q → t v σ H Q) : PG X tg t' := ⟨fun pins s σ H v u Q I r q => h.run pins s σ H v u Q I r (k v σ H Q q)⟩
theorem PGs.imp {t t' : TGs} (h : PGs X es t) (k : ∀ v σ H Q, t' v σ H Q → t v σ H Q) : PGs X es t' := ⟨fun pins s σ H v u Q I r q => h.run pins s σ H v u Q I r (k v σ H Q q)⟩
theorem g_name {i : Nat} (h : PG X tg (gName i)) : PG X tg (tG B (tgN i) [i]) := PG.imp h fun v σ H Q ⟨ρ, s, G, d, ρ', r, rv, e, k⟩ => by
  cases e
  exact k _ G H (r.putV rv) .refl ⟨by rw [List.length_set], fun j hj => List.getElem?_set_ne fun z => hj (by rw [z]; exact List.mem_singleton.mpr rfl)⟩
theorem g_nil : PGs X [] (tGs B tgNil []) := PGs.imp pgs_nil fun vs σ H Q ⟨ρ, s, G, ds, ρ', r, rv, e, k⟩ => by
  cases ds with
  | nil => cases e; exact ⟨rv, k σ G H r .refl ⟨rfl, fun _ _ => rfl⟩⟩
  | cons _ _ => cases e
theorem g_cons {g : Tg} {h : List D → List Slot → Option (List Slot)} {is js : List Nat} (h1 : PG X e (tG B g is)) (h2 : PGs X es (tGs B h js)) (hs : (assignEach (e :: es) X.env).map (·.2) = assign e X.env :: (assignEach es X.env).map (·.2) := by rfl) : PGs X (e :: es) (tGs B (tgCons g h) (is ++ js)) :=
  PGs.imp (pgs_cons h1 h2 hs) fun vs σ H Q ⟨ρ, s, G, ds, ρ', r, rv, e, k⟩ => by
    cases ds with
    | nil => cases e
    | cons d ds =>
      unfold RepL at rv
      obtain ⟨v, vr, rfl, r1, r2⟩ := rv
      obtain ⟨ρ1, e1, e2⟩ := Option.bind_eq_some_iff.mp (show (g d ρ).bind _ = some ρ' from e)
      refine ⟨v, vr, rfl, ρ, s, G, d, ρ1, r, r1, e1, fun σ1 G1 H1 q1 l1 o1 => ⟨ρ1, s, G1, ds, ρ', q1, RepL.mono l1.le _ _ r2, e2, fun σ2 G2 H2 q2 l2 o2 => k σ2 G2 H2 q2 (Gr.trans r q1 l1 l2) ⟨o2.1.trans o1.1, fun j hj => ?_⟩⟩⟩
      rw [o2.2 j fun z => hj (List.mem_append_right _ z), o1.2 j fun z => hj (List.mem_append_left _ z)]
theorem g_tup {j : Nat} {n : Nat} {h : List D → List Slot → Option (List Slot)} {is : List Nat} (hc : X.calm = true) (hg : PGs X es (tGs B h is)) (hl : ∀ ds ρ ρ', h ds ρ = some ρ' → ds.length = n) (hn : (assignEach es X.env).length = n := by rfl) (hst : (assignEach es X.env).findIdx? (·.1) = none := by rfl) (hK : X.K = B.X.K := by rfl) :
    PG X (.Tuple es j pos) (tG B (tgT h) is) := PG.imp (pg_tup hc hg hn hst) fun v σ H Q ⟨ρ, s, G, d, ρ', r, rv, e, k⟩ => by
  rw [hK]
  cases d with
  | tup xs =>
    unfold Rep at rv
    obtain ⟨a, vs, rfl, q, l⟩ := rv
    exact ⟨a, vs, rfl, Le.sqT r.sub q, by rw [l.length]; exact hl _ _ _ e, ρ, s, G, xs, ρ', r, l, e, k⟩
  | _ => cases e
theorem l_nil : ∀ ds ρ ρ', tgNil ds ρ = some ρ' → ds.length = 0 := fun ds ρ ρ' e => by
  cases ds with
  | nil => rfl
  | cons _ _ => cases e
theorem l_cons {g : Tg} {h : List D → List Slot → Option (List Slot)} {n : Nat} (k : ∀ ds ρ ρ', h ds ρ = some ρ' → ds.length = n) : ∀ ds ρ ρ', tgCons g h ds ρ = some ρ' → ds.length = n + 1 := fun ds ρ ρ' e => by
  cases ds with
  | nil => cases e
  | cons d ds =>
    obtain ⟨ρ1, e1, e2⟩ := Option.bind_eq_some_iff.mp (show (g d ρ).bind _ = some ρ' from e)
    rw [List.length_cons, k _ _ _ e2]
/-- target = value -/
theorem s_asgT {m : EvM S D} {g : Tg} {is : List Nat} (he : PE X e (tE B m)) (hg : PG X tg (tG B g is)) (hs : swapsWithSole [tg] e pos.line X.env = pure false := by rfl) (hw : swappedStores [tg] e X.env = pure none := by rfl) (h1 : (assignEach [tg] X.env).map (·.2) = [assign tg X.env] := by rfl) :
    PS X (.Assign [tg] e pos) (tS B (asgT m g)) := PS.imp (ps_asg he hg hs hw h1) fun E σ H ⟨ρ, s, G, r, w⟩ => by
  unfold asgT at w
  refine ⟨ρ, s, G, r, (OutP.bind r w).imp fun d s1 G1 H1 r1 g1 w1 v rv => ?_⟩
  cases q : g d ρ with
  | none => simp only [q] at w1; exact w1.elim
  | some ρ1 =>
    simp only [q] at w1
    exact ⟨ρ, s1, G1, d, ρ1, r1, rv, q, fun σ' G' H' r' l _ => w1 σ' G' H' r' l.le⟩

/-! ## for -/
theorem s_for {mi : EvM S (List D)} {g : Tg} {is : List Nat} {b : SM S} {body : List Stmt} (hp : PassesOwn (model X.prog X.w) X.A X.env X.xe) (hc : X.calm = true) (hi : PI X tg it (tI B mi)) (hg : PG X tg (tG B g is)) (hb : PSs X body (tS B b)) (hs : ∀ x, foldedSetIterable it X.env x = pure x := by intro _; rfl) :
    PS X (.For tg it body [] pos) (tS B (forS mi g b)) := PS.imp (ps_for hp hc hi hg hb hs) fun E σ H ⟨ρ, s, G, r, w⟩ => by
  unfold forS at w
  refine ⟨ρ, s, G, r, (OutP.bind r w).imp fun xs s1 G1 H1 r1 g1 w1 J hJ => ?_⟩
  refine ⟨fun i m σ H => m = xs.length - i ∧ ∃ ρ s G2, SR B ρ s G2 σ H ∧ Le G1 G2 ∧ OutP B E G2 (forGo g b (xs.drop i) ρ s), ⟨xs.length, by simp, ρ, s1, G1, r1, .refl _, by simpa using w1⟩, ?_⟩
  rintro i m σ H ⟨rfl, ρ, s, G2, r2, l2, w2⟩
  obtain ⟨j1, j2⟩ := hJ ρ s G2 σ H r2 l2
  by_cases hi : i < xs.length
  · obtain ⟨go, yl⟩ := j2 i _ (List.getElem?_eq_getElem hi)
    refine .inr ⟨go, fun σ H => ∃ ρ s G2, SR B ρ s G2 σ H ∧ Le G1 G2 ∧ OutP B E G2 (forGo g b (xs.drop (i + 1)) ρ s), fun σ' H' h => ⟨xs.length - (i + 1), by omega, rfl, h⟩, fun x H' y => ?_⟩
    obtain ⟨G3, r3, g3, rx⟩ := yl x H' y
    rw [List.drop_eq_getElem_cons hi] at w2
    unfold forGo at w2
    cases q : g xs[i] ρ with
    | none => rw [q] at w2; exact w2.elim
    | some ρ1 =>
      rw [q] at w2
      refine ⟨ρ, s, G3, xs[i], ρ1, r3, rx, q, fun σ4 G4 H4 r4 l4 _ => ⟨ρ1, s, G4, r4, ?_⟩⟩
      have l24 : Le G2 G4 := g3.le.trans l4.le
      dsimp only at w2
      cases e2 : b ρ1 s with
      | nx ρ2 s2 => rw [e2] at w2; exact fun σ5 G5 H5 r5 l5 => ⟨ρ2, s2, G5, r5, (l2.trans l24).trans l5, OutP.mono (l24.trans l5) w2⟩
      | ct ρ2 s2 => rw [e2] at w2; exact fun σ5 G5 H5 r5 l5 => ⟨ρ2, s2, G5, r5, (l2.trans l24).trans l5, OutP.mono (l24.trans l5) w2⟩
      | bk ρ2 s2 => rw [e2] at w2; exact fun σ5 G5 H5 r5 l5 => w2 σ5 G5 H5 r5 (l24.trans l5)
      | ret d s2 => rw [e2] at w2; exact OutP.mono (o := .ret d s2) l24 w2
      | exc c fs ρ2 s2 => rw [e2] at w2; exact OutP.mono (o := .exc c fs ρ2 s2) l24 w2
      | stuck => rw [e2] at w2; exact w2
  · refine .inl ⟨j1 i (by omega), ?_⟩
    rw [List.drop_eq_nil_of_le (by omega)] at w2
    exact w2 σ G2 H r2 (.refl _)
end Dl
-- DL8
namespace Dl
open PySem PySem.Spec PyProof.Rows L2
variable {S : Type} {B : Bs S} {X : Cx} {e e1 e2 tg it : Expr} {es : List Expr} {pos p p2 : Pos} {ρ ρ' : List Slot} {σ : L2.St} {G H G' H' : Hp} {s : S} {x y v : V} {d : D} {z : Str} {id T : String}

/-! ## changes of a list that only a slot has -/
theorem SR.mut {i : Nat} {a : Addr} {xs ys : List D} {us : List V} (r : SR B ρ s G σ H) (e : ρ[i]? = some (.own xs)) (ea : σ[i]? = some (some (.ref a))) (l : RepL B.X B.hp G us ys) : SR B (ρ.set i (.own ys)) s G σ (upd H a (.lst us)) := by
  obtain ⟨a', vs, e1, e2, e3, e4, e5, e6⟩ := r.sl i _ e
  rw [ea] at e1
  cases e1
  refine ⟨fun b o q => ?_, r.g0, r.gn, fun b o q n => ?_, r.rgn, B.rg.frame s H _ r.hs fun b q => upd_ne fun z => e4 (by rw [← z]; exact q), by rw [List.length_set]; exact r.len, fun j p q => ?_, fun j k b xs' ys' q1 q2 q3 q4 => ?_⟩
  · rw [upd_ne (fun z => by rw [z, e2] at q; cases q)]; exact r.sub b o q
  · rw [upd_ne (fun z => by rw [z, e3] at q; cases q)]; exact r.kept b o q n
  · rcases set_lt q with ⟨q1, _, q3⟩ | ⟨q1, q2⟩
    · subst q1 q3
      exact ⟨a, us, ea, e2, e3, e4, upd_same, l⟩
    · have z := r.sl j p q2
      cases p with
      | emp => exact z
      | val d => exact z
      | own zs =>
        obtain ⟨b, ws, f1, f2, f3, f4, f5, f6⟩ := z
        refine ⟨b, ws, f1, f2, f3, f4, ?_, f6⟩
        rw [upd_ne (fun w => q1 (r.ds i j a xs zs e q2 ea (by rw [← w]; exact f1)))]
        exact f5
  · have old : ∀ (k : Nat) zs, (ρ.set i (.own ys))[k]? = some (.own zs) → ∃ zs', ρ[k]? = some (.own zs') := fun k zs q => by
      rcases set_lt q with ⟨w1, _, _⟩ | ⟨_, w2⟩
      · exact ⟨xs, by rw [← w1]; exact e⟩
      · exact ⟨zs, w2⟩
    obtain ⟨z1, w1⟩ := old j _ q1
    obtain ⟨z2, w2⟩ := old k _ q2
    exact r.ds j k b z1 z2 w1 w2 q3 q4
/-- the list that a slot has, where it stands -/
theorem SR.ownAt {i : Nat} {xs : List D} (r : SR B ρ s G σ H) (e : ρ[i]? = some (.own xs)) : ∃ a vs, σ[i]? = some (some (.ref a)) ∧ H a = some (.lst vs) ∧ RepL B.X B.hp G vs xs := by
  obtain ⟨a, vs, e1, _, _, _, e5, e6⟩ := r.sl i _ e
  exact ⟨a, vs, e1, e5, e6⟩
/-- xs.append(e) -/
theorem s_app {i : Nat} {m : EvM S D} {f : Expr} (h : PS X (.Expr f pos) (tDrop (tBM X.K "list" rAppend (tVar i) (tCons (tE B m) tNil)))) : PS X (.Expr f pos) (tS B (mutS i m appF)) := PS.imp h fun E σ H ⟨ρ, s, G, r, w⟩ => by
  unfold mutS at w
  split at w
  · rename_i xs e
    obtain ⟨a, vs, ea, eH, l⟩ := r.ownAt e
    refine ⟨_, ea, .inl ⟨rfl, vs, .inl (.inl eH)⟩, ρ, s, G, r, (OutP.bind r w).imp fun d s1 G1 H1 r1 g1 w1 v rv => ?_⟩
    obtain ⟨a', us, ea', eH', l'⟩ := r1.ownAt e
    rw [ea] at ea'
    cases ea'
    cases q : appF xs d with
    | none => simp only [q] at w1; exact w1.elim
    | some ys =>
      simp only [q] at w1
      obtain ⟨q1, q2⟩ := opt_ifP q
      subst q2
      refine ⟨a, us, v, rfl, rfl, eH', by rw [l'.length, sizeLine_eq]; exact q1, ?_⟩
      exact w1 _ _ _ (r1.mut e ea (l'.append (.cons rv .nil))) (.refl _)
  · exact w.elim
/-- xs[k] = v -/
theorem s_put {i : Nat} {mk m : EvM S D} (h : PS X (.Assign [tg] e pos) (tAsg (tE B m) (gSub (tVar i) (tR B mk) rSetL))) : PS X (.Assign [tg] e pos) (tS B (putS i mk m)) := PS.imp h fun E σ H ⟨ρ, s, G, r, w⟩ => by
  unfold putS at w
  refine ⟨ρ, s, G, r, (OutP.bind r w).imp fun d s1 G1 H1 r1 g1 w1 v rv => ?_⟩
  split at w1
  · rename_i xs q
    obtain ⟨a, vs, ea, eH, l⟩ := r1.ownAt q
    refine ⟨_, ea, ρ, s1, G1, r1, (OutP.bind r1 w1).imp fun k s2 G2 H2 r2 g2 w2 u ru => ?_⟩
    obtain ⟨a', us, ea', eH', l'⟩ := r2.ownAt q
    rw [ea] at ea'
    cases ea'
    cases k with
    | int j =>
      cases qj : ixP xs.length j with
      | none => simp only [intO, Option.bind_some, qj] at w2; exact w2.elim
      | some jj =>
        simp only [intO, Option.bind_some, qj] at w2
        refine ⟨a, us, j, jj, rfl, ru.int, eH', by rw [l'.length]; exact qj, ?_⟩
        exact w2 _ _ _ (r2.mut q ea (RepL.set (Rep.mono g2.le _ _ rv) jj l')) (.refl _)
    | _ => exact w2.elim
  · exact w1.elim
theorem dropLast_rep {xs : List D} {vs : List V} (h : RepL B.X B.hp G vs xs) : RepL B.X B.hp G vs.dropLast xs.dropLast := by
  rw [List.dropLast_eq_take, List.dropLast_eq_take, h.length]
  exact h.take _
/-- y = xs.pop() -/
theorem s_pop {i j : Nat} (h : PS X (.Assign [tg] e pos) (tAsg (tBM0 X.K "list" rPop (tVar i)) (gName j))) : PS X (.Assign [tg] e pos) (tS B (popS i j)) := PS.imp h fun E σ H ⟨ρ, s, G, r, w⟩ => by
  unfold popS at w
  split at w
  · rename_i xs q
    obtain ⟨a, vs, ea, eH, l⟩ := r.ownAt q
    split at w
    · rename_i y qy
      obtain ⟨v, ev, rv⟩ := l.get qy
      refine ⟨_, ea, .inl ⟨rfl, vs, .inl (.inl eH)⟩, a, vs, v, rfl, rfl, eH, by rw [l.length]; exact ev, ?_⟩
      exact w _ _ _ ((r.mut q ea (dropLast_rep (B := B) l)).putV rv) (.refl _)
    · exact w.elim
  · exact w.elim
theorem s_popN {i : Nat} {f : Expr} (h : PS X (.Expr f pos) (tDrop (tBM0 X.K "list" rPop (tVar i)))) : PS X (.Expr f pos) (tS B (popN i)) := PS.imp h fun E σ H ⟨ρ, s, G, r, w⟩ => by
  unfold popN at w
  split at w
  · rename_i xs q
    obtain ⟨a, vs, ea, eH, l⟩ := r.ownAt q
    split at w
    · rename_i y qy
      obtain ⟨v, ev, rv⟩ := l.get qy
      refine ⟨_, ea, .inl ⟨rfl, vs, .inl (.inl eH)⟩, a, vs, v, rfl, rfl, eH, by rw [l.length]; exact ev, ?_⟩
      exact w _ _ _ (r.mut q ea (dropLast_rep (B := B) l)) (.refl _)
    · exact w.elim
  · exact w.elim

/-! ## several at once -/
/-- values, and lists that are new, at these places -/
def RepM (B : Bs S) (G H : Hp) : List V → List Slot → List Addr → Prop
  | vs, [], as => vs = [] ∧ as = []
  | vs, .val d :: qs, as => ∃ v vr, vs = v :: vr ∧ Rep B.X B.hp G v d ∧ RepM B G H vr qs as
  | vs, .own xs :: qs, as => ∃ a vr us ar, vs = .ref a :: vr ∧ as = a :: ar ∧ G a = none ∧ H a = some (.lst us) ∧ RepL B.X B.hp G us xs ∧ RepM B G H vr qs ar
  | _, .emp :: _, _ => False
def tM (B : Bs S) (m : EvM S (List Slot)) : TA := fun σ H Q => ∃ ρ s G, SR B ρ s G σ H ∧ Wp B ρ σ (m ρ) s G H fun qs _ G' H' => ∀ vs as, RepM B G' H' vs qs as → as.Nodup → (∀ a ∈ as, H a = none) → Q vs H'
theorem m_nil : PA X [] (tM B mixNil) := PA.imp pa_nil fun σ H Q ⟨ρ, s, G, q, w⟩ => Wp.pure w q [] [] ⟨rfl, rfl⟩ List.nodup_nil fun _ z => nomatch z
theorem m_val {m : EvM S D} {n : EvM S (List Slot)} (ha : PE X e (tE B m)) (hr : PA X es (tM B n)) (hs : starEach (e :: es) X.env = (false, eval e X.env) :: starEach es X.env := by rfl) : PA X (e :: es) (tM B (mixVal m n)) :=
  PA.imp (pa_cons ha hr hs) fun σ H Q ⟨ρ, s, G, q, w⟩ => by
    unfold mixVal at w
    refine ⟨ρ, s, G, q, (w.bind q).imp fun a s1 G1 H1 q1 g1 w1 v rv => ⟨ρ, s1, G1, q1, (w1.bind q1).imp fun qs s2 G2 H2 q2 g2 w2 vs as rs nd fr => Wp.pure w2 q2 (v :: vs) as ?_ nd fun a ha => Gr.back q q1 g1 (fr a ha)⟩⟩
    unfold RepM
    exact ⟨v, vs, rfl, Rep.mono g2.le _ _ rv, rs⟩
theorem m_own {m : EvM S (List D)} {n : EvM S (List Slot)} (ha : PE X e (tO B m)) (hr : PA X es (tM B n)) (hs : starEach (e :: es) X.env = (false, eval e X.env) :: starEach es X.env := by rfl) : PA X (e :: es) (tM B (mixOwn m n)) :=
  PA.imp (pa_cons ha hr hs) fun σ H Q ⟨ρ, s, G, q, w⟩ => by
    unfold mixOwn at w
    refine ⟨ρ, s, G, q, (w.bind q).imp fun xs s1 G1 H1 q1 g1 w1 a us hn hg hH rl => ⟨ρ, s1, G1, q1, (w1.bind q1).imp fun qs s2 G2 H2 q2 g2 w2 vs as rs nd fr => Wp.pure w2 q2 (.ref a :: vs) (a :: as) ?_ ?_ ?_⟩⟩
    · unfold RepM
      refine ⟨a, vs, us, as, rfl, rfl, ?_, g2.kp a _ hH (q.there hn).2.1, RepL.mono g2.le _ _ rl, rs⟩
      cases z : G2 a with
      | none => rfl
      | some o =>
        rcases g2.new a o z with z | z
        · rw [hg] at z; cases z
        · rw [hH] at z; cases z
    · exact List.nodup_cons.mpr ⟨fun z => (by have := fr a z; rw [hH] at this; cases this), nd⟩
    · intro b hb
      rcases List.mem_cons.mp hb with rfl | hb
      · exact hn
      · exact Gr.back q q1 g1 (fr b hb)
def setV : List Nat → List V → L2.St → L2.St
  | i :: is, v :: vs, σ => setV is vs (σ.set i (some v))
  | _, _, σ => σ
theorem SR.puts {G0 H0 : Hp} : ∀ {is : List Nat} {qs : List Slot} {vs : List V} {as : List Addr} {ρ ρ' : List Slot} {σ : L2.St}, SR B ρ s G σ H → RepM B G H vs qs as → as.Nodup → (∀ a ∈ as, B.H0 a = none ∧ ¬ B.rg.reg a ∧ ∀ (j : Nat) ys, ρ[j]? = some (.own ys) → σ[j]? ≠ some (some (.ref a))) →
    setAll is qs ρ = some ρ' → SR B ρ' s G (setV is vs σ) H ∧ vs.length = is.length
  | [], [], vs, as, ρ, ρ', σ, r, m, nd, fr, e => by
    unfold RepM at m
    obtain ⟨rfl, rfl⟩ := m
    cases e
    exact ⟨r, rfl⟩
  | [], _ :: _, _, _, _, _, _, _, _, _, _, e => by cases e
  | _ :: _, [], _, _, _, _, _, _, _, _, _, e => by cases e
  | i :: is, .emp :: qs, vs, as, ρ, ρ', σ, r, m, nd, fr, e => by unfold RepM at m; exact m.elim
  | i :: is, .val d :: qs, vs, as, ρ, ρ', σ, r, m, nd, fr, e => by
    unfold RepM at m
    obtain ⟨v, vr, rfl, rv, m⟩ := m
    obtain ⟨q1, q2⟩ := SR.puts (G0 := G0) (H0 := H0) (r.putV (i := i) rv) m nd (fun a ha => by
      obtain ⟨f1, f2, f3⟩ := fr a ha
      refine ⟨f1, f2, fun j ys z => ?_⟩
      rcases set_lt z with ⟨_, _, z3⟩ | ⟨z1, z2⟩
      · cases z3
      · rw [List.getElem?_set_ne z1]; exact f3 j ys z2) (show setAll is qs (ρ.set i (.val d)) = some ρ' from e)
    exact ⟨q1, by rw [List.length_cons, List.length_cons, q2]⟩
  | i :: is, .own xs :: qs, vs, as, ρ, ρ', σ, r, m, nd, fr, e => by
    unfold RepM at m
    obtain ⟨a, vr, us, ar, rfl, rfl, m1, m2, m3, m⟩ := m
    obtain ⟨f1, f2, f3⟩ := fr a List.mem_cons_self
    obtain ⟨n1, n2⟩ := List.nodup_cons.mp nd
    obtain ⟨q1, q2⟩ := SR.puts (G0 := G0) (H0 := H0) (r.putO (i := i) f1 f2 m1 m2 m3 f3) m n2 (fun b hb => by
      obtain ⟨f1, f2, f3⟩ := fr b (List.mem_cons_of_mem _ hb)
      refine ⟨f1, f2, fun j ys z w => ?_⟩
      rcases set_lt z with ⟨z1, z2, z3⟩ | ⟨z1, z2⟩
      · subst z1
        rw [set_at (by rw [r.len]; exact z2)] at w
        cases w
        exact n1 hb
      · rw [List.getElem?_set_ne z1] at w; exact f3 j ys z2 w) (show setAll is qs (ρ.set i (.own xs)) = some ρ' from e)
    exact ⟨q1, by rw [List.length_cons, List.length_cons, q2]⟩
/-- what the stores of several read -/
def tPut (is : List Nat) (ta : TA) : TS := fun D σ H => ta σ H fun vs H1 => ∀ H2, (H2 = H1 ∨ ∃ p o, H1 p = none ∧ H2 = upd H1 p o) → vs.length = is.length → D.nx (setV is vs σ) H2
theorem s_puts {is : List Nat} {m : EvM S (List Slot)} {st : Stmt} (h : PS X st (fun D σ H => tM B m σ H fun vs H1 => vs.length = is.length ∧ ∀ H2, (H2 = H1 ∨ ∃ p o, H1 p = none ∧ H2 = upd H1 p o) → D.nx (setV is vs σ) H2)) : PS X st (tS B (parS is m)) := PS.imp h fun E σ H ⟨ρ, s, G, r, w⟩ => by
  unfold parS at w
  refine ⟨ρ, s, G, r, (OutP.bind r w).imp fun qs s1 G1 H1 r1 g1 w1 vs as rm nd fr => ?_⟩
  cases q : setAll is qs ρ with
  | none => simp only [q] at w1; exact w1.elim
  | some ρ' =>
    simp only [q] at w1
    obtain ⟨r2, le⟩ := SR.puts (G0 := G) (H0 := H) r1 rm nd (fun a ha => ⟨(r.there (fr a ha)).1, (r.there (fr a ha)).2.1, r.none_own (s1 := s) (G1 := G) (H1 := H) (fr a ha)⟩) q
    refine ⟨le, fun H2 z => ?_⟩
    rcases z with rfl | ⟨p, o, hp, rfl⟩
    · exact w1 _ _ _ r2 (.refl _)
    · exact w1 _ _ _ (r2.alloc0 hp).1 (.refl _)
/-- a, b = x, y; three; more -/
theorem s_par2 {i j : Nat} {m : EvM S (List Slot)} {st : Stmt} (h : PS X st (tPar i j (tM B m))) : PS X st (tS B (parS [i, j] m)) := s_puts (PS.imp h fun E σ H ⟨ρ, s, G, r, w⟩ => ⟨ρ, s, G, r, w.imp fun qs s1 G1 H1 r1 g1 w1 vs as rm nd fr => by
  obtain ⟨l, k⟩ := w1 vs as rm nd fr
  match vs, l with
  | [v, w], _ => exact ⟨v, w, rfl, k H1 (.inl rfl)⟩⟩)
theorem s_par3 {i j k : Nat} {m : EvM S (List Slot)} {st : Stmt} (h : PS X st (tPar3 i j k (tM B m))) : PS X st (tS B (parS [i, j, k] m)) := s_puts (PS.imp h fun E σ H ⟨ρ, s, G, r, w⟩ => ⟨ρ, s, G, r, w.imp fun qs s1 G1 H1 r1 g1 w1 vs as rm nd fr => by
  obtain ⟨l, k⟩ := w1 vs as rm nd fr
  match vs, l with
  | [u, v, w], _ => exact ⟨u, v, w, rfl, k H1 (.inl rfl)⟩⟩)
/-- names that take a tuple's items -/
def gNs : List Nat → TGs
  | [] => gNil
  | i :: is => gCons (gName i) (gNs is)
theorem gNs_ok {Q : L2.St → Hp → Prop} : ∀ {is : List Nat} {vs : List V} {σ : L2.St} {H : Hp}, vs.length = is.length → Q (setV is vs σ) H → gNs is vs σ H Q
  | [], vs, σ, H, l, q => ⟨List.length_eq_zero_iff.mp l, by cases vs with | nil => exact q | cons _ _ => exact q⟩
  | i :: is, [], σ, H, l, q => by cases l
  | i :: is, v :: vs, σ, H, l, q => ⟨v, vs, rfl, gNs_ok (by simpa using l) q⟩
theorem s_parN {is : List Nat} {m : EvM S (List Slot)} {st : Stmt} {n : Nat} (h : PS X st (tAsg (tTup (tM B m)) (gTup X.K n (gNs is)))) (hn : n = is.length) (hz : n ≤ 1000) : PS X st (tS B (parS is m)) := s_puts (PS.imp h fun E σ H ⟨ρ, s, G, r, w⟩ => ⟨ρ, s, G, r, w.imp fun qs s1 G1 H1 r1 g1 w1 vs as rm nd fr => by
  obtain ⟨l, k⟩ := w1 vs as rm nd fr
  refine ⟨by rw [sizeLine_eq]; omega, fun p hp => ⟨p, vs, rfl, .inl (.inl upd_same), by omega, gNs_ok l (k _ (.inr ⟨p, _, hp, rfl⟩))⟩⟩⟩)
end Dl
-- DL9
namespace Dl
open PySem PySem.Spec PyProof.Rows L2
variable {S : Type} {B : Bs S} {X : Cx} {e e1 e2 tg it : Expr} {es : List Expr} {pos p p2 : Pos} {ρ ρ' : List Slot} {σ σ' : L2.St} {G H G' H' : Hp} {s : S} {x y v : V} {d : D} {z : Str} {id T : String}

/-! ## comprehensions -/
/-- nothing may be raised here -/
abbrev Bs.calm (B : Bs S) : Bs S := { B with W := fun _ _ _ _ => False }
theorem SR.w1 (r : SR B ρ s G σ H) : SR B.calm ρ s G σ H := ⟨r.sub, r.g0, r.gn, r.kept, r.rgn, r.hs, r.len, fun i q e => by have z := r.sl i q e; cases q <;> exact z, r.ds⟩
theorem SR.w2 (r : SR B.calm ρ s G σ H) : SR B ρ s G σ H := ⟨r.sub, r.g0, r.gn, r.kept, r.rgn, r.hs, r.len, fun i q e => by have z := r.sl i q e; cases q <;> exact z, r.ds⟩
theorem Gr.w2 (r : Gr B.calm G H G' H') : Gr B G H G' H' := ⟨r.le, r.kp, r.new⟩
theorem SR.wipe (r : SR B ρ s G σ H) : ∀ vs : List Nat, SR B (wipeR ρ vs) s G (L2.wipe σ vs) H
  | [] => r
  | v :: vs => (SR.wipe r vs).putE
theorem wipe_get (σ : L2.St) : ∀ (vs : List Nat) (j : Nat), (L2.wipe σ vs)[j]? = if j ∈ vs then (if j < σ.length then some none else none) else σ[j]?
  | [], j => by simp [L2.wipe]
  | v :: vs, j => by
    unfold L2.wipe
    by_cases h : v = j
    · subst h
      rw [if_pos List.mem_cons_self]
      by_cases q : v < σ.length
      · rw [set_at (by rw [wipe_length]; exact q), if_pos q]
      · rw [List.getElem?_eq_none (by simpa [wipe_length] using q), if_neg q]
    · rw [List.getElem?_set_ne h, wipe_get σ vs j]
      have : (j ∈ v :: vs) ↔ j ∈ vs := by simp [Ne.symm h]
      simp only [this]
theorem wipe_oth {is vs : List Nat} (h : ∀ i ∈ is, i ∈ vs) (o : Oth is (L2.wipe σ vs) σ') : L2.wipe σ' vs = L2.wipe σ vs := by
  apply List.ext_getElem?
  intro j
  rw [wipe_get, wipe_get, o.1, wipe_length]
  by_cases q : j ∈ vs
  · rw [if_pos q, if_pos q]
  · rw [if_neg q, if_neg q, o.2 j fun z => q (h j z), wipe_get, if_neg q]
/-- an object that nobody knows is another one -/
theorem SR.side {a : Addr} {o : HO} (r : SR B ρ s G σ H) (h0 : B.H0 a = none) (nr : ¬ B.rg.reg a) (hg : G a = none) (no : ∀ (j : Nat) ys, ρ[j]? = some (.own ys) → σ[j]? ≠ some (some (.ref a))) : SR B ρ s G σ (upd H a o) := by
  refine ⟨fun b u q => ?_, r.g0, r.gn, fun b u q n => ?_, r.rgn, B.rg.frame s H _ r.hs fun b q => upd_ne fun z => nr (by rw [← z]; exact q), r.len, fun j p q => ?_, r.ds⟩
  · rw [upd_ne (fun z => by rw [z, hg] at q; cases q)]; exact r.sub b u q
  · rw [upd_ne (fun z => by rw [z, h0] at q; cases q)]; exact r.kept b u q n
  · have z := r.sl j p q
    cases p with
    | emp => exact z
    | val d => exact z
    | own zs =>
      obtain ⟨b, ws, f1, f2, f3, f4, f5, f6⟩ := z
      refine ⟨b, ws, f1, f2, f3, f4, ?_, f6⟩
      rw [upd_ne (fun w => no j zs q (by rw [← w]; exact f1))]
      exact f5
theorem noexc_run {α : Type} (m : M S α) (s : S) : noexc m s = match m s with | .ok a s' => .ok a s' | _ => .stuck := rfl
theorem lcGo_calm {g : Tg} {t : EvM S Bool} {me : EvM S D} : ∀ (xs : List D) (s : S) c fs s', lcGo g t me ρ xs s ≠ .exc c fs s'
  | [], s, c, fs, s' => fun h => by cases h
  | x :: xs, s, c, fs, s' => fun h => by
    unfold lcGo at h
    rw [bind_run] at h
    cases e1 : g x ρ with
    | none => rw [e1] at h; cases h
    | some ρ1 =>
      rw [e1] at h
      have h : ((noexc (t ρ1) >>= fun b => if b = true then (noexc (me ρ1) >>= fun y => lcGo g t me ρ xs >>= fun ys => pure (y :: ys)) else lcGo g t me ρ xs) s : Res S (List D)) = .exc c fs s' := h
      rw [bind_run, noexc_run] at h
      cases e2 : t ρ1 s with
      | ok b s1 =>
        rw [e2] at h
        cases b with
        | false => exact lcGo_calm xs s1 c fs s' h
        | true =>
          dsimp only at h
          rw [if_pos rfl, bind_run, noexc_run] at h
          cases e3 : me ρ1 s1 with
          | ok y s2 =>
            rw [e3] at h
            dsimp only at h
            rw [bind_run] at h
            cases e4 : lcGo g t me ρ xs s2 with
            | ok ys s3 => rw [e4] at h; cases h
            | exc c' fs' s3 => exact lcGo_calm xs s2 _ _ _ e4
            | stuck => rw [e4] at h; cases h
          | exc _ _ _ => rw [e3] at h; cases h
          | stuck => rw [e3] at h; cases h
      | exc _ _ _ => rw [e2] at h; cases h
      | stuck => rw [e2] at h; cases h
/-- what is to come of the turns that are left -/
def Todo (B : Bs S) (ρ : List Slot) (σ : L2.St) (G H : Hp) (post : List D → S → Hp → Hp → Prop) (ds : List D) (m : M S (List D)) (s : S) : Prop := match m s with
  | .ok rest s' => ∀ G' H', SR B ρ s' G' σ H' → Gr B G H G' H' → post (ds ++ rest) s' G' H'
  | _ => False
theorem Todo.step {post : List D → S → Hp → Hp → Prop} {ds : List D} {g : Tg} {t : EvM S Bool} {me : EvM S D} {ρ0 : List Slot} {x : D} {xs : List D} (h : Todo B ρ σ G H post ds (lcGo g t me ρ0 (x :: xs)) s) :
    ∃ ρ1, g x ρ0 = some ρ1 ∧ match t ρ1 s with
      | .ok true s1 => (match me ρ1 s1 with
        | .ok y s2 => Todo B ρ σ G H post (ds ++ [y]) (lcGo g t me ρ0 xs) s2
        | _ => False)
      | .ok false s1 => Todo B ρ σ G H post ds (lcGo g t me ρ0 xs) s1
      | _ => False := by
  unfold Todo at h
  unfold lcGo at h
  rw [bind_run] at h
  cases e1 : g x ρ0 with
  | none => rw [e1] at h; exact h.elim
  | some ρ1 =>
    rw [e1] at h
    refine ⟨ρ1, rfl, ?_⟩
    have h : match ((noexc (t ρ1) >>= fun b => if b = true then (noexc (me ρ1) >>= fun y => lcGo g t me ρ0 xs >>= fun ys => pure (y :: ys)) else lcGo g t me ρ0 xs) s : Res S (List D)) with
      | .ok rest s' => ∀ G' H', SR B ρ s' G' σ H' → Gr B G H G' H' → post (ds ++ rest) s' G' H'
      | _ => False := h
    rw [bind_run, noexc_run] at h
    cases e2 : t ρ1 s with
    | ok b s1 =>
      rw [e2] at h
      cases b with
      | false => exact h
      | true =>
        dsimp only at h ⊢
        rw [if_pos rfl, bind_run, noexc_run] at h
        cases e3 : me ρ1 s1 with
        | ok y s2 =>
          rw [e3] at h
          dsimp only at h ⊢
          rw [bind_run] at h
          unfold Todo
          cases e4 : lcGo g t me ρ0 xs s2 with
          | ok ys s3 =>
            rw [e4] at h
            intro G' H' r g
            have := h G' H' r g
            rw [List.append_assoc]
            exact this
          | exc _ _ _ => rw [e4] at h; exact h
          | stuck => rw [e4] at h; exact h
        | exc _ _ _ => rw [e3] at h; exact h
        | stuck => rw [e3] at h; exact h
    | exc _ _ _ => rw [e2] at h; exact h
    | stuck => rw [e2] at h; exact h
/-- [elt for target in iter if ..] -/
theorem lc_go {mi : EvM S (List D)} {g : Tg} {is vs : List Nat} {t : EvM S Bool} {me : EvM S D} (hv : ∀ i ∈ is, i ∈ vs) {Q : VK} (h : tO B (lcO mi vs g t me) σ H Q) : tLc (tI B mi) (tG B.calm g is) (tQ B.calm t) (tE B.calm me) vs σ H Q := by
  obtain ⟨ρ, s, G, r, w⟩ := h
  unfold lcO at w
  refine ⟨ρ, s, G, r, ?_⟩
  unfold Wp at w ⊢
  rw [bind_run] at w
  cases e1 : mi ρ s with
  | exc c fs s1 => rw [e1] at w; exact w
  | stuck => rw [e1] at w; exact w
  | ok xs s1 =>
    rw [e1] at w
    dsimp only at w ⊢
    intro G1 H1 r1 g1 J hJ Dl hD
    by_cases fz : xs.length ≤ 16777216
    case neg => rw [if_neg fz] at w; exact w.elim
    case pos =>
    rw [if_pos fz] at w
    have hD0 : H Dl = none := Gr.back r r1 g1 hD
    obtain ⟨h0, nr, _⟩ := r.there hD0
    have own0 := r.none_own (s1 := s) (G1 := G) (H1 := H) hD0
    -- what is left, as it stands
    have todo : Todo B ρ σ G H (fun ds s' G' H' => ∀ us, G' Dl = none → H' Dl = some (.lst us) → RepL B.X B.hp G' us ds → Q (.ref Dl) H') [] (lcGo g t me (wipeR ρ vs) xs) s1 := by
      unfold Todo
      cases e2 : lcGo g t me (wipeR ρ vs) xs s1 with
      | ok rest s2 => rw [e2] at w; exact fun G' H' r' g' us a1 a2 a3 => w G' H' r' g' Dl us hD0 a1 a2 a3
      | exc c fs s2 => exact lcGo_calm xs s1 _ _ _ e2
      | stuck => rw [e2] at w; exact w
    obtain ⟨r2, g2⟩ := r1.alloc0 (o := .lst []) hD
    refine ⟨fun i m Hh => m = xs.length - i ∧ ∃ s2 G2 us ds, SR B ρ s2 G2 σ Hh ∧ Gr B G H G2 Hh ∧ Le G1 G2 ∧ G2 Dl = none ∧ Hh Dl = some (.lst us) ∧ us.length ≤ i ∧ RepL B.X B.hp G2 us ds ∧
      Todo B ρ σ G H (fun ds s' G' H' => ∀ us, G' Dl = none → H' Dl = some (.lst us) → RepL B.X B.hp G' us ds → Q (.ref Dl) H') ds (lcGo g t me (wipeR ρ vs) (xs.drop i)) s2,
      ⟨xs.length, by simp, s1, G1, [], [], r2, Gr.trans r r1 g1 g2, .refl _, (r1.there hD).2.2, upd_same, Nat.le_refl _, .nil, by simpa using todo⟩, ?_⟩
    rintro i m Hh ⟨rfl, s2, G2, us, ds, q, gq, l12, hG2, hHD, hul, rl, td⟩
    obtain ⟨j1, j2⟩ := hJ (wipeR ρ vs) s2 G2 (L2.wipe σ vs) Hh (q.wipe vs) l12
    by_cases hi : i < xs.length
    · obtain ⟨go, yl⟩ := j2 i _ (List.getElem?_eq_getElem hi)
      rw [List.drop_eq_getElem_cons hi] at td
      obtain ⟨ρ1, eg, td⟩ := td.step
      refine .inr ⟨go, fun Hh => ∃ s2 G2 us ds, SR B ρ s2 G2 σ Hh ∧ Gr B G H G2 Hh ∧ Le G1 G2 ∧ G2 Dl = none ∧ Hh Dl = some (.lst us) ∧ us.length ≤ i + 1 ∧ RepL B.X B.hp G2 us ds ∧
        Todo B ρ σ G H (fun ds s' G' H' => ∀ us, G' Dl = none → H' Dl = some (.lst us) → RepL B.X B.hp G' us ds → Q (.ref Dl) H') ds (lcGo g t me (wipeR ρ vs) (xs.drop (i + 1))) s2, fun H' h => ⟨xs.length - (i + 1), by omega, rfl, h⟩, fun x H3 y => ?_⟩
      obtain ⟨G3, r3, g3, rx⟩ := yl x H3 y
      refine ⟨wipeR ρ vs, s2, G3, xs[i], ρ1, r3.w1, rx, eg, fun σ4 G4 H4 r4 g4 o4 => ⟨wipe_oth hv o4, ?_⟩⟩
      have g4' : Gr B G3 H3 G4 H4 := g4.w2
      have g24 : Gr B G2 Hh G4 H4 := Gr.trans q r3 g3 g4'
      -- the new list and what it was made of, carried on
      have stay : ∀ {G5 H5 : Hp}, Gr B G2 Hh G5 H5 → G5 Dl = none ∧ H5 Dl = some (.lst us) ∧ RepL B.X B.hp G5 us ds := fun {G5 H5} g5 => by
        refine ⟨?_, g5.kp Dl _ hHD nr, RepL.mono g5.le _ _ rl⟩
        cases z : G5 Dl with
        | none => rfl
        | some o =>
          rcases g5.new Dl o z with z | z
          · rw [hG2] at z; cases z
          · rw [hHD] at z; cases z
      refine ⟨ρ1, s2, G4, r4, ?_⟩
      unfold Wp
      cases e3 : t ρ1 s2 with
      | exc _ _ _ => rw [e3] at td; exact td.elim
      | stuck => rw [e3] at td; exact td
      | ok b s3 =>
        rw [e3] at td
        intro G5 H5 r5 g5
        have g25 : Gr B G2 Hh G5 H5 := Gr.trans q r4.w2 g24 g5.w2
        cases b with
        | false =>
          refine iteF ?_
          obtain ⟨t1, t2, t3⟩ := stay g25
          exact ⟨s3, G5, us, ds, q.grow r5.sub g25 r5.hs, Gr.trans r q gq g25, l12.trans g25.le, t1, t2, by omega, t3, td⟩
        | true =>
          refine iteT ?_
          refine ⟨ρ1, s3, G5, r5, ?_⟩
          unfold Wp
          dsimp only at td
          cases e4 : me ρ1 s3 with
          | exc _ _ _ => rw [e4] at td; exact td.elim
          | stuck => rw [e4] at td; exact td
          | ok yv s4 =>
            rw [e4] at td
            intro G6 H6 r6 g6 v rv
            have g26 : Gr B G2 Hh G6 H6 := Gr.trans q r5.w2 g25 g6.w2
            obtain ⟨t1, t2, t3⟩ := stay g26
            have q6 : SR B ρ s4 G6 σ H6 := q.grow r6.sub g26 r6.hs
            refine ⟨us, t2, by rw [sizeLine_eq]; omega, s4, G6, us ++ [v], ds ++ [yv], q6.side h0 nr t1 own0, ?_, l12.trans g26.le, t1, upd_same, by rw [List.length_append]; show us.length + 1 ≤ i + 1; omega, t3.append (.cons rv .nil), td⟩
            have gg := Gr.trans r q gq g26
            refine ⟨gg.le, fun b o hb n => ?_, gg.new⟩
            rw [upd_ne (fun z => by rw [z, hD0] at hb; cases hb)]
            exact gg.kp b o hb n
    · refine .inl ⟨j1 i (by omega), ?_⟩
      rw [List.drop_eq_nil_of_le (by omega)] at td
      have td : ∀ G' H', SR B ρ s2 G' σ H' → Gr B G H G' H' → ∀ us, G' Dl = none → H' Dl = some (.lst us) → RepL B.X B.hp G' us (ds ++ []) → Q (.ref Dl) H' := td
      rw [List.append_nil] at td
      exact td G2 Hh q gq us hG2 hHD rl
end Dl
-- DL10
namespace Dl
open PySem PySem.Spec PyProof.Rows L2
variable {S : Type} {B : Bs S} {X : Cx} {e e1 e2 tg it : Expr} {es : List Expr} {pos p p2 : Pos} {ρ ρ' : List Slot} {σ σ' : L2.St} {G H G' H' : Hp} {s : S} {x y v : V} {d : D} {z : Str} {id T : String}

/-! ## comprehensions as they are written -/
theorem PTs.imp {es : List Expr} {t t' : TT} (h : PTs X es t) (k : ∀ σ H Q, t' σ H Q → t σ H Q) : PTs X es t' := ⟨fun pins s σ H Q I q => h.run pins s σ H Q I (k σ H Q q)⟩
theorem t_nil : PTs X [] (tQ B yesQ) := PTs.imp pts_nil fun σ H Q ⟨ρ, s, G, q, w⟩ => Wp.pure w q
theorem t_one {t : EvM S Bool} (h : PT X e (tQ B t)) : PTs X [e] (tQ B t) := pts_one h
section
variable {elt : Expr} {ifs : List Expr} {scope : Scope} {own : List (Str × Nat)} {mi : EvM S (List D)} {g : Tg} {is : List Nat} {t : EvM S Bool} {me : EvM S D}
theorem o_lc (hc : X.calm = true) (hN : X.N.Nodup) (hi : PI X tg it (tI B mi)) (ok : BlkOk X.N X.env.scope scope own) (hv : ∀ i ∈ is, i ∈ own.map (·.2))
    (hg : ∀ (s : Shared) (H : Hp) (C : Addr) (cl : List (Str × Addr)) (fp : List Addr), PG (X.blk s H scope (compEnvC scope cl C X.env) fp) tg (tG B.calm g is))
    (ht : ∀ (s : Shared) (H : Hp) (C : Addr) (cl : List (Str × Addr)) (fp : List Addr), PTs (X.blk s H scope (compEnvC scope cl C X.env) fp) ifs (tQ B.calm t))
    (he : ∀ (s : Shared) (H : Hp) (C : Addr) (cl : List (Str × Addr)) (fp : List Addr), PE (X.blk s H scope (compEnvC scope cl C X.env) fp) elt (tE B.calm me))
    (hs : ∀ x, foldedSetIterable it X.env x = pure x := by intro _; rfl) : PE X (.ListComp elt [⟨tg, it, ifs, 0⟩] scope pos) (tO B (lcO mi (own.map (·.2)) g t me)) :=
  PE.imp (pe_lc hc hN hi ok hg ht he hs) fun σ H Q h => lc_go hv h
theorem s_lc {i : Nat} {spos : Pos} (hc : X.calm = true) (hN : X.N.Nodup) (hy : X.N[i]? = some z) (hyl : X.env.scope.names.lookup z = some .local) (hsw : swapsWith (.ListComp elt [⟨tg, it, ifs, 0⟩] scope pos) (some (.Name z p)) spos.line X.env = pure true)
    (hi : PI X tg it (tI B mi)) (ok : BlkOk X.N X.env.scope scope own) (hv : ∀ i ∈ is, i ∈ own.map (·.2))
    (hg : ∀ (s : Shared) (H : Hp) (C : Addr) (cl : List (Str × Addr)) (fp : List Addr), PG (X.blk s H scope (compEnvC scope cl C X.env) fp) tg (tG B.calm g is))
    (ht : ∀ (s : Shared) (H : Hp) (C : Addr) (cl : List (Str × Addr)) (fp : List Addr), PTs (X.blk s H scope (compEnvC scope cl C X.env) fp) ifs (tQ B.calm t))
    (he : ∀ (s : Shared) (H : Hp) (C : Addr) (cl : List (Str × Addr)) (fp : List Addr), PE (X.blk s H scope (compEnvC scope cl C X.env) fp) elt (tE B.calm me))
    (hs : ∀ x, foldedSetIterable it X.env x = pure x := by intro _; rfl) : PS X (.Assign [.Name z p] (.ListComp elt [⟨tg, it, ifs, 0⟩] scope pos) spos) (tS B (asgO i (lcO mi (own.map (·.2)) g t me))) :=
  s_asgO (PS.imp (ps_setLc hc hN hy hyl hsw hi ok hg ht he hs) fun E σ H h => lc_go hv h)
end

/-! ## what a def promises -/
section
variable {P : Program} {w : World} {Γ : Gx} {mg : Str → Option Value} {base : Heap} {k : Nat} {f : Addr} {fd : FuncData} {ps N : List Str}
/-- at its entry -/
abbrev bsOf (Γ : Gx) (hp : Addr) (rg : Rg S) (H G : Hp) (W : WX) : Bs S := { X := Γ, hp := hp, rg := rg, H0 := H, G0 := G, W := W }
/-- what is known and wanted at a call -/
def Ask (Γ : Gx) (hp : Addr) (rg : Rg S) (m : List D → M S D) (n : Nat) (vs : List V) (H : Hp) (Q : VK) (E : XK) : Prop := ∃ ds st G, vs.length = n ∧ SR (bsOf Γ hp rg H G fun _ _ _ _ => False) [] st G [] H ∧ RepL Γ hp G vs ds ∧ match m ds st with
  | .ok d st' => ∀ v G' H', SR (bsOf Γ hp rg H G fun _ _ _ _ => False) [] st' G' [] H' → Rep Γ hp G' v d → Q v H'
  | .exc c fs st' => ∀ G' H', SR (bsOf Γ hp rg H G fun _ _ _ _ => False) [] st' G' [] H' → ∀ cv d, ExR (bsOf Γ hp rg H G fun _ _ _ _ => False) G' H' c fs cv d → E cv d H'
  | .stuck => False
structure FnD (P : Program) (w : World) (Γ : Gx) (mg : Str → Option Value) (base : Heap) (k : Nat) (f : Addr) (fd : FuncData) (ps : List Str) (rg : Addr → Addr → Rg S) (m : List D → M S D) : Prop where
  len : ∀ ds st, m ds st ≠ .stuck → ds.length = ps.length
  run : ∀ (A : Around) (outer : List Env) (s : Shared) (H : Hp) (args : Args) (us : List Value) (vs : List V) (Q : VK) (E : XK) (hp hc : Addr), A.guards = some [] → Room k A → Env0 P w Γ.K mg base A outer s H → BindsTo s fd args (ps.zip us) → Vals vs us →
    Ask Γ hp (rg hp hc) m ps.length vs H Q E → codeAny (model P w) A (.call (.ref f) args) (CR (L2.CX P w) outer P w H s Q E) s
theorem FnD.mono {rg : Addr → Addr → Rg S} {m : List D → M S D} {j : Nat} (F : FnD P w Γ mg base j f fd ps rg m) (h : j ≤ k) : FnD P w Γ mg base k f fd ps rg m :=
  ⟨F.len, fun A outer s H args us vs Q E hp hc hg hr => F.run A outer s H args us vs Q E hp hc hg (hr.mono h)⟩

theorem start_get {vs : List V} {n : Nat} {N : List Str} (h : vs.length ≤ N.length) (i : Nat) : (L2.start N vs)[i]? = if i < vs.length then (vs[i]?).map some else if i < N.length then some none else none := by
  unfold L2.start
  by_cases q : i < vs.length
  · rw [if_pos q, List.getElem?_append_left (by simpa using q), List.getElem?_map]
  · rw [if_neg q, List.getElem?_append_right (by simpa using q), List.getElem?_replicate, List.length_map]
    by_cases q2 : i < N.length
    · rw [if_pos q2, if_pos (by omega)]
    · rw [if_neg q2, if_neg (by omega)]
theorem SR.start {hp : Addr} {rg : Rg S} {W : WX} {st : S} {vs : List V} {ds : List D} {N : List Str} (r : SR (bsOf Γ hp rg H G fun _ _ _ _ => False) [] st G [] H) (l : RepL Γ hp G vs ds) (h : vs.length ≤ N.length) :
    SR (bsOf Γ hp rg H G W) (ds.map Slot.val ++ List.replicate (N.length - ds.length) Slot.emp) st G (L2.start N vs) H := by
  have n := l.length
  refine ⟨r.sub, r.g0, r.gn, r.kept, r.rgn, r.hs, ?_, fun i q e => ?_, fun i j a xs ys e1 => ?_⟩
  · unfold L2.start
    simp only [List.length_append, List.length_map, List.length_replicate]
    omega
  · rw [start_get (n := 0) h]
    by_cases hi : i < ds.length
    · rw [List.getElem?_append_left (by simpa using hi), List.getElem?_map] at e
      obtain ⟨d, e1, rfl⟩ := Option.map_eq_some_iff.mp e
      obtain ⟨v, e2, rv⟩ := l.get e1
      rw [if_pos (by omega), e2]
      exact ⟨v, rfl, rv⟩
    · rw [List.getElem?_append_right (by simpa using hi), List.getElem?_replicate] at e
      split at e
      · cases e; exact trivial
      · cases e
  · by_cases hi : i < ds.length
    · rw [List.getElem?_append_left (by simpa using hi), List.getElem?_map] at e1
      obtain ⟨d, _, z⟩ := Option.map_eq_some_iff.mp e1
      cases z
    · rw [List.getElem?_append_right (by simpa using hi), List.getElem?_replicate] at e1
      split at e1 <;> cases e1
theorem SR.drop {hp : Addr} {rg : Rg S} {W : WX} {st : S} (r : SR (bsOf Γ hp rg H G W) ρ st G' σ H') : SR (bsOf Γ hp rg H G fun _ _ _ _ => False) [] st G' [] H' :=
  ⟨r.sub, r.g0, r.gn, r.kept, r.rgn, r.hs, rfl, fun i q e => by simp at e, fun i j a xs ys e => by simp at e⟩

/-- A DEF by its body: the body's rules for each entry -/
theorem fnD_of {rg : Addr → Addr → Rg S} {nm qual : Str} {params : Arguments} {body : List Stmt} {scope : Scope} {dvs : List V} {kws : List (Str × V)} (F : FunD Γ.K nm qual params body scope dvs kws f fd) (Sc : FnScope N ps scope) {b : SM S}
    (hb : ∀ (cdv : Value) (A : Around) (outer : List Env) (s : Shared) (H G : Hp) (E : XK) (hp hc : Addr), (A.deeper (envOfC qual scope s.heap.objs.size f cdv)).guards = some [] → Room k (A.deeper (envOfC qual scope s.heap.objs.size f cdv)) →
      PSs (cxOf (L2.CX P w) P w Γ.K mg base N qual scope f cdv A outer s H E) body (tS (bsOf Γ hp (rg hp hc) H G fun cv d _ H' => E cv d H') b)) : FnD P w Γ mg base (k + 1) f fd ps rg (defM N.length ps.length b) := by
  obtain ⟨oc, od, dV, kV, doc, pm, an, cdv, ct, osl, rfl, lk, hcd, _, _⟩ := F.ex
  refine ⟨fun ds st h => ?_, fun A outer s H args us vs Q E hp hc hgu hr e0 hbd rv ask => ?_⟩
  · unfold defM at h
    by_cases q : ds.length = ps.length
    · exact q
    · rw [if_neg q] at h; exact absurd rfl h
  obtain ⟨ds, st, G, hl, r0, rl, ask⟩ := ask
  have here : Γ.K.In s.heap := e0.mod.kin.keeps fun b o e => (e0.bs b o e).1
  have far : s.heap.NoLimit := e0.mod.nolimit.keeps fun b o e => (e0.bs b o e).1
  have pn : ps.length ≤ N.length := by
    have := congrArg List.length Sc.pre
    rw [List.length_take] at this
    omega
  have kinds : ∀ y ∈ ps.zip us, scope.names.lookup y.1 = some .local ∨ (scope.names.lookup y.1 = some .cell ∧ ((cellsFrom (s.heap.objs.size + 1) scope.names []).lookup y.1).isSome = true) := fun ⟨n, v⟩ hy => by
    rcases Sc.par n (List.of_mem_zip hy).1 with q | q
    · exact .inl q
    · exact .inr ⟨q, PySem.W.cellsFrom_some _ _ _ (.inl q)⟩
  refine codeAny_call_function hr.depth (here _ _ lk) rfl Sc.co Sc.gen rfl (PySem.W.codeRec_of here hcd) (hbd _ _ _ _ ?_)
  refine wpAny_newFunctionEnv_cells Sc.kind kinds fun env he s1 made => ?_
  subst he
  refine ⟨far.keeps made.toInCall.keep, codeAny_func ?_⟩
  have body := hb cdv A outer s H G E hp hc (by show A.guards = some []; exact hgu) (hr.deeper _)
  have I : Inv (cxOf (L2.CX P w) P w Γ.K mg base N qual scope f cdv A outer s H E) [] (L2.start N vs) H s1 := inv_start Sc hr.hd e0 hl rv made
  have n := rl.length
  have want : tS (bsOf Γ hp (rg hp hc) H G fun cv d _ H' => E cv d H') b { nx := fun _ H' => Q .non H', rt := Q } (L2.start N vs) H := by
    refine ⟨_, st, G, SR.start r0 rl (by omega), ?_⟩
    unfold defM at ask
    rw [if_pos (show ds.length = ps.length by omega)] at ask
    have en : N.length - ds.length = N.length - ps.length := by omega
    rw [en]
    cases q : b (ds.map Slot.val ++ List.replicate (N.length - ps.length) Slot.emp) st with
    | nx ρ1 s2 => rw [q] at ask; exact fun σ' G' H' r' _ => ask .non G' H' r'.drop rfl
    | bk ρ1 s2 => rw [q] at ask; exact ask.elim
    | ct ρ1 s2 => rw [q] at ask; exact ask.elim
    | ret d s2 => rw [q] at ask; exact fun v σ' ρ' G' H' r' _ rv => ask v G' H' r'.drop rv
    | exc c fs ρ1 s2 => rw [q] at ask; exact fun σ' G' H' r' _ cv d ex => ask G' H' r'.drop cv d ex
    | stuck => rw [q] at ask; exact ask.elim
  refine wpAny_mono (body.run [] s1 (L2.start N vs) H _ I want) (fun fl s' hs => ?_) fun e s' hs => hs
  have fin : ∀ {σ2 : L2.St} {H2 : Hp} {v : V} {u : Value}, Inv (cxOf (L2.CX P w) P w Γ.K mg base N qual scope f cdv A outer s H E) [] σ2 H2 s' → RelV v u → Q v H2 → CE outer P w H s Q u s' :=
    fun {σ2 H2 v u} J ru q => ⟨v, H2, J.os, J.bare, J.base, J.hok, ru, q⟩
  cases fl with
  | next =>
    obtain ⟨σ2, H2, J, q⟩ := hs
    exact fin (v := V.non) (u := Value.none) J rfl q
  | ret u =>
    obtain ⟨v, σ2, H2, J, ru, q⟩ := hs
    exact fin J ru q
  | brk => obtain ⟨_, _, _, q⟩ := hs; exact q.elim
  | cont => obtain ⟨_, _, _, q⟩ := hs; exact q.elim
/-- another promise that says the same -/
theorem FnD.eq {rg : Addr → Addr → Rg S} {m m' : List D → M S D} (F : FnD P w Γ mg base k f fd ps rg m) (h : m = m') : FnD P w Γ mg base k f fd ps rg m' := h ▸ F
end

/-! ## calls -/
section
variable {k : Nat} {f : Addr} {fd : FuncData} {ps ks : List Str} {st : S} {G H : Hp}
/-- behind a call of a def that knows nothing of the region -/
theorem SR.backP (r : SR B ρ st G σ H) {W : WX} {G' H' : Hp} (r' : SR (bsOf B.X B.hp rgNone H G W) [] () G' [] H') : SR B ρ st G' σ H' ∧ Gr B G H G' H' := by
  have g : Gr B G H G' H' := ⟨r'.g0, fun a o h _ => r'.kept a o h (fun z => z), r'.gn⟩
  refine ⟨r.grow r'.sub g (B.rg.frame st H H' r.hs fun a q => ?_), g⟩
  obtain ⟨o, e⟩ := B.rg.there st H a r.hs q
  rw [e]
  exact r'.kept a o e (fun z => z)
theorem SR.backS (r : SR B ρ st G σ H) {W : WX} {st' : S} {G' H' : Hp} (r' : SR (bsOf B.X B.hp B.rg H G W) [] st' G' [] H') : SR B ρ st' G' σ H' ∧ Gr B G H G' H' := by
  have g : Gr B G H G' H' := ⟨r'.g0, r'.kept, r'.gn⟩
  exact ⟨r.grow r'.sub g r'.hs, g⟩
theorem SR.intoP (r : SR B ρ st G σ H) : SR (bsOf B.X B.hp rgNone H G fun _ _ _ _ => False) [] () G [] H :=
  ⟨r.sub, .refl _, fun a o h => .inl h, fun a o h _ => h, fun a h => h.elim, trivial, rfl, fun i q e => by simp at e, fun i j a xs ys e => by simp at e⟩
theorem SR.intoS (r : SR B ρ st G σ H) : SR (bsOf B.X B.hp B.rg H G fun _ _ _ _ => False) [] st G [] H :=
  ⟨r.sub, .refl _, fun a o h => .inl h, fun a o h _ => h, r.rgn, r.hs, rfl, fun i q e => by simp at e, fun i j a xs ys e => by simp at e⟩
/-- what a call asks, from what is known and wanted here -/
theorem askP {m : List D → M Unit D} {n : Nat} {ds : List D} {vs : List V} {Q : VK} (hl : ∀ ds st, m ds st ≠ .stuck → ds.length = n) (r : SR B ρ st G σ H) (rl : RepL B.X B.hp G vs ds) (w : Wp B ρ σ (lift (m ds)) st G H fun d _ G' H' => ∀ v, Rep B.X B.hp G' v d → Q v H') :
    Ask B.X B.hp rgNone m n vs H Q (fun cv d H' => B.W cv d σ H') := by
  unfold Wp lift at w
  refine ⟨ds, (), G, ?_, r.intoP, rl, ?_⟩
  · rw [rl.length]
    refine hl ds () fun z => ?_
    rw [z] at w; exact w
  · cases q : m ds () with
    | ok d s1 =>
      rw [q] at w
      intro v G' H' r' rv
      obtain ⟨a, b⟩ := r.backP r'
      exact w G' H' a b v rv
    | exc c fs s1 =>
      rw [q] at w
      intro G' H' r' cv d ex
      obtain ⟨a, b⟩ := r.backP r'
      exact w G' H' a b cv d ex
    | stuck => rw [q] at w; exact w
theorem askS {m : List D → M S D} {n : Nat} {ds : List D} {vs : List V} {Q : VK} (hl : ∀ ds st, m ds st ≠ .stuck → ds.length = n) (r : SR B ρ st G σ H) (rl : RepL B.X B.hp G vs ds) (w : Wp B ρ σ (m ds) st G H fun d _ G' H' => ∀ v, Rep B.X B.hp G' v d → Q v H') :
    Ask B.X B.hp B.rg m n vs H Q (fun cv d H' => B.W cv d σ H') := by
  unfold Wp at w
  refine ⟨ds, st, G, ?_, r.intoS, rl, ?_⟩
  · rw [rl.length]
    refine hl ds st fun z => ?_
    rw [z] at w; exact w
  · cases q : m ds st with
    | ok d s1 =>
      rw [q] at w
      intro v G' H' r' rv
      obtain ⟨a, b⟩ := r.backS r'
      exact w G' H' a b v rv
    | exc c fs s1 =>
      rw [q] at w
      intro G' H' r' cv d ex
      obtain ⟨a, b⟩ := r.backS r'
      exact w G' H' a b cv d ex
    | stuck => rw [q] at w; exact w
/-- the callee runs -/
theorem run_D {T : Type} {rg : Addr → Addr → Rg T} {m : List D → M T D} {pins : List (Addr × Obj)} {s : Shared} {us : List Value} {vs : List V} {Q : VK} {args : Args} {hc : Addr} (F : FnD X.prog X.w B.X X.mg X.base k f fd ps rg m) (hgu : X.A.guards = some []) (hr : Room k X.A) (tk : Takes X B.W)
    (I : Inv X pins σ H s) (rv : Vals vs us) (hb : BindsTo s fd args (ps.zip us)) (ask : Ask B.X B.hp (rg B.hp hc) m ps.length vs H Q (fun cv d H' => B.W cv d σ H')) (hK : X.K = B.X.K) : wpAny (model X.prog X.w) X.A (call (.ref f) args.pos args.kw) (EP X pins σ Q) X.xe s := by
  refine wpAny_call (codeAny_mono (F.run X.A X.stack s H args us vs Q (fun cv d H' => B.W cv d σ H') B.hp hc hgu hr (by rw [← hK]; exact I.env0) hb rv ask) fun r s' hq => ?_)
  cases r with
  | error e => exact passAt tk σ pins H s e s' I hq
  | ok fl =>
    cases fl with
    | ret u => exact I.after hq
    | next => exact hq.elim
    | brk => exact hq.elim
    | cont => exact hq.elim
/-- f(..) of values that are had -/
def rArgs (B : Bs S) (ρ : List Slot) (σ : L2.St) (post : List D → S → Hp → Hp → Prop) (vs : List V) (H1 : Hp) : Prop := ∃ ds s1 G1, SR B ρ s1 G1 σ H1 ∧ RepL B.X B.hp G1 vs ds ∧ post ds s1 G1 H1
theorem e_callP {m : List D → M Unit D} {n : EvM S (List D)} (F : FnD X.prog X.w B.X X.mg X.base k f fd ps (fun _ _ => rgNone) m) (hgu : X.A.guards = some []) (hr : Room k X.A) (hg : Gl X z) (hm : X.mg z = some (.ref f)) (hk : PySem.W.keepIn X.K (.ref f) = true) (hb : Binds X.K fd ps [])
    (tk : Takes X B.W) (ha : PA X (e :: es) (tAs B n)) (hK : X.K = B.X.K := by rfl) (hdb : (z == ("__debug__" : Str)) = false := by decide) (he : starEach (e :: es) X.env = (false, eval e X.env) :: starEach es X.env := by rfl) (hpl : (backTo pos (starEach es X.env)).any (·.1) = false := by rfl) :
    PE X (.Call (.Name z p) (e :: es) [] pos) (tE B (callE (fun ds => lift (m ds)) n)) := by
  refine ⟨fun pins s σ H Q I ⟨ρ, st, G, r, w⟩ => ?_⟩
  unfold callE at w
  refine wpAny_Call_Name_kw (ld_glob I hg hm ?_ hdb)
  refine PySem.W.callWith_K (h₀ := X.base) I.ok.mod.kin hk (thn (ha.run pos pins s σ H (rArgs B ρ σ fun ds s1 G1 H1 => Wp B ρ σ (lift (m ds)) s1 G1 H1 fun d _ G' H' => ∀ v, Rep B.X B.hp G' v d → Q v H') I
    ⟨ρ, st, G, r, (w.bind r).imp fun ds s1 G1 H1 r1 g1 w1 vs rs => ⟨ds, s1, G1, r1, rs, w1⟩⟩) fun us s1 ⟨vs, H1, I1, rv, ds, st1, G1, r1, rs, w1⟩ => ⟨I1.kIn, ?_⟩) he hpl
  have ask := askP F.len r1 rs w1
  have hl : us.length = ps.length := by rw [← rv.length]; obtain ⟨_, _, _, q, _⟩ := ask; exact q
  have b := hb s1 us I1.kIn (by rw [List.append_nil]; exact hl)
  rw [List.append_nil] at b
  exact run_D (args := ⟨us, []⟩) (hc := 0) F hgu hr tk I1 rv b ask hK
theorem e_callS {rg : Addr → Addr → Rg S} {hc : Addr} {m : List D → M S D} {n : EvM S (List D)} (F : FnD X.prog X.w B.X X.mg X.base k f fd ps rg m) (hrg : B.rg = rg B.hp hc) (hgu : X.A.guards = some []) (hr : Room k X.A) (hg : Gl X z) (hm : X.mg z = some (.ref f)) (hk : PySem.W.keepIn X.K (.ref f) = true) (hb : Binds X.K fd ps [])
    (tk : Takes X B.W) (ha : PA X (e :: es) (tAs B n)) (hK : X.K = B.X.K := by rfl) (hdb : (z == ("__debug__" : Str)) = false := by decide) (he : starEach (e :: es) X.env = (false, eval e X.env) :: starEach es X.env := by rfl) (hpl : (backTo pos (starEach es X.env)).any (·.1) = false := by rfl) :
    PE X (.Call (.Name z p) (e :: es) [] pos) (tE B (callE m n)) := by
  refine ⟨fun pins s σ H Q I ⟨ρ, st, G, r, w⟩ => ?_⟩
  unfold callE at w
  refine wpAny_Call_Name_kw (ld_glob I hg hm ?_ hdb)
  refine PySem.W.callWith_K (h₀ := X.base) I.ok.mod.kin hk (thn (ha.run pos pins s σ H (rArgs B ρ σ fun ds s1 G1 H1 => Wp B ρ σ (m ds) s1 G1 H1 fun d _ G' H' => ∀ v, Rep B.X B.hp G' v d → Q v H') I
    ⟨ρ, st, G, r, (w.bind r).imp fun ds s1 G1 H1 r1 g1 w1 vs rs => ⟨ds, s1, G1, r1, rs, w1⟩⟩) fun us s1 ⟨vs, H1, I1, rv, ds, st1, G1, r1, rs, w1⟩ => ⟨I1.kIn, ?_⟩) he hpl
  have ask := askS F.len r1 rs w1
  have hl : us.length = ps.length := by rw [← rv.length]; obtain ⟨_, _, _, q, _⟩ := ask; exact q
  have b := hb s1 us I1.kIn (by rw [List.append_nil]; exact hl)
  rw [List.append_nil] at b
  rw [hrg] at ask
  exact run_D (args := ⟨us, []⟩) (hc := hc) F hgu hr tk I1 rv b ask hK
/-! by keywords -/
theorem PK.imp {kws : List Keyword} {t t' : TA} (h : PK X kws t) (k : ∀ σ H Q, t' σ H Q → t σ H Q) : PK X kws t' := ⟨fun pos pins s σ H Q I q => h.run pos pins s σ H Q I (k σ H Q q)⟩
def tAsN (B : Bs S) (j : Nat) (m : EvM S (List D)) : TA := fun σ H Q => ∃ ρ s G, SR B ρ s G σ H ∧ Wp B ρ σ (m ρ) s G H fun ds _ G' H' => ∀ vs, vs.length = j → RepL B.X B.hp G' vs ds → Q vs H'
theorem k_nil : PK X [] (tAsN B 0 argNil) := PK.imp pk_nil fun σ H Q ⟨ρ, s, G, q, w⟩ => Wp.pure w q [] rfl rfl
theorem k_cons {j : Nat} {nm : Option Str} {kpos : Pos} {kws : List Keyword} {m : EvM S D} {n : EvM S (List D)} (ha : PE X e (tE B m)) (hr : PK X kws (tAsN B j n)) : PK X (⟨nm, e, kpos⟩ :: kws) (tAsN B (j + 1) (argCons m n)) :=
  PK.imp (pk_cons ha hr) fun σ H Q ⟨ρ, s, G, q, w⟩ => by
    unfold argCons at w
    exact ⟨ρ, s, G, q, (w.bind q).imp fun a s1 G1 H1 q1 g1 w1 v rv => ⟨ρ, s1, G1, q1, (w1.bind q1).imp fun b s2 G2 H2 q2 g2 w2 vs hl rs => Wp.pure w2 q2 (v :: vs) (by rw [List.length_cons, hl]) (.cons (rv.mono g2.le) rs)⟩⟩
theorem RepL.pick {G : Hp} {vs : List V} {ds : List D} (h : RepL B.X B.hp G vs ds) : ∀ is : List Nat, RepL B.X B.hp G (Dl.pick is vs) (Dl.pick is ds)
  | [] => .nil
  | i :: is => by
    have ih := RepL.pick h is
    unfold Dl.pick at ih ⊢
    rw [List.filterMap_cons, List.filterMap_cons]
    cases q : ds[i]? with
    | none =>
      have : vs[i]? = none := by
        rw [List.getElem?_eq_none_iff] at q ⊢
        rw [h.length]; exact q
      rw [this]; exact ih
    | some d =>
      obtain ⟨v, e1, e2⟩ := h.get q
      rw [e1]
      exact .cons e2 ih
theorem Vals.pick {vs : List V} {us : List Value} (h : Vals vs us) : ∀ is : List Nat, Vals (Dl.pick is vs) (Dl.pick is us)
  | [] => .nil
  | i :: is => by
    have ih := Vals.pick h is
    unfold Dl.pick at ih ⊢
    rw [List.filterMap_cons, List.filterMap_cons]
    cases q : vs[i]? with
    | none => rw [h.none_of q]; exact ih
    | some d =>
      obtain ⟨v, e1, e2⟩ := h.get q
      rw [e1]
      exact .cons e2 ih
/-- how a call by keywords binds: n positional values, the keywords ks; is: where each parameter's value is -/
def BindK (K : PySem.W.Frag) (fd : FuncData) (ps ks : List Str) (n : Nat) (is : List Nat) : Prop := ∀ (s : Shared) (us ws : List Value), K.In s.heap → us.length = n → ws.length = ks.length → BindsTo s fd ⟨us, ks.zip ws⟩ (ps.zip (pick is (us ++ ws)))
/-- f(k = v, ..) -/
theorem e_kwP {m : List D → M Unit D} {n : EvM S (List D)} {kw : Keyword} {kws : List Keyword} {is : List Nat} (F : FnD X.prog X.w B.X X.mg X.base k f fd ps (fun _ _ => rgNone) m) (hgu : X.A.guards = some []) (hr : Room k X.A) (hg : Gl X z) (hm : X.mg z = some (.ref f)) (hk : PySem.W.keepIn X.K (.ref f) = true) (hb : BindK X.K fd ps ks 0 is)
    (tk : Takes X B.W) (ha : PK X (kw :: kws) (tAsN B ks.length n)) (hK : X.K = B.X.K := by rfl) (hall : (backToKw pos (keywordEach (kw :: kws) X.env)).all (·.1.isSome) = true := by rfl) (hks : (backToKw pos (keywordEach (kw :: kws) X.env)).filterMap (·.1) = ks := by rfl) (hlen : (backToKw pos (keywordEach (kw :: kws) X.env)).length = ks.length := by rfl)
    (hdb : (z == ("__debug__" : Str)) = false := by decide) (hpl : ((backTo pos (starEach [] X.env)).any (·.1) || (backToKw pos (keywordEach (kw :: kws) X.env)).any (·.1.isNone)) = false := by rfl) :
    PE X (.Call (.Name z p) [] (kw :: kws) pos) (tE B (callE (fun ds => lift (m ds)) (permE is n))) := by
  refine ⟨fun pins s σ H Q I ⟨ρ, st, G, r, w⟩ => ?_⟩
  unfold callE permE at w
  refine wpAny_Call_Name_kw (ld_glob I hg hm ?_ hdb)
  refine PySem.W.callWith_KW0 (h₀ := X.base) I.ok.mod.kin hk hall (thn (ha.run pos pins s σ H (rArgs B ρ σ fun ds s1 G1 H1 => ds.length = ks.length ∧ Wp B ρ σ (lift (m (Dl.pick is ds))) s1 G1 H1 fun d _ G' H' => ∀ v, Rep B.X B.hp G' v d → Q v H') I
    ⟨ρ, st, G, r, ((w.bind r).bind r).imp fun ds s1 G1 H1 r1 g1 w1 vs hl rs => ⟨ds, s1, G1, r1, rs, by rw [← rs.length]; exact hl, Wp.pure w1 r1⟩⟩) fun us s1 ⟨vs, H1, I1, rv, ds, st1, G1, r1, rs, hl, w1⟩ => ⟨I1.kIn, ?_⟩) hpl
  have ask := askP F.len r1 (rs.pick is) w1
  have b := hb s1 [] us I1.kIn rfl (by rw [← rv.length, rs.length]; exact hl)
  rw [hks]
  exact run_D (args := ⟨[], ks.zip us⟩) (hc := 0) F hgu hr tk I1 (Vals.pick rv is) b ask hK
end
end Dl
-- DL11
namespace Dl
open PySem PySem.Spec PyProof.Rows L2
/-! ## the drawn numbers: a list of a list and an int -/
def rgD (hp hc : Addr) : Rg DS where
  reg a := a = hp ∨ a = hc
  hs s H := hp ≠ hc ∧ H hp = some (.lst [.ref hc, .int s.2]) ∧ H hc = some (.lst (s.1.map V.int))
  there s H a h r := by
    rcases r with rfl | rfl
    · exact ⟨_, h.2.1⟩
    · exact ⟨_, h.2.2⟩
  frame s H H' h k := ⟨h.1, by rw [k _ (.inl rfl)]; exact h.2.1, by rw [k _ (.inr rfl)]; exact h.2.2⟩
variable {B : Bs DS} {X : Cx} {e e1 e2 tg it : Expr} {es : List Expr} {pos p p2 : Pos} {ρ ρ' : List Slot} {σ : L2.St} {G H G' H' : Hp} {s s' : DS} {x y v : V} {d : D} {z : Str} {id T : String} {hc : Addr}
theorem SR.reg (r : SR B ρ s G σ H) {a : Addr} {o : HO} (ha : B.rg.reg a) (h : B.rg.hs s' (upd H a o)) : SR B ρ s' G σ (upd H a o) ∧ Gr B G H G (upd H a o) := by
  have g : Gr B G H G (upd H a o) := ⟨.refl _, fun b u e n => by rw [upd_ne (fun z => n (by rw [z]; exact ha))]; exact e, fun b u e => .inl e⟩
  exact ⟨r.grow (fun b u e => by rw [upd_ne (fun z => by rw [z, r.rgn a ha] at e; cases e)]; exact r.sub b u e) g h, g⟩
theorem SR.cells {B : Bs DS} (hrg : B.rg = rgD B.hp hc) (r : SR B ρ s G σ H) {z : DS} {xs : List Int} (hz : z = (xs, s.2)) : SR B ρ z G σ (upd H hc (.lst (xs.map V.int))) ∧ Gr B G H G (upd H hc (.lst (xs.map V.int))) := by
  subst hz
  have h := r.hs
  rw [hrg] at h
  refine r.reg (by rw [hrg]; exact .inr rfl) ?_
  rw [hrg]
  exact ⟨h.1, by rw [upd_ne h.1]; exact h.2.1, upd_same⟩
theorem SR.stir {B : Bs DS} (hrg : B.rg = rgD B.hp hc) (r : SR B ρ s G σ H) {z : DS} {n : Int} (hz : z = (s.1, n)) : SR B ρ z G σ (upd H B.hp (.lst [.ref hc, .int n])) ∧ Gr B G H G (upd H B.hp (.lst [.ref hc, .int n])) := by
  subst hz
  have h := r.hs
  rw [hrg] at h
  refine r.reg (by rw [hrg]; exact .inl rfl) ?_
  rw [hrg]
  exact ⟨h.1, upd_same, by rw [upd_ne h.1.symm]; exact h.2.2⟩
theorem SR.hpAt {i : Nat} (hrg : B.rg = rgD B.hp hc) (r : SR B ρ s G σ H) (h : Dl.hpAt ρ i = true) : σ[i]? = some (some (.ref B.hp)) ∧ B.hp ≠ hc ∧ H B.hp = some (.lst [.ref hc, .int s.2]) ∧ H hc = some (.lst (s.1.map V.int)) := by
  have q := r.hs
  rw [hrg] at q
  refine ⟨?_, q⟩
  unfold Dl.hpAt at h
  split at h
  · rename_i e
    obtain ⟨v, e1, e2⟩ := r.sl i _ e
    rw [e1, show v = .ref B.hp from e2]
  · cases h
/-- where heap[0] is -/
theorem at0 {K : PySem.W.Frag} {i : Nat} {Q : VK} (h1 : σ[i]? = some (some (.ref B.hp))) (h2 : H B.hp = some (.lst [.ref hc, .int s.2])) (q : Q (.ref hc) H) : tOp (rIx K) (tVar i) (tC (.int 0)) σ H Q :=
  ⟨_, h1, .inl ⟨_, _, 0, _, rfl, rfl, .inl (.inl h2), rfl, q⟩⟩
abbrev H0e (X : Cx) (e : Expr) (i : Nat) : Prop := PE X e (tOp (rIx X.K) (tVar i) (tC (.int 0)))
theorem h0 {i j : Nat} {xv : Expr} (h : PE X xv (tVar i)) : H0e X (.Subscript xv (.Constant (.int 0) j p) p2) i := pe_ix ix_seq h pe_int (fun _ _ => rfl)
theorem e_h1 {i j : Nat} {xv : Expr} (hrg : B.rg = rgD B.hp hc) (h : PE X xv (tVar i)) : PE X (.Subscript xv (.Constant (.int 1) j p) p2) (tE B (hSt i)) := PE.imp (pe_ix ix_seq h pe_int (fun _ _ => rfl)) fun σ H Q ⟨ρ, s, G, r, w⟩ => by
  unfold hSt at w
  by_cases q : hpAt ρ i = true
  · obtain ⟨h1, _, h2, h3⟩ := r.hpAt hrg q
    unfold Wp at w
    dsimp only at w
    rw [if_pos q] at w
    exact ⟨_, h1, .inl ⟨_, _, 1, _, rfl, rfl, .inl (.inl h2), rfl, w G H r .refl _ rfl⟩⟩
  · unfold Wp at w
    dsimp only at w
    rw [if_neg q] at w
    exact w.elim
theorem e_hLast {i j : Nat} {p3 : Pos} (hrg : B.rg = rgD B.hp hc) (h : H0e X e i) : PE X (.Subscript e (.UnaryOp .USub (.Constant (.int 1) j p) p2) p3) (tE B (hLast i)) := PE.imp (pe_ix ix_seq h (pe_un un_neg pe_int) (fun _ _ => rfl)) fun σ H Q ⟨ρ, s, G, r, w⟩ => by
  unfold hLast at w
  unfold Wp at w
  dsimp only at w
  by_cases q : hpAt ρ i = true
  · obtain ⟨h1, _, h2, h3⟩ := r.hpAt hrg q
    rw [if_pos q] at w
    cases e : s.1[s.1.length - 1]? with
    | none => simp only [e] at w
    | some k =>
      simp only [e] at w
      refine at0 (s := s) h1 h2 ⟨1, rfl, .inl ⟨hc, s.1.map V.int, -1, .int k, rfl, rfl, .inl (.inl h3), ?_, w G H r .refl _ rfl⟩⟩
      have hl : 0 < s.1.length := by
        cases h : s.1 with
        | nil => rw [h] at e; simp at e
        | cons a b => simp
      unfold atI ixN
      rw [List.length_map, if_neg (by omega), if_pos (by omega)]
      show (s.1.map V.int)[((-1 : Int) + s.1.length).toNat]? = _
      rw [show ((-1 : Int) + s.1.length).toNat = s.1.length - 1 by omega, List.getElem?_map, e]
      rfl
  · rw [if_neg q] at w
    exact w.elim
theorem intsRep (xs : List Int) : RepL B.X B.hp G (xs.map V.int) (xs.map D.int) := by
  induction xs with
  | nil => exact .nil
  | cons a r ih => exact .cons rfl ih
theorem q_hNe {i : Nat} (hrg : B.rg = rgD B.hp hc) (hu : X.A.units + 66 < cLine) (h : H0e X e i) (hK : X.K = B.X.K := by rfl) : PT X (.Compare e [.NotEq] [.List [] p] p2) (tQ B (hNe i)) := PT.imp (pt_cmpR (op_neD (by omega)) h (pe_lst pa_nil) rfl) fun σ H Q ⟨ρ, s, G, r, w⟩ => by
  rw [hK]
  unfold hNe at w
  unfold Wp at w
  dsimp only at w
  by_cases q : hpAt ρ i = true
  · obtain ⟨h1, _, h2, h3⟩ := r.hpAt hrg q
    rw [if_pos q] at w
    refine at0 (s := s) h1 h2 ⟨by simp, fun a ha => ?_⟩
    obtain ⟨r', g'⟩ := r.alloc0 (o := .lst []) ha
    have k : ∀ xs : List Int, okL 59 (xs.map D.int) = true := fun xs => by
      induction xs with
      | nil => simp [okL]
      | cons a b ih => simp [okL, okD, ih]
    refine ⟨.list (toPyL (s.1.map D.int)), .list [], .lst (.inl (.inl ?_)) (dp_repL (B := B) (Le.upd ha) 59 (s.1.map D.int) (s.1.map V.int) (RepL.mono r.sub _ _ (intsRep s.1)) (k s.1)), .lst (.inl (.inl upd_same)) .nil, ?_, rfl, ?_⟩
    · rw [upd_ne (fun z => by rw [z, ha] at h3; cases h3)]; exact h3
    · have := pl_shaped (d := .lst (s.1.map D.int)) (by show okD 60 _ = true; rw [okD]; exact k _)
      simpa [toPy] using this
    · refine ⟨_, rfl, ?_⟩
      have e : (!PyData.eqv (.list (toPyL (s.1.map D.int))) (.list [])) = !s.1.isEmpty := by
        cases s.1 with
        | nil => rfl
        | cons a b => rfl
      rw [e]
      exact w _ _ r' g'
  · rw [if_neg q] at w
    exact w.elim
theorem dl_map (xs : List Int) : (xs.map V.int).dropLast = xs.dropLast.map V.int := by rw [List.dropLast_eq_take, List.dropLast_eq_take, List.length_map, List.map_take]
theorem hPop_core {i : Nat} (hrg : B.rg = rgD B.hp hc) (r : SR B ρ s G σ H) (q : Dl.hpAt ρ i = true) {k : Int} (e : s.1[s.1.length - 1]? = some k) {Q : VK} (w : SR B ρ (s.1.dropLast, s.2) G σ (upd H hc (.lst (s.1.dropLast.map V.int))) → Q (.int k) (upd H hc (.lst (s.1.dropLast.map V.int)))) :
    tBM0 X.K "list" rPop (tOp (rIx X.K) (tVar i) (tC (.int 0))) σ H Q := by
  obtain ⟨h1, _, h2, h3⟩ := r.hpAt hrg q
  refine at0 (s := s) h1 h2 ⟨.inl ⟨rfl, _, .inl (.inl h3)⟩, hc, s.1.map V.int, .int k, rfl, rfl, h3, ?_, ?_⟩
  · rw [List.length_map, List.getElem?_map, e]; rfl
  · rw [dl_map]
    exact w (r.cells hrg rfl).1
theorem s_hPopN {i : Nat} {f : Expr} (hrg : B.rg = rgD B.hp hc) (h : PS X (.Expr f pos) (tDrop (tBM0 X.K "list" rPop (tOp (rIx X.K) (tVar i) (tC (.int 0)))))) : PS X (.Expr f pos) (tS B (hPopN i)) := PS.imp h fun E σ H ⟨ρ, s, G, r, w⟩ => by
  unfold hPopN at w
  by_cases q : hpAt ρ i = true
  · rw [if_pos q] at w
    cases e : s.1[s.1.length - 1]? with
    | none => rw [e] at w; exact w.elim
    | some k =>
      rw [e] at w
      exact hPop_core hrg r q e fun r' => w _ _ _ r' (.refl _)
  · rw [if_neg q] at w; exact w.elim
theorem s_hPop {i j : Nat} (hrg : B.rg = rgD B.hp hc) (h : PS X (.Assign [tg] e pos) (tAsg (tBM0 X.K "list" rPop (tOp (rIx X.K) (tVar i) (tC (.int 0)))) (gName j))) : PS X (.Assign [tg] e pos) (tS B (hPop i j)) := PS.imp h fun E σ H ⟨ρ, s, G, r, w⟩ => by
  unfold hPop at w
  by_cases q : hpAt ρ i = true
  · rw [if_pos q] at w
    cases e : s.1[s.1.length - 1]? with
    | none => rw [e] at w; exact w.elim
    | some k =>
      rw [e] at w
      exact hPop_core hrg r q e fun r' => w _ _ _ (r'.putV (d := .int k) rfl) (.refl _)
  · rw [if_neg q] at w; exact w.elim
theorem s_hApp {i : Nat} {m : EvM DS D} {f : Expr} (hrg : B.rg = rgD B.hp hc) (h : PS X (.Expr f pos) (tDrop (tBM X.K "list" rAppend (tOp (rIx X.K) (tVar i) (tC (.int 0))) (tCons (tE B m) tNil)))) : PS X (.Expr f pos) (tS B (hApp i m)) := PS.imp h fun E σ H ⟨ρ, s, G, r, w⟩ => by
  unfold hApp at w
  by_cases q : hpAt ρ i = true
  · rw [if_pos q] at w
    obtain ⟨h1, _, h2, h3⟩ := r.hpAt hrg q
    refine at0 (s := s) h1 h2 ⟨.inl ⟨rfl, _, .inl (.inl h3)⟩, ρ, s, G, r, (OutP.bind r w).imp fun d s1 G1 H1 r1 g1 w1 v rv => ?_⟩
    obtain ⟨_, _, _, k3⟩ := r1.hpAt hrg q
    cases d with
    | int n =>
      simp only [intO] at w1
      by_cases z : s1.1.length < 16777216
      · rw [if_pos z] at w1
        refine ⟨hc, s1.1.map V.int, v, rfl, rfl, k3, by rw [List.length_map, sizeLine_eq]; exact z, ?_⟩
        rw [show v = .int n from rv, show s1.1.map V.int ++ [V.int n] = (s1.1 ++ [n]).map V.int by simp]
        exact w1 _ _ _ (r1.cells hrg rfl).1 (.refl _)
      · rw [if_neg z] at w1; exact w1.elim
    | _ => exact w1.elim
  · rw [if_neg q] at w; exact w.elim
theorem s_hSet {i : Nat} {m : EvM DS D} (hrg : B.rg = rgD B.hp hc) (h : PS X (.Assign [tg] e pos) (tAsg (tE B m) (gSub (tVar i) (tC (.int 1)) rSetL))) : PS X (.Assign [tg] e pos) (tS B (hSet i m)) := PS.imp h fun E σ H ⟨ρ, s, G, r, w⟩ => by
  unfold hSet at w
  refine ⟨ρ, s, G, r, (OutP.bind r w).imp fun d s1 G1 H1 r1 g1 w1 v rv => ?_⟩
  by_cases q : hpAt ρ i = true
  · rw [if_pos q] at w1
    obtain ⟨k1, _, k2, k3⟩ := r1.hpAt hrg q
    cases d with
    | int n =>
      simp only [intO] at w1
      refine ⟨_, k1, B.hp, [.ref hc, .int s1.2], 1, 1, rfl, rfl, k2, rfl, ?_⟩
      rw [show v = .int n from rv]
      exact w1 _ _ _ (r1.stir hrg rfl).1 (.refl _)
    | _ => exact w1.elim
  · rw [if_neg q] at w1; exact w1.elim
end Dl
-- DL12
namespace Dl
open PySem PySem.Spec PyProof.Rows L2
/-! ## a def at a place, by any reading of its body -/
section
variable {P : Program} {w : World} {K : PySem.W.Frag} {mg : Str → Option Value} {base : Heap} {k : Nat} {f : Addr} {fd : FuncData} {ps N : List Str}
theorem fn_run {nm qual : Str} {params : Arguments} {body : List Stmt} {scope : Scope} {dvs : List V} {kws : List (Str × V)} (F : FunD K nm qual params body scope dvs kws f fd) (Sc : FnScope N ps scope)
    {A : Around} {outer : List Env} {s : Shared} {H : Hp} {args : Args} {us : List Value} {vs : List V} {Q : VK} {E : XK} {t : TS} (hr : Room (k + 1) A) (e0 : Env0 P w K mg base A outer s H) (hbd : BindsTo s fd args (ps.zip us)) (rv : Vals vs us) (hl : vs.length = ps.length)
    (hb : ∀ cdv : Value, PSs (cxOf (L2.CX P w) P w K mg base N qual scope f cdv A outer s H E) body t) (want : t { nx := fun _ H' => Q .non H', rt := Q } (L2.start N vs) H) : codeAny (model P w) A (.call (.ref f) args) (CR (L2.CX P w) outer P w H s Q E) s := by
  obtain ⟨oc, od, dV, kV, doc, pm, an, cdv, ct, osl, rfl, lk, hcd, _, _⟩ := F.ex
  have here : K.In s.heap := e0.mod.kin.keeps fun b o e => (e0.bs b o e).1
  have far : s.heap.NoLimit := e0.mod.nolimit.keeps fun b o e => (e0.bs b o e).1
  have kinds : ∀ y ∈ ps.zip us, scope.names.lookup y.1 = some .local ∨ (scope.names.lookup y.1 = some .cell ∧ ((cellsFrom (s.heap.objs.size + 1) scope.names []).lookup y.1).isSome = true) := fun ⟨n, v⟩ hy => by
    rcases Sc.par n (List.of_mem_zip hy).1 with q | q
    · exact .inl q
    · exact .inr ⟨q, PySem.W.cellsFrom_some _ _ _ (.inl q)⟩
  refine codeAny_call_function hr.depth (here _ _ lk) rfl Sc.co Sc.gen rfl (PySem.W.codeRec_of here hcd) (hbd _ _ _ _ ?_)
  refine wpAny_newFunctionEnv_cells Sc.kind kinds fun env he s1 made => ?_
  subst he
  refine ⟨far.keeps made.toInCall.keep, codeAny_func ?_⟩
  have I : Inv (cxOf (L2.CX P w) P w K mg base N qual scope f cdv A outer s H E) [] (L2.start N vs) H s1 := inv_start Sc hr.hd e0 hl rv made
  refine wpAny_mono ((hb cdv).run [] s1 (L2.start N vs) H _ I want) (fun fl s' hs => ?_) fun e s' hs => hs
  have fin : ∀ {σ2 : L2.St} {H2 : Hp} {v : V} {u : Value}, Inv (cxOf (L2.CX P w) P w K mg base N qual scope f cdv A outer s H E) [] σ2 H2 s' → RelV v u → Q v H2 → CE outer P w H s Q u s' :=
    fun {σ2 H2 v u} J ru q => ⟨v, H2, J.os, J.bare, J.base, J.hok, ru, q⟩
  cases fl with
  | next =>
    obtain ⟨σ2, H2, J, q⟩ := hs
    exact fin (v := V.non) (u := Value.none) J rfl q
  | ret u =>
    obtain ⟨v, σ2, H2, J, ru, q⟩ := hs
    exact fin J ru q
  | brk => obtain ⟨_, _, _, q⟩ := hs; exact q.elim
  | cont => obtain ⟨_, _, _, q⟩ := hs; exact q.elim
end
/-! ## the law's call -/
/-- what the law's def has to keep -/
def LawOk (P : Program) (w : World) (K : PySem.W.Frag) (mg : Str → Option Value) (n : Nat) (fa : Addr) : Prop := ∀ (base : Heap) (s : Shared) (H : Hp) (a : Addr) (ns : List Int), ns.length ≤ n → Env0 P w K mg base callerA [] s H → SqL K H a (ns.map V.int) →
  codeAny (model P w) callerA (.call (.ref fa) ⟨[.ref a], []⟩) (CR (L2.CX P w) [] P w H s (fun v _ => v = .bl true) fun _ _ _ => False) s
theorem law_end {P : Program} {w : World} {K : PySem.W.Frag} {mg mb : Str → Option Value} {n : Nat} {fa a : Addr} {st : Shared} {us : List Value} {zs : List Int} (L : LawOk P w K mg n fa)
    (hK : K.In st.heap) (hG : st.heap.Ns mainGlobals mg) (hB : st.heap.Ns builtinsNs mb) (hBB : ∀ y : Str, y ≠ "__name__" → mb y = bootBuiltins y) (hL : st.heap.NoLimit) (hgen : st.gens = #[])
    (hobj : st.heap.get? a = some { cls := .type "list", data := .seq us.toArray }) (hz : IntsAre us zs) (hn : zs.length ≤ n) (hsz : n ≤ sizeLine) :
    codeAny (model P w) callerA (.call (.ref fa) ⟨[.ref a], []⟩) (fun r s' => r = .ok (.ret (.bool true)) ∧ OldK st.heap s'.heap ∧ s'.os = st.os ∧ AllBare s'.gens) st := by
  have len := hz.length
  -- any heap that tracks the script at most
  suffices key : ∀ H : Hp, Only H → SqL K H a (zs.map V.int) → HOk P w H st.heap → (∀ b, b ≠ a → H b = none) → (∀ u, H a = some u → K.lookup a = none) →
      codeAny (model P w) callerA (.call (.ref fa) ⟨[.ref a], []⟩) (fun r s' => r = .ok (.ret (.bool true)) ∧ OldK st.heap s'.heap ∧ s'.os = st.os ∧ AllBare s'.gens) st by
    cases e : K.lookup a with
    | some o =>
      have q := hK a o e
      rw [hobj] at q
      cases q
      refine key (fun _ => none) (fun _ => .inl rfl) (.inr ⟨_, us.toArray, _, e, rfl, rfl, rfl, ?_, ?_⟩) (fun b u q => ?_) (fun _ _ => rfl) (fun u q => nomatch q)
      · rw [List.size_toArray, len]; omega
      · rw [List.toList_toArray]; exact L2.vals_ints hz
      · exact nomatch (show (none : Option HO) = some u from q)
    | none =>
      have at_ : ∀ b u, (if b = a then some (HO.frz { cls := .type "list", data := .seq us.toArray } (.lst (zs.map V.int))) else none) = some u → b = a ∧ u = HO.frz { cls := .type "list", data := .seq us.toArray } (.lst (zs.map V.int)) := fun b u q => by
        by_cases hb : b = a
        · rw [if_pos hb] at q; exact ⟨hb, (Option.some.inj q).symm⟩
        · rw [if_neg hb] at q; cases q
      refine key (fun b => if b = a then some (.frz { cls := .type "list", data := .seq us.toArray } (.lst (zs.map V.int))) else none) (fun b => ?_) (.inl (.inr ⟨_, if_pos rfl⟩)) (fun b u q => ?_) (fun b hb => if_neg hb) (fun _ _ => e)
      · by_cases hb : b = a
        · exact .inr ⟨_, _, if_pos hb⟩
        · exact .inl (if_neg hb)
      · obtain ⟨rfl, rfl⟩ := at_ b u q
        exact ⟨hobj, by rw [List.length_map]; omega, us, _, L2.vals_ints hz, hobj⟩
  intro H hO hS hok hno hKa
  have up : ∀ {b : Addr} {o : Obj}, st.heap.get? b = some o → (b = a → H a = none) → (hidT st.heap H).get? b = some o := fun {b o} e q => hidT_get e (by
    by_cases hb : b = a
    · rw [hb]; exact q hb
    · exact hno b hb)
  have nsH : ∀ {b : Addr} {m : Str → Option Value}, st.heap.Ns b m → (hidT st.heap H).Ns b m := fun {b m} ⟨o, es, ep, e, d, r⟩ => ⟨o, es, ep, up e (fun hb => by
    rw [hb, hobj] at e
    cases e
    exact nomatch (show Data.seq us.toArray _ = Data.dict es ep from d)), d, r⟩
  have KH : K.In (hidT st.heap H) := fun b o e => up (hK b o e) fun hb => by
    cases q : H a with
    | none => rfl
    | some u => rw [← hb] at q; rw [hb] at e; have := hKa u (by rw [← hb]; exact q); rw [this] at e; cases e
  have md : Mod K mg (hidT st.heap H) := ⟨KH, nsH hG, ⟨mb, nsH hB, hBB⟩, let ⟨mc, h1, h2⟩ := hL; ⟨mc, nsH h1, h2⟩⟩
  have e0 : Env0 P w K mg (hidT st.heap H) callerA [] st H := ⟨rfl, md, fun b o e => of_hidT e, Nat.le_of_eq (hidT_size _ _), trivial, fun b hb => (by cases hb), hok, .of_eq hgen⟩
  refine codeAny_mono (L (hidT st.heap H) st H a zs hn e0 hS) fun r s' h => ?_
  cases r with
  | error e =>
    obtain ⟨_, _, _, _, _, _, _, _, _, _, _, _, z⟩ := h
    exact z.elim
  | ok fl =>
    cases fl with
    | ret u =>
      obtain ⟨v, H', os, bare, un, hok', ru, rfl⟩ := h
      obtain rfl : u = Value.bool true := ru
      refine ⟨rfl, OldK.of_keep fun b o e => ?_, os, bare⟩
      rcases hO b with z | ⟨ob, xs, z⟩
      · exact un.keep b o e z (fun q => by cases q) (by simp)
      · have z1 := (hok b _ z).1
        have z2 := (hok' b _ (un.frzs b ob _ z)).1
        rw [e] at z1
        cases z1
        exact z2
    | next => exact (show False from h).elim
    | brk => exact (show False from h).elim
    | cont => exact (show False from h).elim
theorem walkD {l : PySem.W.OpenLaw} {n : Nat} {q : Program} {loose : List Str} {XP : (Str → Option Value) → Heap → Prop} {YP : World → Heap → Prop} {d : DefRec} (hm : l.most = some n) (hz : n ≤ sizeLine) (hdf : d.params.defaults = [])
    (L : ∀ (w : World) (mg : Str → Option Value) (fa : Addr) (h : Heap), YP w h → h.Ns mainGlobals mg → mg d.name = some (.ref fa) → ∃ K : PySem.W.Frag, K.In h ∧ LawOk l.prog w K mg n fa) :
    PySem.W.WalkO q loose XP YP l.row.toRowW d [] (fun f vs => PySem.call f vs) :=
  Att.attach_call hm hdf fun w s₀ s₁ mg mb fa o pm cd doc a vs ns G Y ho hd hcd hmg hobj hints hlen hg => by
    obtain ⟨K, hK, hL⟩ := L w mg fa _ Y G.T.g hmg
    exact law_end hL hK G.T.g G.T.b G.T.builtins G.T.nolimit hg hobj hints hlen hz
end Dl
-- DL13
namespace Dl
open PySem PySem.Spec PyProof.Rows L2
/-! ## the first def of a law: the list of drawn cells, new -/
section
variable {B : Bs Unit} {X : Cx} {e e1 e2 tg it : Expr} {es : List Expr} {pos p p2 : Pos} {ρ ρ' : List Slot} {σ : L2.St} {G H G' H' : Hp}
def tHeap (B : Bs Unit) (a : SM Unit) (m1 : EvM Unit (List D)) (m2 : EvM Unit D) : TS := fun E σ H => ∃ ρ G, SR B ρ () G σ H ∧ ∃ ρ1 xs d, a ρ () = .nx ρ1 () ∧ m1 ρ1 () = .ok xs () ∧ m2 ρ1 () = .ok d () ∧
  ∀ H2 G2 c vs v p, (∀ b o, B.H0 b = some o → ¬ B.rg.reg b → H2 b = some o) → B.H0 c = none → H2 c = some (.lst vs) → RepL B.X B.hp G2 vs xs → Rep B.X B.hp G2 v d → H2 p = none → E.rt (.ref p) (upd H2 p (.lst [.ref c, v]))
theorem hp_body {st1 st2 : Stmt} {p1 : Pos} {a1 a2 : SM Unit} {m1 : EvM Unit (List D)} {m2 : EvM Unit D} (h1 : PS X st1 (tS B a1)) (h2 : PS X st2 (tS B a2)) (h3 : PE X e1 (tO B m1)) (h4 : PE X e2 (tE B m2))
    (hs : starEach [e1, e2] X.env = (false, eval e1 X.env) :: starEach [e2] X.env := by rfl) (hs2 : starEach [e2] X.env = (false, eval e2 X.env) :: starEach [] X.env := by rfl) : PSs X [st1, st2, .Return (some (.List [e1, e2] p1)) p2] (tHeap B (seqS a1 a2) m1 m2) := by
  refine PSs.imp (pss_cons h1 (pss_cons h2 (pss_one (ps_ret (pe_lst (pa_cons h3 (pa_cons h4 pa_nil hs2) hs)))))) fun E σ H ⟨ρ, G, r, ρ1, xs, d, w1, w2, w3, k⟩ => ?_
  refine ⟨ρ, (), G, r, ?_⟩
  unfold seqS at w1
  cases q : a1 ρ () with
  | nx ρa sa =>
    simp only [q] at w1
    intro σ1 G1 H1 r1 l1
    refine ⟨ρa, (), G1, r1, ?_⟩
    rw [w1]
    intro σ2 G2 H2 r2 l2
    refine ⟨ρ1, (), G2, r2, ?_⟩
    unfold Wp
    rw [w2]
    intro G3 H3 r3 g3 c vs hn hg hc rl
    refine ⟨ρ1, (), G3, r3, ?_⟩
    unfold Wp
    rw [w3]
    intro G4 H4 r4 g4 v rv
    refine ⟨by show 2 ≤ sizeLine; rw [sizeLine_eq]; omega, fun p hp => ?_⟩
    obtain ⟨h0, nr, _⟩ := r2.there hn
    exact k H4 G4 c vs v p r4.kept h0 (g4.kp c _ hc nr) (RepL.mono g4.le _ _ rl) rv hp
  | bk _ _ => simp only [q] at w1; cases w1
  | ct _ _ => simp only [q] at w1; cases w1
  | ret _ _ => simp only [q] at w1; cases w1
  | exc _ _ _ _ => simp only [q] at w1; cases w1
  | stuck => simp only [q] at w1; cases w1
end
section
variable {P : Program} {w : World} {K : PySem.W.Frag} {mg : Str → Option Value} {base : Heap} {k : Nat} {f : Addr} {fd : FuncData} {N : List Str}
def spHeap (K : PySem.W.Frag) : Sp := fun vs H Q _ => ∃ (a : Addr) (ns : List Int), vs = [.ref a] ∧ SqL K H a (ns.map V.int) ∧ ∀ (cells : List Int) (st : Int) (p c : Addr) (H' : Hp), cells.length ≤ 60 → Le H H' → H p = none → H c = none → p ≠ c →
  H' p = some (.lst [.ref c, .int st]) → H' c = some (.lst (cells.map V.int)) → Q (.ref p) H'
theorem intsRepG {Γ : Gx} {hp : Addr} {G : Hp} (xs : List Int) : RepL Γ hp G (xs.map V.int) (xs.map D.int) := by
  induction xs with
  | nil => exact .nil
  | cons a r ih => exact .cons rfl ih
abbrev W0 : WX := fun _ _ _ _ => False
theorem SR.first (Γ : Gx) (hp : Addr) (H : Hp) (W : WX) : SR (bsOf Γ hp rgNone H H W) [] () H [] H :=
  ⟨.refl _, .refl _, fun a o h => .inl h, fun a o h _ => h, fun a h => h.elim, trivial, rfl, fun i q e => by simp at e, fun i j a xs ys e => by simp at e⟩
theorem ints_of {xs : List Int} {vs : List V} {Γ : Gx} {hp : Addr} {G : Hp} (h : RepL Γ hp G vs (xs.map D.int)) : vs = xs.map V.int := by
  induction xs generalizing vs with
  | nil => exact h
  | cons a r ih =>
    obtain ⟨v, vr, rfl, h1, h2⟩ := h
    rw [show v = .int a from h1, ih h2]
    rfl
theorem heap_fn {nm qual x : Str} {params : Arguments} {body : List Stmt} {scope : Scope} {cl xc : Nat → Option (Addr × List Str)} (F : FunD K nm qual params body scope [] [] f fd) (Sc : FnScope N [x] scope) {a : SM Unit} {m1 : EvM Unit (List D)} {m2 : EvM Unit D}
    (hb : ∀ (cdv : Value) (A : Around) (outer : List Env) (s : Shared) (H : Hp) (E : XK), PSs (cxOf CX0 P w K mg base N qual scope f cdv A outer s H E) body (tHeap (bsOf ⟨K, cl, xc⟩ 0 rgNone H H W0) a m1 m2))
    (hm : ∀ ns : List Int, ∃ ρ1 cells st, a (.val (.lst (ns.map D.int)) :: List.replicate (N.length - 1) .emp) () = .nx ρ1 () ∧ m1 ρ1 () = .ok ((cells : List Int).map D.int) () ∧ m2 ρ1 () = .ok (.int st) () ∧ cells.length ≤ 60) :
    FnOk P w K mg base CX0 (k + 1) f fd [x] (spHeap K) := by
  refine F.ok Sc (fun vs H Q E ⟨a, ns, e, _⟩ => by rw [e]; rfl) fun cdv A outer s H vs Q E hr ⟨b, ns, e, hS, hq⟩ => ⟨_, hb cdv A outer s H E, ?_⟩
  subst e
  obtain ⟨ρ1, cells, st, e1, e2, e3, hc⟩ := hm ns
  have pn : 1 ≤ N.length := by
    have := congrArg List.length Sc.pre
    rw [List.length_take] at this
    simp at this
    omega
  have r0 : SR (bsOf ⟨K, cl, xc⟩ 0 rgNone H H W0) ([D.lst (ns.map D.int)].map Slot.val ++ List.replicate (N.length - 1) Slot.emp) () H (L2.start N [.ref b]) H :=
    SR.start (SR.first _ _ _ _) (.cons ⟨b, _, rfl, hS, intsRepG ns⟩ .nil) pn
  refine ⟨_, H, r0, ρ1, _, _, e1, e2, e3, fun H2 G2 c vs v p hk h0 hc2 rl rv hp => ?_⟩
  rw [ints_of rl] at hc2
  have np : p ≠ c := fun z => by rw [z, hc2] at hp; cases hp
  refine hq cells st p c _ hc (fun b o h => ?_) ?_ h0 np ?_ ?_
  · exact Le.upd hp b o (hk b o h fun z => z)
  · cases q : H p with
    | none => rfl
    | some o =>
      have := hk p o q fun z => z
      rw [hp] at this; cases this
  · rw [upd_same, show v = .int st from rv]
  · rw [upd_ne (fun z => np z.symm)]; exact hc2
/-- THE LAW'S DEF -/
theorem law_fn {nm qual x : Str} {n : Nat} {params : Arguments} {st1 : Stmt} {rest : List Stmt} {scope : Scope} {cl xc : Nat → Option (Addr × List Str)} (F : FunD K nm qual params (st1 :: rest) scope [] [] f fd) (Sc : FnScope N [x] scope) {b : SM DS}
    (hbd : ∀ (s : Shared) (u : Value), BindsTo s fd ⟨[u], []⟩ [(x, u)]) (hr : Room (k + 1) callerA) (hN : 2 ≤ N.length)
    (h1 : ∀ (cdv : Value) (base : Heap) (s : Shared) (H : Hp), Room k (callerA.deeper (envOfC qual scope s.heap.objs.size f cdv)) → PS (cxOf (L2.CX P w) P w K mg base N qual scope f cdv callerA [] s H fun _ _ _ => False) st1 (tAsg (tCall (spHeap K) [] E0 (tCons (tVar 0) tNil)) (gName 1)))
    (h2 : ∀ (cdv : Value) (base : Heap) (s : Shared) (H : Hp) (hp hc : Addr), (callerA.deeper (envOfC qual scope s.heap.objs.size f cdv)).guards = some [] → Room k (callerA.deeper (envOfC qual scope s.heap.objs.size f cdv)) →
      PSs (cxOf (L2.CX P w) P w K mg base N qual scope f cdv callerA [] s H fun _ _ _ => False) rest (tS (bsOf ⟨K, cl, xc⟩ hp (rgD hp hc) H H fun _ _ _ _ => False) b))
    (hm : ∀ (ns cells : List Int) (st : Int), ns.length ≤ n → cells.length ≤ 60 → ∃ s', b (.val (.lst (ns.map D.int)) :: .val .hp :: List.replicate (N.length - 2) .emp) (cells, st) = .ret (.bl true) s') : LawOk P w K mg n f := by
  intro base s H a ns hn e0 hS
  refine fn_run (us := [.ref a]) (vs := [.ref a]) (E := fun _ _ _ => False) F Sc hr e0 (hbd s (.ref a)) (.cons rfl .nil) rfl (t := tSeq (tAsg (tCall (spHeap K) [] E0 (tCons (tVar 0) tNil)) (gName 1)) fun E σ H1 => ∃ hp hc, tS (bsOf ⟨K, cl, xc⟩ hp (rgD hp hc) H H fun _ _ _ _ => False) b E σ H1) (fun cdv => ?_) ?_
  · refine pss_cons (h1 cdv base s H (hr.deeper _)) ⟨fun pins s2 σ H1 E I ⟨hp, hc, q⟩ => ?_⟩
    exact (h2 cdv base s H hp hc rfl (hr.deeper _)).run pins s2 σ H1 E I q
  · refine ⟨.ref a, ?_, a, ns, rfl, hS, fun cells st p c H' hc hle hp hcn hpc e1 e2 => ?_⟩
    · unfold L2.start
      rfl
    · obtain ⟨s', q⟩ := hm ns cells st hn hc
      refine ⟨p, c, .val (.lst (ns.map D.int)) :: .val .hp :: List.replicate (N.length - 2) .emp, (cells, st), H, ?_, ?_⟩
      · have pos : ∀ {b o}, H b = some o → ¬ (b = p ∨ b = c) := fun {b o} e z => by
          rcases z with rfl | rfl
          · rw [hp] at e; cases e
          · rw [hcn] at e; cases e
        have no : ∀ b, (b = p ∨ b = c) → H b = none := fun b z => by
          rcases z with rfl | rfl
          · exact hp
          · exact hcn
        refine ⟨hle, .refl _, fun b o e => .inl e, fun b o e _ => hle b o e, no, ⟨hpc, e1, e2⟩, ?_, fun i q e => ?_, fun i j b xs ys e => ?_⟩
        · unfold L2.start
          simp only [List.length_set, List.length_append, List.length_map, List.length_replicate, List.length_cons, List.length_nil]
          omega
        · have hz : i < N.length := by
            have := (List.getElem?_eq_some_iff.mp e).1
            simp only [List.length_cons, List.length_replicate] at this
            omega
          match i, e with
          | 0, e =>
            cases e
            refine ⟨.ref a, ?_, a, _, rfl, hS, intsRepG ns⟩
            rw [List.getElem?_set_ne (by omega)]
            unfold L2.start; rfl
          | 1, e =>
            cases e
            refine ⟨.ref p, ?_, rfl⟩
            rw [List.getElem?_set_self]
            unfold L2.start
            simp only [List.length_append, List.length_map, List.length_replicate, List.length_cons, List.length_nil]
            omega
          | i + 2, e =>
            have e' : (List.replicate (N.length - 2) Slot.emp)[i]? = some q := e
            rw [List.getElem?_replicate] at e'
            split at e'
            · cases e'; exact trivial
            · cases e'
        · match i, e with
          | 0, e => cases e
          | 1, e => cases e
          | i + 2, e =>
            have e' : (List.replicate (N.length - 2) Slot.emp)[i]? = some (.own xs) := e
            rw [List.getElem?_replicate] at e'
            split at e' <;> cases e'
      · rw [q]
        exact fun v σ ρ G' H' r l rv => rv
end
end Dl
-- DL14
namespace Dl
open PySem PySem.Spec PyProof.Rows L2
variable {S : Type} {B : Bs S} {X : Cx} {e e1 e2 tg it : Expr} {es : List Expr} {pos p p2 : Pos} {ρ ρ' : List Slot} {σ : L2.St} {G H G' H' : Hp} {s : S} {x y v : V} {d : D} {z : Str} {id T : String}
/-! ## more operations -/
theorem fold_rep (t : List Nat) : ∀ (n : Nat) (a : Array Nat), (List.replicate n t.toArray).foldl (· ++ ·) a = a ++ ((List.replicate n t).flatten).toArray
  | 0, a => by simp
  | n + 1, a => by
    rw [List.replicate_succ, List.foldl_cons, fold_rep t n, List.replicate_succ, List.flatten_cons]
    rw [Array.append_assoc]
    congr 1
    simp
theorem txt_mul (t : List Nat) (n : Int) : Txt.mul (stOf t) n = stOf (List.replicate n.toNat t).flatten := by
  unfold Txt.mul
  by_cases h : n < 1
  · rw [if_pos h, show n.toNat = 0 by omega]
    rfl
  · rw [if_neg h]
    by_cases h2 : (n == 1 || (stOf t).length == 0) = true
    · rw [if_pos h2]
      rw [Bool.or_eq_true] at h2
      rcases h2 with h2 | h2
      · rw [show n = 1 by simpa using h2]
        simp
      · have : t = [] := by
          have := st_len t
          rw [beq_iff_eq] at h2
          rw [h2] at this
          exact List.eq_nil_of_length_eq_zero this.symm
        subst this
        simp
    · rw [if_neg h2]
      show (⟨(List.replicate n.toNat t.toArray).foldl (· ++ ·) #[]⟩ : Str) = ⟨_⟩
      rw [fold_rep]
      simp
theorem op_mulS : OpR X (binaryOp .Mult) (fun x y H Q => ∃ (t : List Nat) (n : Int), x = .str (stOf t) ∧ y = .int n ∧ t.length ≤ 1024 ∧ -(2 ^ 63) ≤ n ∧ n ≤ 16384 ∧ Q (.str (stOf (List.replicate n.toNat t).flatten)) H) := by
  intro pins s σ H x y v u Q I rx ry h
  obtain ⟨t, n, rfl, rfl, h1, h2, h3, q⟩ := h
  obtain ⟨tk, rfl⟩ := rx
  obtain ⟨tk2, rfl⟩ := ry
  refine SB.mul (mulOk_of 1024 16384 (by rw [st_len]; exact h1) h3 h2 (by decide) (by decide)) fun t' k => ?_
  refine ⟨.str _, H, I.tok _, ?_, q⟩
  rw [txt_mul]
  exact ⟨t', rfl⟩
theorem e_mulA {ma mb : EvM S D} (ha : PE X e1 (tR B ma)) (hb : PE X e2 (tR B mb)) : PE X (.BinOp e1 .Mult e2 pos) (tE B (op2 mulA ma mb)) := by
  refine e_op2 (r := fun x y H Q => _ ∨ _) ?_ (pe_op (op_mulA.or op_mulS) ha hb)
  intro ρ s G σ H x y a b d Q r ra rb h k
  cases a with
  | int i =>
    cases b with
    | int j =>
      obtain ⟨h1, rfl⟩ := opt_if h
      exact .inl ⟨i, j, ra.int, rb.int, h1, same_r r k _ rfl⟩
    | _ => cases h
  | str t =>
    cases b with
    | int j =>
      obtain ⟨⟨h1, h2, h3⟩, rfl⟩ := opt_ifP h
      exact .inr ⟨t, j, ra.str, rb.int, h1, h2, h3, same_r r k _ rfl⟩
    | _ => cases h
  | _ => cases h
end Dl
-- DL15
namespace Dl
open PySem PySem.Spec PyProof.Rows L2
/-- a def without defaults, by keywords -/
theorem bindK_of {K : PySem.W.Frag} {nm qual : Str} {params : Arguments} {body : List Stmt} {scope : Scope} {kws : List (Str × V)} {f : Addr} {fd : FuncData} {ps ks : List Str} {n : Nat} {is : List Nat} (F : FunD K nm qual params body scope [] kws f fd)
    (h : ∀ (kV doc pm : Value) (an : Option Addr) (cdv ct : Value) (us ws : List Value), us.length = n → ws.length = ks.length → bindArgs (PySem.W.fnOf nm qual params body scope .none kV doc pm an cdv ct) ⟨us, ks.zip ws⟩ = pure (ps.zip (pick is (us ++ ws)))) : BindK K fd ps ks n is := by
  obtain ⟨oc, od, dV, kV, doc, pm, an, cdv, ct, osl, rfl, lk, hcd, hD, hK⟩ := F.ex
  rcases hD with ⟨_, rfl⟩ | ⟨e, _⟩
  · exact fun s us ws _ h1 h2 => BindsTo.of_eq (h kV doc pm an cdv ct us ws h1 h2)
  · exact absurd rfl e
/-- a text, an int of the module -/
theorem e_glS {S : Type} {B : Bs S} {X : Cx} {pos : Pos} {z zz : Str} (t : List Nat) (hg : Gl X z) (hm : ∃ tk, X.mg z = some (.str zz tk)) (h : zz = stOf t := by decide +kernel) (hd : (z == ("__debug__" : Str)) = false := by decide) : PE X (.Name z pos) (tE B (cE (.str t))) := by
  obtain ⟨tk, hm⟩ := hm
  subst h
  exact e_gl (v := .str (stOf t)) (.str t) hg hm ⟨tk, rfl⟩ (fun _ => rfl) hd
theorem e_glI {S : Type} {B : Bs S} {X : Cx} {pos : Pos} {z : Str} {i : Int} (hg : Gl X z) (hm : ∃ tk, X.mg z = some (.int i tk)) (hd : (z == ("__debug__" : Str)) = false := by decide) : PE X (.Name z pos) (tE B (cE (.int i))) := by
  obtain ⟨tk, hm⟩ := hm
  exact e_gl (v := .int i) (.int i) hg hm ⟨tk, rfl⟩ (fun _ => rfl) hd
end Dl
-- LX
namespace Dl
/-! ## marks, in plain Lean -/
def kind (c : Nat) : Nat := if 97 ≤ c ∧ c ≤ 122 then 1 else if 48 ≤ c ∧ c ≤ 57 then 2 else 0
def mk (c : Nat) (r : List Nat) : List Nat := if kind c = 0 then [c] else c :: r.takeWhile fun x => kind x == kind c
theorem mk_len (c : Nat) (r : List Nat) : 1 ≤ (mk c r).length ∧ (mk c r).length ≤ r.length + 1 := by
  unfold mk
  split
  · simp
  · have := (List.takeWhile_sublist (l := r) fun x => kind x == kind c).length_le
    simp only [List.length_cons]
    omega
abbrev Tk := Nat × Nat × List Nat
def tk : Nat → List Nat → Nat → Nat → List Tk
  | 0, _, _, _ => []
  | _ + 1, [], _, _ => []
  | n + 1, c :: r, l, a => (if mk c r = [32] then [] else [(l, a, mk c r)]) ++ (if mk c r = [10] then tk n (r.drop ((mk c r).length - 1)) (l + 1) 0 else tk n (r.drop ((mk c r).length - 1)) l (a + (mk c r).length))
theorem tk_nil (n l a : Nat) : tk n [] l a = [] := by cases n <;> rfl
/-- more turns than signs change nothing -/
theorem tk_more : ∀ (n : Nat) (t : List Nat) (l a m : Nat), t.length ≤ n → t.length ≤ m → tk n t l a = tk m t l a
  | n, [], l, a, m, _, _ => by rw [tk_nil, tk_nil]
  | 0, c :: r, l, a, m, h, _ => by simp at h
  | n + 1, c :: r, l, a, 0, _, h => by simp at h
  | n + 1, c :: r, l, a, m + 1, h1, h2 => by
    rw [List.length_cons] at h1 h2
    have q : (r.drop ((mk c r).length - 1)).length ≤ n := by rw [List.length_drop]; omega
    have q2 : (r.drop ((mk c r).length - 1)).length ≤ m := by rw [List.length_drop]; omega
    simp only [tk, tk_more n _ _ _ m q q2]
theorem tw_mem {p : Nat → Bool} {x : Nat} : ∀ {r : List Nat}, x ∈ r.takeWhile p → p x = true
  | [], h => by simp at h
  | y :: ys, h => by
    rw [List.takeWhile_cons] at h
    split at h
    · rename_i e
      rcases List.mem_cons.mp h with rfl | h
      · exact e
      · exact tw_mem h
    · simp at h
/-- what marks are -/
def Pm (m : List Nat) : Prop := (∃ c, m = [c] ∧ kind c = 0 ∧ c ≠ 32) ∨ ∃ c u, m = c :: u ∧ kind c ≠ 0 ∧ ∀ x ∈ u, kind x = kind c
theorem mk_pm (c : Nat) (r : List Nat) (h : mk c r ≠ [32]) : Pm (mk c r) := by
  unfold mk at h ⊢
  split
  · rename_i z
    rw [if_pos z] at h
    exact .inl ⟨c, rfl, z, fun e => h (by rw [e])⟩
  · rename_i z
    refine .inr ⟨c, _, rfl, z, fun x hx => ?_⟩
    have : ∀ (r : List Nat), x ∈ r.takeWhile (fun y => kind y == kind c) → kind x = kind c := fun r => by
      induction r with
      | nil => intro h; simp at h
      | cons y ys ih =>
        intro h
        rw [List.takeWhile_cons] at h
        split at h
        · rename_i e
          rcases List.mem_cons.mp h with rfl | h
          · simpa using e
          · exact ih h
        · simp at h
    exact this r hx
theorem mk_all (p : Nat → Prop) (c : Nat) (r : List Nat) (h : ∀ x ∈ c :: r, p x) : ∀ x ∈ mk c r, p x := by
  unfold mk
  split
  · intro x hx; exact h x (by simp at hx; simp [hx])
  · intro x hx
    rcases List.mem_cons.mp hx with rfl | hx
    · exact h _ (by simp)
    · exact h x (by simp [(List.takeWhile_sublist _).subset hx])
theorem tk_all (p : Nat → Prop) : ∀ (n : Nat) (t : List Nat) (l a : Nat), (∀ x ∈ t, p x) → ∀ q ∈ tk n t l a, Pm q.2.2 ∧ (∀ x ∈ q.2.2, p x) ∧ q.1 ≤ l + t.length ∧ q.2.1 ≤ a + t.length
  | 0, t, l, a, _, q, h => by simp [tk] at h
  | n + 1, [], l, a, _, q, h => by simp [tk] at h
  | n + 1, c :: r, l, a, hp, q, h => by
    have ml := mk_len c r
    have sub : ∀ x ∈ r.drop ((mk c r).length - 1), p x := fun x hx => hp x (List.mem_cons_of_mem _ (List.mem_of_mem_drop hx))
    have dl : (r.drop ((mk c r).length - 1)).length = r.length - ((mk c r).length - 1) := List.length_drop ..
    rw [tk, List.mem_append] at h
    rcases h with h | h
    · split at h
      · simp at h
      · rename_i z
        rw [List.mem_singleton] at h
        subst h
        exact ⟨mk_pm c r z, mk_all p c r hp, by simp, by simp⟩
    · split at h
      · obtain ⟨h1, h2, h3, h4⟩ := tk_all p n _ _ _ sub q h
        rw [dl] at h3 h4
        refine ⟨h1, h2, ?_, ?_⟩ <;> rw [List.length_cons] <;> omega
      · obtain ⟨h1, h2, h3, h4⟩ := tk_all p n _ _ _ sub q h
        rw [dl] at h3 h4
        refine ⟨h1, h2, ?_, ?_⟩ <;> rw [List.length_cons] <;> omega
theorem tk_sum : ∀ (n : Nat) (t : List Nat) (l a : Nat), ((tk n t l a).map fun q => q.2.2.length).sum ≤ t.length ∧ (tk n t l a).length ≤ t.length
  | 0, t, l, a => by simp [tk]
  | n + 1, [], l, a => by simp [tk]
  | n + 1, c :: r, l, a => by
    have ml := mk_len c r
    have dl : (r.drop ((mk c r).length - 1)).length = r.length - ((mk c r).length - 1) := List.length_drop ..
    rw [tk]
    simp only [List.map_append, List.sum_append, List.length_append, List.length_cons]
    have key : ∀ l' a', ((tk n (r.drop ((mk c r).length - 1)) l' a').map fun q => q.2.2.length).sum ≤ r.length - ((mk c r).length - 1) ∧ (tk n (r.drop ((mk c r).length - 1)) l' a').length ≤ r.length - ((mk c r).length - 1) := fun l' a' => by
      have := tk_sum n (r.drop ((mk c r).length - 1)) l' a'
      rw [dl] at this
      exact this
    have head : ((if mk c r = [32] then ([] : List Tk) else [(l, a, mk c r)]).map fun q => q.2.2.length).sum ≤ (mk c r).length ∧ (if mk c r = [32] then ([] : List Tk) else [(l, a, mk c r)]).length ≤ 1 := by
      split <;> simp
    by_cases z : mk c r = [10]
    · rw [if_pos z]
      have := key (l + 1) 0; omega
    · rw [if_neg z]
      have := key l (a + (mk c r).length); omega
/-! the marks joined, cut again -/
theorem tw_all {p : Nat → Bool} {u r : List Nat} (h : ∀ x ∈ u, p x = true) (hr : r = [] ∨ ∃ c s, r = c :: s ∧ p c = false) : (u ++ r).takeWhile p = u := by
  induction u with
  | nil =>
    rcases hr with rfl | ⟨c, s, rfl, e⟩
    · rfl
    · simp [e]
  | cons x u ih =>
    rw [List.cons_append, List.takeWhile_cons, h x (by simp), if_pos rfl, ih fun y hy => h y (by simp [hy])]
theorem pm_mk {m : List Nat} (h : Pm m) (r : List Nat) (hr : r = [] ∨ ∃ s, r = 32 :: s) : ∃ c u, m = c :: u ∧ mk c (u ++ r) = m ∧ m ≠ [32] ∧ (u ++ r).drop (m.length - 1) = r := by
  rcases h with ⟨c, rfl, e, n⟩ | ⟨c, u, rfl, e, k⟩
  · refine ⟨c, [], rfl, ?_, fun z => n (by simpa using z), by simp⟩
    unfold mk; rw [if_pos e]
  · refine ⟨c, u, rfl, ?_, fun z => ?_, by simp⟩
    · unfold mk
      rw [if_neg e, tw_all (fun x hx => by simpa using k x hx)]
      rcases hr with rfl | ⟨s, rfl⟩
      · exact .inl rfl
      · refine .inr ⟨32, s, rfl, ?_⟩
        have : kind 32 = 0 := by decide
        rw [this]
        simpa using fun z => e z.symm
    · have z1 : c = 32 := by simpa using congrArg List.head? z
      subst z1
      exact e (by decide)
theorem tk_join : ∀ (ms : List (List Nat)) (n l a : Nat), (∀ m ∈ ms, Pm m) → (joinL [32] ms).length ≤ n → (tk n (joinL [32] ms) l a).map (fun q => q.2.2) = ms
  | [], n, l, a, _, _ => by
    show (tk n [] l a).map _ = []
    rw [tk_nil]; rfl
  | [m], n, l, a, h, hn => by
    obtain ⟨c, u, e, e1, e2, e3⟩ := pm_mk (h m (by simp)) [] (.inl rfl)
    rw [List.append_nil] at e1 e3
    have ej : joinL [32] [m] = m := rfl
    rw [ej] at hn ⊢
    cases n with
    | zero => rw [e] at hn; simp at hn
    | succ n =>
      rw [show tk (n + 1) m l a = tk (n + 1) (c :: u) l a by rw [e], tk, e1, if_neg e2, e3]
      simp [tk_nil]
  | m :: m2 :: ms, n, l, a, h, hn => by
    have ej : joinL [32] (m :: m2 :: ms) = m ++ 32 :: joinL [32] (m2 :: ms) := rfl
    obtain ⟨c, u, e, e1, e2, e3⟩ := pm_mk (h m (by simp)) (32 :: joinL [32] (m2 :: ms)) (.inr ⟨_, rfl⟩)
    rw [ej] at hn ⊢
    rw [List.length_append, List.length_cons] at hn
    have lm : 1 ≤ m.length := by rw [e]; simp
    match n, hn with
    | 0, hn => omega
    | 1, hn => omega
    | n + 2, hn =>
      have sp : ∀ l' a', (tk (n + 1) (32 :: joinL [32] (m2 :: ms)) l' a').map (fun q => q.2.2) = m2 :: ms := fun l' a' => by
        have k0 : ∀ r, mk 32 r = [32] := fun r => by unfold mk; rw [if_pos (by decide)]
        rw [tk, k0, if_pos rfl, if_neg (by decide)]
        simp only [List.nil_append, List.length_singleton, Nat.sub_self, List.drop_zero]
        exact tk_join (m2 :: ms) n _ _ (fun x hx => h x (by simp at hx; simp [hx])) (by omega)
      rw [show tk (n + 2) (m ++ 32 :: joinL [32] (m2 :: ms)) l a = tk (n + 2) (c :: (u ++ 32 :: joinL [32] (m2 :: ms))) l a by rw [e]; rfl, tk, e1, if_neg e2, e3]
      simp only [List.map_append, List.map_cons, List.map_nil]
      split <;> rw [sp] <;> rfl
/-! the law's look, sign by sign -/
structure Qd where
  l : Nat
  a : Nat
  m : List Nat
  k : Nat
def sticks (f : List Qd) (l a c : Nat) : Bool := match f.getLast? with
  | some q => decide (0 < kind c ∧ q.k = kind c ∧ q.l = l ∧ q.a + q.m.length = a)
  | none => false
def step (st : List Qd × Nat × Nat) (c : Nat) : List Qd × Nat × Nat :=
  ((if sticks st.1 st.2.1 st.2.2 c then (match st.1.getLast? with
    | some q => st.1.dropLast ++ [⟨q.l, q.a, q.m ++ [c], kind c⟩]
    | none => st.1) else if c = 32 then st.1 else st.1 ++ [⟨st.2.1, st.2.2, [c], kind c⟩]), if c = 10 then (st.2.1 + 1, 0) else (st.2.1, st.2.2 + 1))
def tkOf (q : Qd) : Tk := (q.l, q.a, q.m)
theorem step_run (k : Nat) (hk : 0 < k) : ∀ (u : List Nat) (f : List Qd) (l a : Nat) (m : List Nat), (∀ x ∈ u, kind x = k) → u.foldl step (f ++ [⟨l, a, m, k⟩], l, a + m.length) = (f ++ [⟨l, a, m ++ u, k⟩], l, a + m.length + u.length)
  | [], f, l, a, m, h => by simp
  | c :: u, f, l, a, m, h => by
    have kc : kind c = k := h c (by simp)
    have c10 : c ≠ 10 := fun e => by rw [e, show kind 10 = 0 by decide] at kc; omega
    have st : sticks (f ++ [⟨l, a, m, k⟩]) l (a + m.length) c = true := by
      unfold sticks
      rw [List.getLast?_concat]
      exact decide_eq_true ⟨by omega, kc.symm, rfl, rfl⟩
    have e : step (f ++ [⟨l, a, m, k⟩], l, a + m.length) c = (f ++ [⟨l, a, m ++ [c], k⟩], l, a + (m ++ [c]).length) := by
      unfold step
      simp only [st, if_true, List.getLast?_concat, List.dropLast_concat, kc, if_neg c10, List.length_append, List.length_singleton, Nat.add_assoc]
    rw [List.foldl_cons, e, step_run k hk u f l a (m ++ [c]) fun x hx => h x (by simp [hx])]
    simp only [List.append_assoc, List.singleton_append, List.length_append, List.length_cons, List.length_singleton, List.length_nil]
    congr 2
    omega
theorem kind_le (c : Nat) : kind c = 0 ∨ 0 < kind c := by omega
def Aft (f : List Qd) (l a : Nat) : Prop := ∀ q, f.getLast? = some q → q.l < l ∨ (q.l = l ∧ q.a + q.m.length ≤ a)
def Free (f : List Qd) (l a : Nat) : List Nat → Prop
  | [] => True
  | c :: _ => sticks f l a c = false
theorem look (n : Nat) : ∀ (t : List Nat) (f : List Qd) (l a : Nat), t.length ≤ n → Aft f l a → Free f l a t → ((t.foldl step (f, l, a)).1).map tkOf = f.map tkOf ++ tk n t l a := by
  induction n with
  | zero =>
    intro t f l a h _ _
    obtain rfl : t = [] := List.eq_nil_of_length_eq_zero (by omega)
    simp [tk]
  | succ n ih =>
    intro t f l a h ha hf
    cases t with
    | nil => simp [tk]
    | cons c r =>
      rw [List.length_cons] at h
      have ns : sticks f l a c = false := hf
      rw [tk, List.foldl_cons]
      by_cases k0 : kind c = 0
      · have em : mk c r = [c] := by unfold mk; rw [if_pos k0]
        rw [em]
        have nf : ∀ g : List Qd, ∀ l' a' t', (∀ q, g.getLast? = some q → q.k = 0) → Free g l' a' t' := fun g l' a' t' hg => by
          cases t' with
          | nil => exact trivial
          | cons x t' =>
            show sticks g l' a' x = false
            unfold sticks
            cases e : g.getLast? with
            | none => rfl
            | some q =>
              have := hg q e
              exact decide_eq_false fun ⟨h1, h2, _⟩ => by omega
        by_cases s32 : c = 32
        · subst s32
          have e : step (f, l, a) 32 = (f, l, a + 1) := by
            unfold step
            simp only [ns, Bool.false_eq_true, if_false, if_true, if_neg (show ¬ (32 : Nat) = 10 by decide)]
          rw [e, if_pos rfl, if_neg (by decide)]
          simp only [List.nil_append, List.length_singleton, Nat.sub_self, List.drop_zero]
          refine ih r f l (a + 1) (by omega) (fun q hq => ?_) ?_
          · rcases ha q hq with z | ⟨z1, z2⟩
            · exact .inl z
            · exact .inr ⟨z1, by omega⟩
          · cases r with
            | nil => exact trivial
            | cons x r =>
              show sticks f l (a + 1) x = false
              unfold sticks
              cases e : f.getLast? with
              | none => rfl
              | some q =>
                refine decide_eq_false fun ⟨h1, h2, h3, h4⟩ => ?_
                rcases ha q e with z | ⟨z1, z2⟩ <;> omega
        · have n32 : [c] ≠ [32] := fun z => s32 (by simpa using z)
          rw [if_neg n32]
          by_cases c10 : c = 10
          · subst c10
            have e : step (f, l, a) 10 = (f ++ [⟨l, a, [10], 0⟩], l + 1, 0) := by
              unfold step
              simp only [ns, Bool.false_eq_true, if_false, if_true, if_neg s32]
              rfl
            rw [e, if_pos rfl]
            simp only [List.length_singleton, Nat.sub_self, List.drop_zero]
            rw [ih r _ (l + 1) 0 (by omega) (fun q hq => ?_) (nf _ _ _ _ fun q hq => ?_)]
            · simp [tkOf]
            · rw [List.getLast?_concat] at hq; cases hq; exact .inl (by show l < l + 1; omega)
            · rw [List.getLast?_concat] at hq; cases hq; rfl
          · have e : step (f, l, a) c = (f ++ [⟨l, a, [c], 0⟩], l, a + 1) := by
              unfold step
              simp only [ns, Bool.false_eq_true, if_false, if_neg s32, if_neg c10, k0]
            rw [e, if_neg (fun z => c10 (by simpa using z))]
            simp only [List.length_singleton, Nat.sub_self, List.drop_zero]
            rw [ih r _ l (a + 1) (by omega) (fun q hq => ?_) (nf _ _ _ _ fun q hq => ?_)]
            · simp [tkOf]
            · rw [List.getLast?_concat] at hq; cases hq; exact .inr ⟨rfl, by simp⟩
            · rw [List.getLast?_concat] at hq; cases hq; rfl
      · have kp : 0 < kind c := by omega
        have s32 : c ≠ 32 := fun e => k0 (by rw [e]; decide)
        have c10 : c ≠ 10 := fun e => k0 (by rw [e]; decide)
        have em : mk c r = c :: r.takeWhile fun x => kind x == kind c := by unfold mk; rw [if_neg k0]
        have e : step (f, l, a) c = (f ++ [⟨l, a, [c], kind c⟩], l, a + [c].length) := by
          unfold step
          simp only [ns, Bool.false_eq_true, if_false, if_neg s32, if_neg c10, List.length_singleton]
        have n32 : mk c r ≠ [32] := fun z => by rw [em] at z; exact s32 (by simpa using congrArg List.head? z)
        have n10 : mk c r ≠ [10] := fun z => by rw [em] at z; exact c10 (by simpa using congrArg List.head? z)
        rw [if_neg n32, if_neg n10, e]
        generalize hu : (r.takeWhile fun x => kind x == kind c) = u at em
        have hd : r = u ++ r.drop u.length := by
          rw [← hu]
          have := List.takeWhile_append_dropWhile (p := fun x => kind x == kind c) (l := r)
          have k : r.drop (r.takeWhile fun x => kind x == kind c).length = r.dropWhile fun x => kind x == kind c := by
            conv => lhs; rw [← this]
            rw [this]
            conv => lhs; arg 2; rw [← this]
            rw [List.drop_left]
          rw [k, this]
        have hk : ∀ x ∈ u, kind x = kind c := fun x hx => by
          rw [← hu] at hx
          have := tw_mem hx
          simpa using this
        rw [em, show (c :: u).length - 1 = u.length by simp]
        conv => lhs; rw [hd]
        rw [List.foldl_append, step_run (kind c) kp u f l a [c] hk, List.singleton_append]
        have dl : (r.drop u.length).length ≤ n := by rw [List.length_drop]; omega
        rw [ih (r.drop u.length) _ l _ dl (fun q hq => ?_) ?_]
        · simp only [List.map_append, List.map_cons, List.map_nil, tkOf, List.append_assoc, List.singleton_append, List.length_singleton]
          rw [show a + 1 + u.length = a + (c :: u).length by rw [List.length_cons]; omega]
        · cases e2 : r.drop u.length with
          | nil => exact trivial
          | cons x s =>
            show sticks _ _ _ x = false
            unfold sticks
            rw [List.getLast?_concat]
            refine decide_eq_false fun ⟨h1, h2, _⟩ => ?_
            -- u ends where x is of another kind
            have hx : kind x ≠ kind c := fun z => by
              have t1 : r.takeWhile (fun y => kind y == kind c) = u := hu
              rw [hd, e2] at t1
              have : (u ++ x :: s).takeWhile (fun y => kind y == kind c) = u ++ (x :: s).takeWhile fun y => kind y == kind c := by
                rw [List.takeWhile_append_of_pos (fun y hy => by simpa using hk y hy)]
              rw [this, List.takeWhile_cons, if_pos (by simpa using z)] at t1
              have := congrArg List.length t1
              simp at this
            exact hx h2.symm
        · rw [List.getLast?_concat] at hq; cases hq
          exact .inr ⟨rfl, by simp only [List.length_cons, List.length_nil]; omega⟩
theorem look0 (t : List Nat) : ((t.foldl step ([], 0, 0)).1).map tkOf = tk t.length t 0 0 := by
  have := look t.length t [] 0 0 (Nat.le_refl _) (fun q h => by simp at h) (by cases t <;> first | exact trivial | rfl)
  simpa using this
end Dl
-- M5
namespace Dl

noncomputable def m_run_end : List D → M Unit D := defM 3 3 (seqS (whlS (andQ (cmpQ ltO blO (varR 1) (op1 lenO (varR 0))) (cmpQ inO blO (op2 ixO (varR 0) (varR 1)) (varR 2))) (asgS 1 (op2 addO (varR 1) (cE (.int 1))))) (retS (varE 1)))
noncomputable def m_mark_at : List D → M Unit D := defM 2 2 (seqS (ifS (cmpQ inO blO (op2 ixO (varR 0) (varR 1)) (cE (.str [97, 98, 99, 100, 101, 102, 103, 104, 105, 106, 107, 108, 109, 110, 111, 112, 113, 114, 115, 116, 117, 118, 119, 120, 121, 122]))) (retS (slE (varR 0) (ptS (varR 1)) (ptS (callE (fun ds => lift (m_run_end ds)) (argCons (varE 0) (argCons (varE 1) (argCons (cE (.str [97, 98, 99, 100, 101, 102, 103, 104, 105, 106, 107, 108, 109, 110, 111, 112, 113, 114, 115, 116, 117, 118, 119, 120, 121, 122])) (argNil)))))))) (nopS)) (retS (ifE (cmpQ inO blO (op2 ixO (varR 0) (varR 1)) (cE (.str [48, 49, 50, 51, 52, 53, 54, 55, 56, 57]))) (slE (varR 0) (ptS (varR 1)) (ptS (callE (fun ds => lift (m_run_end ds)) (argCons (varE 0) (argCons (varE 1) (argCons (cE (.str [48, 49, 50, 51, 52, 53, 54, 55, 56, 57])) (argNil))))))) (op2 ixO (varR 0) (varR 1)))))
noncomputable def m_marks_of : List D → M Unit D := defM 6 1 (seqS (parS [1, 2, 3, 4] (mixOwn (disO (argNil)) (mixVal (cE (.int 0)) (mixVal (cE (.int 0)) (mixVal (cE (.int 0)) (mixNil)))))) (seqS (whlS (cmpQ ltO blO (varR 4) (op1 lenO (varR 0))) (seqS (asgS 5 (callE (fun ds => lift (m_mark_at ds)) (argCons (varE 0) (argCons (varE 4) (argNil))))) (seqS (ifS (cmpQ neO blO (varR 5) (cE (.str [32]))) (mutS 1 (tupE (argCons (varE 2) (argCons (op2 subO (varR 4) (varR 3)) (argCons (varE 5) (argNil))))) appF) (nopS)) (seqS (asgS 4 (op2 addO (varR 4) (op1 lenO (varR 5)))) (ifS (cmpQ eqO blO (varR 5) (cE (.str [10]))) (parS [2, 3] (mixVal (op2 addO (varR 2) (cE (.int 1))) (mixVal (varE 4) (mixNil)))) (nopS)))))) (retS (op1 toTupO (varR 1)))))
noncomputable def h_1 : SM Unit := heap1 50021
noncomputable def h_2 : SM Unit := heap2 69621 2147483563 29 2147483647
noncomputable def h_3 : EvM Unit (List D) := heap3
noncomputable def h_4 : EvM Unit D := heap4
theorem heap_math (ns : List Int) : ∃ ρ1 cells st, (seqS h_1 h_2) (.val (.lst (ns.map D.int)) :: List.replicate 3 .emp) () = .nx ρ1 () ∧ h_3 ρ1 () = .ok ((cells : List Int).map D.int) () ∧ h_4 ρ1 () = .ok (.int st) () ∧ cells.length ≤ 60 := heap_all 50021 69621 2147483563 29 2147483647 (by decide) (by decide) (by decide) ns
noncomputable def m__law_draw : List D → M DS D := drawM 48271 17
noncomputable def m__law_pick : List D → M DS D := defM 2 2 (retS (op2 ixO (varR 1) (callE m__law_draw (argCons (varE 0) (argCons (op1 lenO (varR 1)) (argNil))))))
noncomputable def m__law_sort : List D → M Unit D := defM 1 1 (seqS (ifS (op1 blO (chE leO leO blO (cE (.str [97])) (varR 0) (cE (.str [122])))) (retS (cE (.int 1))) (nopS)) (retS (ifE (op1 blO (chE leO leO blO (cE (.str [48])) (varR 0) (cE (.str [57])))) (cE (.int 2)) (cE (.int 0)))))
noncomputable def m__law_marks : List D → M Unit D := defM 7 1 (seqS (parS [1, 2, 3] (mixOwn (disO (argNil)) (mixVal (cE (.int 0)) (mixVal (cE (.int 0)) (mixNil))))) (seqS (forS (op1 itO (varE 0)) (tgN 4) (seqS (asgS 5 (callE (fun ds => lift (m__law_sort ds)) (argCons (varE 4) (argNil)))) (seqS (ifS (andQ (cmpQ gtO blO (varR 5) (cE (.int 0))) (andQ (cmpQ neO blO (varR 1) (lstE (disO (argNil)))) (andQ (cmpQ eqO blO (op2 ixO (op2 ixO (varR 1) (op1 negO (cE (.int 1)))) (cE (.int 3))) (varR 5)) (cmpQ eqO blO (slE (op2 ixO (varR 1) (op1 negO (cE (.int 1)))) ptN (ptS (cE (.int 2)))) (tupE (argCons (varE 2) (argCons (op2 subO (varR 3) (op1 lenO (op2 ixO (op2 ixO (varR 1) (op1 negO (cE (.int 1)))) (cE (.int 2))))) (argNil)))))))) (putS 1 (op1 negO (cE (.int 1))) (op2 addO (slE (op2 ixO (varR 1) (op1 negO (cE (.int 1)))) ptN (ptS (cE (.int 2)))) (tupE (argCons (op2 addO (op2 ixO (op2 ixO (varR 1) (op1 negO (cE (.int 1)))) (cE (.int 2))) (varR 4)) (argCons (varE 5) (argNil)))))) (ifS (cmpQ neO blO (varR 4) (cE (.str [32]))) (mutS 1 (tupE (argCons (varE 2) (argCons (varE 3) (argCons (varE 4) (argCons (varE 5) (argNil)))))) appF) (nopS))) (asgT (ifE (cmpQ eqO blO (varR 4) (cE (.str [10]))) (tupE (argCons (op2 addO (varR 2) (cE (.int 1))) (argCons (cE (.int 0)) (argNil)))) (tupE (argCons (varE 2) (argCons (op2 addO (varR 3) (cE (.int 1))) (argNil))))) (tgT (tgCons (tgN 2) (tgCons (tgN 3) (tgNil)))))))) (frzS 1 (retS (lstE (lcO (op1 itO (varE 1)) [6] (tgN 6) (yesQ) (slE (varR 6) ptN (ptS (cE (.int 3))))))))))
noncomputable def m__law_piece : List D → M DS D := defM 4 1 (seqS (asgS 1 (callE m__law_draw (argCons (varE 0) (argCons (cE (.int 9)) (argNil))))) (seqS (ifS (cmpQ ltO blO (varR 1) (cE (.int 2))) (retS (sm1 joinO (cE (.str [])) (lstE (lcO (op1 rng1 (op2 addO (cE (.int 1)) (callE m__law_draw (argCons (varE 0) (argCons (callE m__law_pick (argCons (varE 0) (argCons (lstE (disO (argCons (cE (.int 3)) (argCons (cE (.int 7)) (argCons (cE (.int 30)) (argNil)))))) (argNil)))) (argNil)))))) [2] (tgN 2) (yesQ) (op2 ixO (cE (.str [97, 98, 99, 120, 121, 122, 110, 111, 114, 117])) (callE m__law_draw (argCons (varE 0) (argCons (cE (.int 10)) (argNil))))))))) (nopS)) (seqS (ifS (cmpQ ltO blO (varR 1) (cE (.int 4))) (retS (sm1 joinO (cE (.str [])) (lstE (lcO (op1 rng1 (op2 addO (cE (.int 1)) (callE m__law_draw (argCons (varE 0) (argCons (callE m__law_pick (argCons (varE 0) (argCons (lstE (disO (argCons (cE (.int 2)) (argCons (cE (.int 4)) (argCons (cE (.int 8)) (argNil)))))) (argNil)))) (argNil)))))) [2] (tgN 2) (yesQ) (op2 ixO (cE (.str [48, 49, 50, 51, 52, 53, 54, 55, 56, 57])) (callE m__law_draw (argCons (varE 0) (argCons (cE (.int 10)) (argNil))))))))) (nopS)) (seqS (ifS (cmpQ eqO blO (varR 1) (cE (.int 4))) (retS (op2 mulA (cE (.str [32])) (op2 addO (cE (.int 1)) (callE m__law_draw (argCons (varE 0) (argCons (cE (.int 3)) (argNil))))))) (nopS)) (seqS (asgS 3 (lstE (disO (argCons (cE (.str [10])) (argCons (cE (.str [61])) (argCons (cE (.str [47])) (argCons (cE (.str [45])) (argCons (cE (.str [44])) (argCons (cE (.str [59])) (argCons (cE (.str [58])) (argCons (cE (.str [33])) (argCons (cE (.str [38])) (argCons (cE (.str [124])) (argCons (cE (.str [40])) (argCons (cE (.str [41])) (argCons (cE (.str [65])) (argCons (cE (.str [90])) (argCons (cE (.str [126])) (argCons (cE (.str [95])) (argCons (cE (.str [64])) (argCons (cE (.str [123])) (argCons (cE (.str [91])) (argCons (cE (.str [63])) (argCons (cE (.str [10])) (argCons (cE (.str [46])) (argCons (cE (.str [36])) (argNil))))))))))))))))))))))))))) (retS (callE m__law_pick (argCons (varE 0) (argCons (op2 addO (varR 3) (lstE (disO (argCons (cE (.str [92])) (argCons (cE (.str [35])) (argCons (cE (.str [42])) (argCons (cE (.str [96])) (argCons (cE (.str [43])) (argCons (cE (.str [45])) (argCons (cE (.str [61])) (argNil))))))))))) (argNil))))))))))
noncomputable def m_law : SM DS := seqS (forS (op1 rng1 (op2 addO (cE (.int 3)) (op2 mulA (cE (.int 3)) (op1 toIntO (op2 gtO (op1 lenO (varR 0)) (cE (.int 2))))))) (tgN 2) (seqS (asgS 3 (sm1 joinO (cE (.str [])) (lstE (lcO (op1 rng1 (callE m__law_pick (argCons (varE 1) (argCons (lstE (disO (argCons (cE (.int 5)) (argCons (cE (.int 20)) (argCons (cE (.int 1)) (argCons (cE (.int 60)) (argCons (cE (.int 0)) (argNil)))))))) (argNil))))) [4] (tgN 4) (yesQ) (callE m__law_piece (argCons (varE 1) (argNil))))))) (seqS (asgS 3 (ifE (cmpQ eqO blO (callE m__law_draw (argCons (varE 1) (argCons (cE (.int 5)) (argNil)))) (cE (.int 0))) (op2 addO (op2 addO (op2 addO (op2 addO (op2 mulA (cE (.str [55])) (cE (.int 390))) (cE (.str [32]))) (varR 3)) (cE (.str [61]))) (op2 mulA (cE (.str [49, 50])) (cE (.int 190)))) (varE 3))) (seqS (asgS 5 (op1 toTupO (callE (fun ds => lift (m__law_marks ds)) (argCons (varE 3) (argNil))))) (seqS (asgS 6 (callE (fun ds => lift (m_marks_of ds)) (argCons (varE 3) (argNil)))) (seqS (ifS (orQ (cmpQ neO blO (op1 (reprO shD) (varR 6)) (op1 (reprO shD) (varR 5))) (cmpQ neO blO (callE (fun ds => lift (m_marks_of ds)) (permE [0] (argCons (varE 3) (argNil)))) (varR 6))) (retS (cE (.bl false))) (nopS)) (seqS (asgS 7 (sm1 joinO (cE (.str [32])) (lstE (lcO (op1 itO (varE 5)) [8, 9, 10] (tgT (tgCons (tgN 8) (tgCons (tgN 9) (tgCons (tgN 10) (tgNil))))) (yesQ) (varE 10))))) (ifS (cmpQ neO blO (lstE (lcO (op1 itO (callE (fun ds => lift (m_marks_of ds)) (argCons (varE 7) (argNil)))) [8, 9, 10] (tgT (tgCons (tgN 8) (tgCons (tgN 9) (tgCons (tgN 10) (tgNil))))) (yesQ) (varE 10))) (lstE (lcO (op1 itO (varE 5)) [8, 9, 10] (tgT (tgCons (tgN 8) (tgCons (tgN 9) (tgCons (tgN 10) (tgNil))))) (yesQ) (varE 10)))) (retS (cE (.bl false))) (nopS))))))))) (seqS (ifS (orQ (cmpQ neO blO (callE (fun ds => lift (m_marks_of ds)) (argCons (cE (.str [])) (argNil))) (tupE (argNil))) (orQ (cmpQ neO blO (callE (fun ds => lift (m_marks_of ds)) (argCons (cE (.str [32, 32])) (argNil))) (tupE (argNil))) (cmpQ neO blO (callE (fun ds => lift (m_marks_of ds)) (argCons (cE (.str [32, 10])) (argNil))) (tupE (argCons (tupE (argCons (cE (.int 0)) (argCons (cE (.int 1)) (argCons (cE (.str [10])) (argNil))))) (argNil)))))) (retS (cE (.bl false))) (nopS)) (retS (op2 eqO (callE (fun ds => lift (m_marks_of ds)) (argCons (cE (.str [116, 101, 97, 32, 45, 55, 47, 50, 61, 32, 52, 10, 10, 32, 55, 120])) (argNil))) (tupE (argCons (tupE (argCons (cE (.int 0)) (argCons (cE (.int 0)) (argCons (cE (.str [116, 101, 97])) (argNil))))) (argCons (tupE (argCons (cE (.int 0)) (argCons (cE (.int 4)) (argCons (cE (.str [45])) (argNil))))) (argCons (tupE (argCons (cE (.int 0)) (argCons (cE (.int 5)) (argCons (cE (.str [55])) (argNil))))) (argCons (tupE (argCons (cE (.int 0)) (argCons (cE (.int 6)) (argCons (cE (.str [47])) (argNil))))) (argCons (tupE (argCons (cE (.int 0)) (argCons (cE (.int 7)) (argCons (cE (.str [50])) (argNil))))) (argCons (tupE (argCons (cE (.int 0)) (argCons (cE (.int 8)) (argCons (cE (.str [61])) (argNil))))) (argCons (tupE (argCons (cE (.int 0)) (argCons (cE (.int 10)) (argCons (cE (.str [52])) (argNil))))) (argCons (tupE (argCons (cE (.int 0)) (argCons (cE (.int 11)) (argCons (cE (.str [10])) (argNil))))) (argCons (tupE (argCons (cE (.int 1)) (argCons (cE (.int 0)) (argCons (cE (.str [10])) (argNil))))) (argCons (tupE (argCons (cE (.int 2)) (argCons (cE (.int 1)) (argCons (cE (.str [55])) (argNil))))) (argCons (tupE (argCons (cE (.int 2)) (argCons (cE (.int 2)) (argCons (cE (.str [120])) (argNil))))) (argNil))))))))))))))))
end Dl
-- X5
namespace Dl
/-! ## the defs of k05 -/
theorem ix_nat {t : List Nat} {a : Nat} {c : Nat} (hf : fit t.length = true) (h : t[a]? = some c) : ixO (.str t) (.int (a : Int)) = some (.str [c]) := by
  have hl := (List.getElem?_eq_some_iff.mp h).1
  unfold ixO
  dsimp only
  rw [if_pos hf]
  unfold ixP
  rw [if_pos (by omega), if_pos (by omega)]
  simp only [Option.bind_some, Int.toNat_natCast, h, Option.map_some]
theorem cut_nat {α : Type} (xs : List α) (a b : Nat) (h : a ≤ b) (hb : b ≤ xs.length) : cut xs (some (a : Int)) (some (b : Int)) = (xs.drop a).take (b - a) := by
  unfold cut slP
  dsimp only
  rw [if_neg (by omega), if_neg (by omega), Int.toNat_natCast, Int.toNat_natCast, Nat.min_eq_left hb, Nat.min_eq_left (show a ≤ xs.length by omega)]
theorem lt_nat (a b : Nat) : ltO (.int (a : Int)) (.int (b : Int)) = some (.bl (decide (a < b))) := by
  unfold ltO
  simp
def reT : EvM Unit Bool := andQ (cmpQ ltO blO (varR 1) (op1 lenO (varR 0))) (cmpQ inO blO (op2 ixO (varR 0) (varR 1)) (varR 2))
def reB : SM Unit := asgS 1 (op2 addO (varR 1) (cE (.int 1)))
theorem re_loop (t sg : List Nat) (hf : fit t.length = true) : ∀ (n a : Nat), t.length - a = n → a ≤ t.length →
    whlS reT reB [.val (.str t), .val (.int (a : Int)), .val (.str sg)] () = .nx [.val (.str t), .val (.int ((a + ((t.drop a).takeWhile fun x => decide (x ∈ sg)).length : Nat) : Int)), .val (.str sg)] () := by
  intro n
  induction n with
  | zero =>
    intro a h ha
    have e : a = t.length := by omega
    rw [whlS_eq]
    subst e
    simp only [reT, andQ, cmpQ, op1, op2, varR, slot0, slotS, bind_run, pure_run, lenO, hf, if_true, opt_some, lt_nat, Nat.lt_irrefl, decide_false, blO, Bool.false_eq_true, if_false, List.drop_length, List.takeWhile_nil, List.length_nil, Nat.add_zero]
  | succ n ih =>
    intro a h ha
    obtain ⟨c, hc⟩ : ∃ c, t[a]? = some c := ⟨t[a]'(by omega), by simp⟩
    have hd : t.drop a = c :: t.drop (a + 1) := by
      rw [List.drop_eq_getElem_cons (by omega)]
      have := (List.getElem?_eq_some_iff.mp hc).2
      rw [this]
    rw [whlS_eq, hd, List.takeWhile_cons]
    have lt : a < t.length := by omega
    by_cases m : c ∈ sg
    · have := ih (a + 1) (by omega) (by omega)
      simp only [reT, andQ, cmpQ, op1, op2, varR, slot0, slotS, bind_run, pure_run, lenO, hf, if_true, opt_some, lt_nat, lt, decide_true, blO, ix_nat hf hc, inO, m, reB, asgS, bindS, cE, addO, List.set_cons_zero, List.set_cons_succ, List.length_cons]
      rw [show ((a : Int) + 1) = ((a + 1 : Nat) : Int) by omega]
      have e2 : a + (((t.drop (a + 1)).takeWhile fun x => decide (x ∈ sg)).length + 1) = a + 1 + ((t.drop (a + 1)).takeWhile fun x => decide (x ∈ sg)).length := by omega
      rw [e2]
      exact this
    · simp only [reT, andQ, cmpQ, op1, op2, varR, slot0, slotS, bind_run, pure_run, lenO, hf, if_true, opt_some, lt_nat, lt, decide_true, blO, ix_nat hf hc, inO, m, decide_false, Bool.false_eq_true, if_false, List.length_nil, Nat.add_zero]
theorem re_run (t sg : List Nat) (a : Nat) (hf : fit t.length = true) (ha : a ≤ t.length) : m_run_end [.str t, .int (a : Int), .str sg] () = .ok (.int ((a + ((t.drop a).takeWhile fun x => decide (x ∈ sg)).length : Nat) : Int)) () := by
  show outM (seqS (whlS reT reB) (retS (varE 1)) [.val (.str t), .val (.int (a : Int)), .val (.str sg)] ()) = _
  unfold seqS
  simp only [re_loop t sg hf _ a rfl ha, retS, bindS, varE, slotS, slot0, pure_run, outM]
abbrev abc : List Nat := [97, 98, 99, 100, 101, 102, 103, 104, 105, 106, 107, 108, 109, 110, 111, 112, 113, 114, 115, 116, 117, 118, 119, 120, 121, 122]
abbrev dig : List Nat := [48, 49, 50, 51, 52, 53, 54, 55, 56, 57]
theorem abc_iff (c : Nat) : c ∈ abc ↔ kind c = 1 := by
  unfold kind abc
  constructor
  · intro h
    simp only [List.mem_cons, List.not_mem_nil, or_false] at h
    rw [if_pos (by omega)]
  · intro h
    simp only [List.mem_cons, List.not_mem_nil, or_false]
    split at h
    · omega
    · split at h <;> cases h
theorem dig_iff (c : Nat) : c ∈ dig ↔ kind c = 2 := by
  unfold kind dig
  constructor
  · intro h
    simp only [List.mem_cons, List.not_mem_nil, or_false] at h
    rw [if_neg (by omega), if_pos (by omega)]
  · intro h
    simp only [List.mem_cons, List.not_mem_nil, or_false]
    split at h
    · cases h
    · split at h
      · omega
      · cases h
theorem kind3 (c : Nat) : kind c = 0 ∨ kind c = 1 ∨ kind c = 2 := by
  unfold kind
  split
  · simp
  · split <;> simp
theorem tw_eq {p q : Nat → Bool} (h : ∀ x, p x = q x) (l : List Nat) : l.takeWhile p = l.takeWhile q := by
  rw [show p = q from funext h]
theorem take_tw (p : Nat → Bool) : ∀ l : List Nat, l.take (l.takeWhile p).length = l.takeWhile p
  | [] => rfl
  | x :: xs => by
    rw [List.takeWhile_cons]
    split
    · rw [List.length_cons, List.take_succ_cons, take_tw p xs]
    · simp
theorem mark_run (t : List Nat) (a c : Nat) (hf : fit t.length = true) (hc : t[a]? = some c) : m_mark_at [.str t, .int (a : Int)] () = .ok (.str (mk c (t.drop (a + 1)))) () := by
  have lt := (List.getElem?_eq_some_iff.mp hc).1
  have hd : t.drop a = c :: t.drop (a + 1) := by
    rw [List.drop_eq_getElem_cons (by omega)]
    have := (List.getElem?_eq_some_iff.mp hc).2
    rw [this]
  have seg : ∀ (sg : List Nat) (k : Nat), (∀ x, x ∈ sg ↔ kind x = k) → kind c = k → k ≠ 0 → cut t (some (a : Int)) (some ((a + ((t.drop a).takeWhile fun x => decide (x ∈ sg)).length : Nat) : Int)) = mk c (t.drop (a + 1)) := fun sg k hs hk h0 => by
    have le : ((t.drop a).takeWhile fun x => decide (x ∈ sg)).length ≤ t.length - a := by
      have := (List.takeWhile_sublist (l := t.drop a) fun x => decide (x ∈ sg)).length_le
      rw [List.length_drop] at this
      exact this
    rw [cut_nat _ _ _ (by omega) (by omega), Nat.add_sub_cancel_left, take_tw, hd, List.takeWhile_cons, if_pos (decide_eq_true ((hs c).mpr hk))]
    unfold mk
    rw [if_neg (by omega), hk]
    congr 1
    exact tw_eq (fun x => by rw [Bool.eq_iff_iff, decide_eq_true_iff, beq_iff_eq]; exact hs x) _
  show outM _ = _
  simp only [List.map_cons, List.map_nil, List.cons_append, List.nil_append, List.replicate]
  have e1 := re_run t abc a hf (by omega)
  have e2 := re_run t dig a hf (by omega)
  by_cases k1 : kind c = 1
  · have m1 := (abc_iff c).mpr k1
    have s := seg abc 1 abc_iff k1 (by decide)
    simp only [seqS, ifS, bindS, cmpQ, op1, op2, varR, slot0, slotS, bind_run, pure_run, ix_nat hf hc, opt_some, cE, inO, m1, decide_true, blO, if_true, retS, slE, ptS, callE, argCons, argNil, varE, lift, e1, intO, Option.map_some, slO, hf, s, outM]
  · have m1 : ¬ c ∈ abc := fun h => k1 ((abc_iff c).mp h)
    by_cases k2 : kind c = 2
    · have m2 := (dig_iff c).mpr k2
      have s := seg dig 2 dig_iff k2 (by decide)
      simp only [seqS, ifS, ifE, nopS, bindS, cmpQ, op1, op2, varR, slot0, slotS, bind_run, pure_run, ix_nat hf hc, opt_some, cE, inO, m1, m2, decide_true, decide_false, Bool.false_eq_true, if_false, blO, if_true, retS, slE, ptS, callE, argCons, argNil, varE, lift, e2, intO, Option.map_some, slO, hf, s, outM]
    · have m2 : ¬ c ∈ dig := fun h => k2 ((dig_iff c).mp h)
      have k0 : kind c = 0 := by rcases kind3 c with h | h | h <;> omega
      have em : mk c (t.drop (a + 1)) = [c] := by unfold mk; rw [if_pos k0]
      simp only [seqS, ifS, ifE, nopS, bindS, cmpQ, op1, op2, varR, slot0, slotS, bind_run, pure_run, ix_nat hf hc, opt_some, cE, inO, m1, m2, decide_false, Bool.false_eq_true, if_false, blO, if_true, retS, em, outM]
end Dl
-- X6
namespace Dl
def tkD (q : Tk) : D := .tup [.int (q.1 : Int), .int (q.2.1 : Int), .str q.2.2]
def moT : EvM Unit Bool := cmpQ ltO blO (varR 4) (op1 lenO (varR 0))
noncomputable def moB : SM Unit := seqS (asgS 5 (callE (fun ds => lift (m_mark_at ds)) (argCons (varE 0) (argCons (varE 4) (argNil))))) (seqS (ifS (cmpQ neO blO (varR 5) (cE (.str [32]))) (mutS 1 (tupE (argCons (varE 2) (argCons (op2 subO (varR 4) (varR 3)) (argCons (varE 5) (argNil))))) appF) (nopS)) (seqS (asgS 4 (op2 addO (varR 4) (op1 lenO (varR 5)))) (ifS (cmpQ eqO blO (varR 5) (cE (.str [10]))) (parS [2, 3] (mixVal (op2 addO (varR 2) (cE (.int 1))) (mixVal (varE 4) (mixNil)))) (nopS))))
theorem ne_str (x y : List Nat) : neO (.str x) (.str y) = some (.bl (!(x == y))) := by
  unfold neO
  simp [twoStr, eqv]
theorem eq_str (x y : List Nat) : eqO (.str x) (.str y) = some (.bl (x == y)) := by
  unfold eqO
  simp [twoStr, eqv]
theorem fit3 : fit (1 + 1 + 1) = true := by decide
theorem mo_turn (t : List Nat) (hf : fit t.length = true) (F : List D) (l s a : Nat) (q : Slot) (c : Nat) (hc : t[a]? = some c) (hs : s ≤ a) (hF : F.length ≤ a) (m : List Nat) (hm : m = mk c (t.drop (a + 1))) :
    moB [.val (.str t), .own F, .val (.int (l : Int)), .val (.int (s : Int)), .val (.int (a : Int)), q] () =
      .nx [.val (.str t), .own (F ++ (if m = [32] then ([] : List Tk) else [(l, a - s, m)]).map tkD), .val (.int ((if m = [10] then l + 1 else l : Nat) : Int)), .val (.int ((if m = [10] then a + m.length else s : Nat) : Int)), .val (.int ((a + m.length : Nat) : Int)), .val (.str m)] () := by
  have lt := (List.getElem?_eq_some_iff.mp hc).1
  have mr := mark_run t a c hf hc
  rw [← hm] at mr
  have hft : t.length ≤ 16777216 := of_decide_eq_true hf
  have lm := mk_len c (t.drop (a + 1))
  rw [← hm, List.length_drop] at lm
  have fm : fit m.length = true := decide_eq_true (by omega)
  have ap : F.length < 16777216 := by omega
  have sb : (a : Int) - (s : Int) = ((a - s : Nat) : Int) := by omega
  have ad : (a : Int) + (m.length : Int) = ((a + m.length : Nat) : Int) := by omega
  have l1 : (l : Int) + 1 = ((l + 1 : Nat) : Int) := by omega
  unfold moB
  by_cases z32 : m = [32]
  · have z10 : m ≠ [10] := by rw [z32]; decide
    have b1 : (m == [32]) = true := by simpa using z32
    have b2 : (m == [10]) = false := by simpa using z10
    simp only [seqS, asgS, bindS, callE, argCons, argNil, varE, varR, slot0, slotS, bind_run, pure_run, lift, mr, List.set_cons_zero, List.set_cons_succ, ifS, cmpQ, op1, op2, cE, ne_str, eq_str, b1, b2, Bool.not_true, Bool.not_false, opt_some, blO, Bool.false_eq_true, if_false, if_true, nopS, lenO, fm, addO, ad, if_pos z32, if_neg z10, List.map_nil, List.append_nil]
  · have b1 : (m == [32]) = false := by simpa using z32
    by_cases z10 : m = [10]
    · have b2 : (m == [10]) = true := by simpa using z10
      simp only [seqS, asgS, bindS, callE, argCons, argNil, varE, varR, slot0, slotS, bind_run, pure_run, lift, mr, List.set_cons_zero, List.set_cons_succ, ifS, cmpQ, op1, op2, cE, ne_str, eq_str, b1, b2, Bool.not_true, Bool.not_false, opt_some, blO, Bool.false_eq_true, if_false, if_true, nopS, lenO, fm, addO, ad, if_neg z32, if_pos z10, mutS, tupE, subO, sb, List.length_cons, List.length_nil, Nat.zero_add, fit3, appF, ap, parS, mixVal, mixNil, setAll, l1, List.map_cons, List.map_nil, tkD]
    · have b2 : (m == [10]) = false := by simpa using z10
      simp only [seqS, asgS, bindS, callE, argCons, argNil, varE, varR, slot0, slotS, bind_run, pure_run, lift, mr, List.set_cons_zero, List.set_cons_succ, ifS, cmpQ, op1, op2, cE, ne_str, eq_str, b1, b2, Bool.not_true, Bool.not_false, opt_some, blO, Bool.false_eq_true, if_false, if_true, nopS, lenO, fm, addO, ad, if_neg z32, if_neg z10, mutS, tupE, subO, sb, List.length_cons, List.length_nil, Nat.zero_add, fit3, appF, ap, List.map_cons, List.map_nil, tkD]
theorem mo_loop (t : List Nat) (hf : fit t.length = true) : ∀ (n : Nat) (F : List D) (l s a : Nat) (q : Slot), t.length - a ≤ n → a ≤ t.length → s ≤ a → F.length ≤ a →
    ∃ l' s' q', whlS moT moB [.val (.str t), .own F, .val (.int (l : Int)), .val (.int (s : Int)), .val (.int (a : Int)), q] () =
      .nx [.val (.str t), .own (F ++ (tk n (t.drop a) l (a - s)).map tkD), .val (.int l'), .val (.int s'), .val (.int ((t.length : Nat) : Int)), q'] () := by
  intro n
  induction n with
  | zero =>
    intro F l s a q h ha hs hF
    have e : a = t.length := by omega
    subst e
    refine ⟨l, s, q, ?_⟩
    rw [whlS_eq]
    simp only [moT, cmpQ, op1, op2, varR, slot0, slotS, bind_run, pure_run, lenO, hf, if_true, opt_some, lt_nat, Nat.lt_irrefl, decide_false, blO, tk, List.map_nil, List.append_nil]
  | succ n ih =>
    intro F l s a q h ha hs hF
    by_cases e : a = t.length
    · subst e
      refine ⟨l, s, q, ?_⟩
      rw [whlS_eq, List.drop_length, tk_nil]
      simp only [moT, cmpQ, op1, op2, varR, slot0, slotS, bind_run, pure_run, lenO, hf, if_true, opt_some, lt_nat, Nat.lt_irrefl, decide_false, blO, List.map_nil, List.append_nil]
    · have lt : a < t.length := by omega
      obtain ⟨c, hc⟩ : ∃ c, t[a]? = some c := ⟨t[a]'lt, by simp⟩
      have hd : t.drop a = c :: t.drop (a + 1) := by
        rw [List.drop_eq_getElem_cons (by omega)]
        have := (List.getElem?_eq_some_iff.mp hc).2
        rw [this]
      obtain ⟨m, hm⟩ : ∃ m, m = mk c (t.drop (a + 1)) := ⟨_, rfl⟩
      have lm := mk_len c (t.drop (a + 1))
      rw [← hm, List.length_drop] at lm
      have turn := mo_turn t hf F l s a q c hc hs hF m hm
      have hF2 : (F ++ (if m = [32] then ([] : List Tk) else [(l, a - s, m)]).map tkD).length ≤ a + m.length := by
        rw [List.length_append, List.length_map]
        split <;> simp <;> omega
      obtain ⟨l', s', q', e2⟩ := ih (F ++ (if m = [32] then ([] : List Tk) else [(l, a - s, m)]).map tkD) (if m = [10] then l + 1 else l) (if m = [10] then a + m.length else s) (a + m.length) (.val (.str m)) (by omega) (by omega) (by split <;> omega) hF2
      refine ⟨l', s', q', ?_⟩
      rw [whlS_eq]
      have test : moT [.val (.str t), .own F, .val (.int (l : Int)), .val (.int (s : Int)), .val (.int (a : Int)), q] () = .ok true () := by
        simp only [moT, cmpQ, op1, op2, varR, slot0, slotS, bind_run, pure_run, lenO, hf, if_true, opt_some, lt_nat, lt, decide_true, blO]
      simp only [test, turn]
      rw [e2, hd, tk, ← hm]
      have dd : t.drop (a + m.length) = (t.drop (a + 1)).drop (m.length - 1) := by
        rw [List.drop_drop]
        congr 1
        omega
      rw [dd, List.map_append, List.append_assoc]
      by_cases z10 : m = [10]
      · simp only [if_pos z10, Nat.sub_self]
      · simp only [if_neg z10]
        rw [show a + m.length - s = a - s + m.length by omega]
theorem mo_run (t : List Nat) (hf : fit t.length = true) : m_marks_of [.str t] () = .ok (.tup ((tk t.length t 0 0).map tkD)) () := by
  obtain ⟨l', s', q', e⟩ := mo_loop t hf t.length [] 0 0 0 .emp (by omega) (by omega) (by omega) (by simp)
  show outM (seqS (parS [1, 2, 3, 4] (mixOwn (disO (argNil)) (mixVal (cE (.int 0)) (mixVal (cE (.int 0)) (mixVal (cE (.int 0)) (mixNil)))))) (seqS (whlS moT moB) (retS (op1 toTupO (varR 1)))) [.val (.str t), .emp, .emp, .emp, .emp, .emp] ()) = _
  have f0 : fit 0 = true := by decide
  simp only [seqS, parS, bindS, mixOwn, disO, argNil, bind_run, pure_run, List.length_nil, f0, if_true, mixVal, cE, mixNil, setAll, List.set_cons_zero, List.set_cons_succ]
  rw [show (D.int 0) = D.int ((0 : Nat) : Int) from rfl, e]
  simp only [retS, bindS, op1, varR, slot0, slotS, bind_run, pure_run, toTupO, seqO, Option.map_some, opt_some, outM, List.nil_append, List.drop_zero, Nat.sub_self]
/-! ## the law's look -/
theorem sort_run (c : Nat) : m__law_sort [.str [c]] () = .ok (.int (kind c : Int)) () := by
  show outM _ = _
  simp only [List.map_cons, List.map_nil, List.cons_append, List.nil_append, List.replicate]
  have s1 : ∀ x y : Nat, strLt [x] [y] = decide (x < y) := fun x y => by
    unfold strLt
    by_cases h : x = y
    · subst h; simp [strLt]
    · rw [if_neg h]
  have t1 : (!strLt [c] [97]) = decide (97 ≤ c) := by rw [s1]; rw [← decide_not]; exact decide_eq_decide.mpr (by omega)
  have t2 : (!strLt [122] [c]) = decide (c ≤ 122) := by rw [s1]; rw [← decide_not]; exact decide_eq_decide.mpr (by omega)
  have t3 : (!strLt [c] [48]) = decide (48 ≤ c) := by rw [s1]; rw [← decide_not]; exact decide_eq_decide.mpr (by omega)
  have t4 : (!strLt [57] [c]) = decide (c ≤ 57) := by rw [s1]; rw [← decide_not]; exact decide_eq_decide.mpr (by omega)
  unfold kind
  by_cases a1 : 97 ≤ c <;> by_cases a2 : c ≤ 122 <;> by_cases a3 : 48 ≤ c <;> by_cases a4 : c ≤ 57 <;>
    simp only [seqS, ifS, ifE, nopS, bindS, op1, chE, cE, varR, slot0, slotS, bind_run, pure_run, leO, opt_some, t1, t2, t3, t4, a1, a2, a3, a4, decide_true, decide_false, blO, if_true, if_false, Bool.false_eq_true, retS, outM, and_self, and_true, and_false, true_and, false_and] <;> first | rfl | omega
end Dl
-- X7
namespace Dl
def qD (q : Qd) : D := .tup [.int (q.l : Int), .int (q.a : Int), .str q.m, .int (q.k : Int)]
def lmC : EvM Unit Bool := andQ (cmpQ gtO blO (varR 5) (cE (.int 0))) (andQ (cmpQ neO blO (varR 1) (lstE (disO (argNil)))) (andQ (cmpQ eqO blO (op2 ixO (op2 ixO (varR 1) (op1 negO (cE (.int 1)))) (cE (.int 3))) (varR 5)) (cmpQ eqO blO (slE (op2 ixO (varR 1) (op1 negO (cE (.int 1)))) ptN (ptS (cE (.int 2)))) (tupE (argCons (varE 2) (argCons (op2 subO (varR 3) (op1 lenO (op2 ixO (op2 ixO (varR 1) (op1 negO (cE (.int 1)))) (cE (.int 2))))) (argNil)))))))
def lmP : SM Unit := putS 1 (op1 negO (cE (.int 1))) (op2 addO (slE (op2 ixO (varR 1) (op1 negO (cE (.int 1)))) ptN (ptS (cE (.int 2)))) (tupE (argCons (op2 addO (op2 ixO (op2 ixO (varR 1) (op1 negO (cE (.int 1)))) (cE (.int 2))) (varR 4)) (argCons (varE 5) (argNil)))))
def lmA : SM Unit := ifS (cmpQ neO blO (varR 4) (cE (.str [32]))) (mutS 1 (tupE (argCons (varE 2) (argCons (varE 3) (argCons (varE 4) (argCons (varE 5) (argNil)))))) appF) (nopS)
def lmN : SM Unit := asgT (ifE (cmpQ eqO blO (varR 4) (cE (.str [10]))) (tupE (argCons (op2 addO (varR 2) (cE (.int 1))) (argCons (cE (.int 0)) (argNil)))) (tupE (argCons (varE 2) (argCons (op2 addO (varR 3) (cE (.int 1))) (argNil))))) (tgT (tgCons (tgN 2) (tgCons (tgN 3) (tgNil))))
noncomputable def lmB : SM Unit := seqS (asgS 5 (callE (fun ds => lift (m__law_sort ds)) (argCons (varE 4) (argNil)))) (seqS (ifS lmC lmP lmA) lmN)
/-- what is known of the found marks -/
structure Fk (f : List Qd) (n : Nat) : Prop where
  len : f.length ≤ n
  m : ∀ q ∈ f, q.m.length ≤ n ∧ ∀ x ∈ q.m, x < 1114112
theorem nil_or_snoc (f : List Qd) : f = [] ∨ ∃ g q, f = g ++ [q] := by
  rcases List.eq_nil_or_concat f with h | ⟨g, q, h⟩
  · exact .inl h
  · exact .inr ⟨g, q, by rw [h, List.concat_eq_append]⟩
theorem ix_last (g : List Qd) (q : Qd) : ixO (.lst ((g ++ [q]).map qD)) (.int (-1)) = some (qD q) := by
  unfold ixO
  dsimp only
  unfold ixL ixP
  have l : ((g ++ [q]).map qD).length = g.length + 1 := by simp
  rw [if_neg (by omega), l, if_pos (by omega)]
  rw [show ((-1 : Int) + ((g.length + 1 : Nat) : Int)).toNat = g.length by omega]
  simp
theorem okL_append : ∀ (n : Nat) (xs ys : List D), okL n (xs ++ ys) = (okL n xs && okL n ys)
  | n, [], ys => by simp [okL]
  | n, x :: xs, ys => by rw [List.cons_append, okL, okL, okL_append n xs ys, Bool.and_assoc]
theorem pl_q {q : Qd} (h : ∀ x ∈ q.m, x < 1114112) (n : Nat) : okD (n + 1) (qD q) = true := by
  unfold qD
  cases n <;> simp [okD, okL] <;> exact h
theorem okL_q : ∀ (f : List Qd) (n : Nat), (∀ q ∈ f, ∀ x ∈ q.m, x < 1114112) → okL (n + 1) (f.map qD) = true
  | [], n, _ => by simp [okL]
  | q :: f, n, h => by
    rw [List.map_cons, okL, pl_q (h q (by simp)), okL_q f n fun z hz => h z (by simp [hz])]
    rfl
theorem cond_run (x : D) (f : List Qd) (l a c n : Nat) (q6 : Slot) (hk : Fk f n) (hn : n ≤ 16777216) :
    lmC [.val x, .own (f.map qD), .val (.int (l : Int)), .val (.int (a : Int)), .val (.str [c]), .val (.int (kind c : Int)), q6] () = .ok (sticks f l a c) () := by
  have gt : gtO (.int (kind c : Int)) (.int 0) = some (.bl (decide (0 < kind c))) := by
    unfold gtO
    simp
  unfold lmC
  by_cases k0 : 0 < kind c
  · have f0 : fit 0 = true := by decide
    have f2 : fit (1 + 1) = true := by decide
    rcases nil_or_snoc f with rfl | ⟨g, q, rfl⟩
    · have e1 : neO (.lst []) (.lst []) = some (.bl false) := by unfold neO; simp [pl, okD, okL, eqv, eqvL]
      simp only [andQ, cmpQ, op1, op2, varR, slot0, slotS, bind_run, pure_run, cE, gt, opt_some, blO, k0, decide_true, if_true, lstE, disO, argNil, List.length_nil, f0, List.map_nil, e1, Bool.false_eq_true, if_false, sticks, List.getLast?_nil]
    · have hq := hk.m q (by simp)
      have fm : fit q.m.length = true := decide_eq_true (by omega)
      have e1 : neO (.lst ((g ++ [q]).map qD)) (.lst []) = some (.bl true) := by
        have p : pl (.lst ((g ++ [q]).map qD)) = true := by
          show okD 60 _ = true
          rw [okD]
          exact okL_q _ 58 fun z hz => (hk.m z hz).2
        unfold neO
        rw [p]
        have p2 : pl (.lst []) = true := by simp [pl, okD, okL]
        rw [p2]
        simp only [Bool.and_self, Bool.or_true, if_true]
        have : eqv (.lst ((g ++ [q]).map qD)) (.lst []) = false := by
          rw [List.map_append, List.map_cons, List.map_nil]
          cases g.map qD <;> simp [eqv, eqvL]
        rw [this]
        rfl
      have e2 : ixO (qD q) (.int 3) = some (.int (q.k : Int)) := rfl
      have e3 : ixO (qD q) (.int 2) = some (.str q.m) := rfl
      have e4 : slO none (some 2) (qD q) = some (.tup [.int (q.l : Int), .int (q.a : Int)]) := rfl
      have e5 : eqO (.int (q.k : Int)) (.int (kind c : Int)) = some (.bl (decide (q.k = kind c))) := by
        unfold eqO
        simp [pl, okD, eqv]
        rw [Bool.eq_iff_iff, beq_iff_eq, decide_eq_true_iff]
        omega
      have e6 : eqO (.tup [.int (q.l : Int), .int (q.a : Int)]) (.tup [.int (l : Int), .int ((a : Int) - (q.m.length : Int))]) = some (.bl (decide (q.l = l ∧ q.a + q.m.length = a))) := by
        unfold eqO
        simp [pl, okD, okL, eqv, eqvL]
        rw [Bool.eq_iff_iff, Bool.and_eq_true, Bool.and_eq_true, beq_iff_eq, beq_iff_eq, decide_eq_true_iff, decide_eq_true_iff]
        omega
      have es : sticks (g ++ [q]) l a c = (decide (q.k = kind c) && decide (q.l = l ∧ q.a + q.m.length = a)) := by
        unfold sticks
        rw [List.getLast?_concat]
        dsimp only
        rw [Bool.eq_iff_iff, Bool.and_eq_true, decide_eq_true_iff, decide_eq_true_iff, decide_eq_true_iff]
        constructor
        · rintro ⟨_, h1, h2, h3⟩; exact ⟨h1, h2, h3⟩
        · rintro ⟨h1, h2, h3⟩; exact ⟨k0, h1, h2, h3⟩
      rw [es]
      have ng : negO (.int 1) = some (.int (-1)) := rfl
      by_cases k1 : q.k = kind c
      · rw [k1, decide_eq_true (rfl : kind c = kind c)] at e5
        simp only [andQ, cmpQ, op1, op2, varR, varE, slot0, slotS, bind_run, pure_run, cE, gt, opt_some, blO, k0, decide_true, if_true, lstE, disO, argNil, argCons, List.length_nil, f0, e1, ng, ix_last, e2, e3, e4, e5, e6, k1, slE, ptN, ptS, intO, Option.map_some, lenO, fm, subO, tupE, List.length_cons, Nat.zero_add, f2, Bool.true_and]
      · simp only [andQ, cmpQ, op1, op2, varR, varE, slot0, slotS, bind_run, pure_run, cE, gt, opt_some, blO, k0, decide_true, if_true, lstE, disO, argNil, argCons, List.length_nil, f0, e1, ng, ix_last, e2, e3, e4, e5, k1, decide_false, Bool.false_eq_true, if_false, Bool.false_and]
  · have es : sticks f l a c = false := by
      unfold sticks
      split
      · exact decide_eq_false fun h => k0 h.1
      · rfl
    simp only [andQ, cmpQ, op1, op2, varR, slot0, slotS, bind_run, pure_run, cE, gt, opt_some, blO, k0, decide_false, Bool.false_eq_true, if_false, es]
theorem lm_turn (x : D) (f : List Qd) (l a c n : Nat) (q5 q6 : Slot) (hk : Fk f n) (hn : n < 16777216) (hc : c < 1114112) :
    lmB [.val x, .own (f.map qD), .val (.int (l : Int)), .val (.int (a : Int)), .val (.str [c]), q5, q6] () =
      .nx [.val x, .own ((step (f, l, a) c).1.map qD), .val (.int ((step (f, l, a) c).2.1 : Int)), .val (.int ((step (f, l, a) c).2.2 : Int)), .val (.str [c]), .val (.int (kind c : Int)), q6] () ∧ Fk (step (f, l, a) c).1 (n + 1) := by
  have cr := fun q6 => cond_run x f l a c n q6 hk (by omega)
  have sr := sort_run c
  have ap : (f.map qD).length < 16777216 := by rw [List.length_map]; have := hk.len; omega
  have f4 : fit (1 + 1 + 1 + 1) = true := by decide
  have f2 : fit (1 + 1) = true := by decide
  have f22 : fit (1 + 1 + (1 + 1)) = true := by decide
  have b10 : (([c] : List Nat) == [10]) = decide (c = 10) := by rw [Bool.eq_iff_iff, beq_iff_eq, decide_eq_true_iff]; simp
  have b32 : (([c] : List Nat) == [32]) = decide (c = 32) := by rw [Bool.eq_iff_iff, beq_iff_eq, decide_eq_true_iff]; simp
  have nl : ∀ g : List D, lmN [.val x, .own g, .val (.int (l : Int)), .val (.int (a : Int)), .val (.str [c]), .val (.int (kind c : Int)), q6] () =
      .nx [.val x, .own g, .val (.int ((if c = 10 then (l + 1, 0) else (l, a + 1)).1 : Int)), .val (.int ((if c = 10 then (l + 1, 0) else (l, a + 1)).2 : Int)), .val (.str [c]), .val (.int (kind c : Int)), q6] () := fun g => by
    unfold lmN
    have l1 : (l : Int) + 1 = ((l + 1 : Nat) : Int) := by omega
    have a1 : (a : Int) + 1 = ((a + 1 : Nat) : Int) := by omega
    by_cases z : c = 10
    · simp only [asgT, bindS, ifE, cmpQ, op1, op2, varR, varE, slot0, slotS, bind_run, pure_run, cE, eq_str, opt_some, blO, b10, z, decide_true, if_true, tupE, argCons, argNil, addO, l1, List.length_cons, List.length_nil, Nat.zero_add, f2, tgT, tgCons, tgN, tgNil, Option.bind_some, List.set_cons_zero, List.set_cons_succ, beq_self_eq_true]
      rfl
    · simp only [asgT, bindS, ifE, cmpQ, op1, op2, varR, varE, slot0, slotS, bind_run, pure_run, cE, eq_str, opt_some, blO, b10, z, decide_false, Bool.false_eq_true, if_false, if_true, tupE, argCons, argNil, addO, a1, List.length_cons, List.length_nil, Nat.zero_add, f2, tgT, tgCons, tgN, tgNil, Option.bind_some, List.set_cons_zero, List.set_cons_succ]
  have mono : Fk f (n + 1) := ⟨by have := hk.len; omega, fun q hq => ⟨by have := (hk.m q hq).1; omega, (hk.m q hq).2⟩⟩
  cases st : sticks f l a c with
  | true =>
    rcases nil_or_snoc f with rfl | ⟨g, q, rfl⟩
    · simp [sticks] at st
    · have hq := hk.m q (by simp)
      have es : step (g ++ [q], l, a) c = (g ++ [⟨q.l, q.a, q.m ++ [c], kind c⟩], if c = 10 then (l + 1, 0) else (l, a + 1)) := by
        unfold step
        simp only [st, if_true, List.getLast?_concat, List.dropLast_concat]
      have e3 : ixO (qD q) (.int 2) = some (.str q.m) := rfl
      have e4 : slO none (some 2) (qD q) = some (.tup [.int (q.l : Int), .int (q.a : Int)]) := rfl
      have ng : negO (.int 1) = some (.int (-1)) := rfl
      have fm : fit (q.m.length + 1) = true := decide_eq_true (by omega)
      have px : ixP ((g ++ [q]).map qD).length (-1) = some g.length := by
        unfold ixP
        rw [List.length_map, List.length_append, List.length_singleton, if_neg (by omega), if_pos (by omega)]
        congr 1
        omega
      have sx : ∀ v : D, ((g ++ [q]).map qD).set g.length v = g.map qD ++ [v] := fun v => by
        rw [List.map_append, List.set_append_right _ _ (by simp)]
        simp
      rw [es]
      refine ⟨?_, ⟨by have := hk.len; simp at this ⊢; omega, fun z hz => ?_⟩⟩
      · unfold lmB
        have cr' := cr q6
        rw [st] at cr'
        simp only [seqS, asgS, bindS, callE, argCons, argNil, varE, slot0, slotS, bind_run, pure_run, lift, sr, List.set_cons_zero, List.set_cons_succ, ifS, cr', if_true, lmP, putS, op1, op2, cE, varR, ng, opt_some, ix_last, e3, e4, slE, ptN, ptS, intO, Option.map_some, addO, List.length_cons, List.length_nil, Nat.zero_add, fm, tupE, f2, f22, px, Option.bind_some, sx, List.cons_append, List.nil_append, nl]
        rw [List.map_append, List.map_cons, List.map_nil]
        rfl
      · rcases List.mem_append.mp hz with hz | hz
        · have := hk.m z (by simp [hz]); exact ⟨by omega, this.2⟩
        · rw [List.mem_singleton] at hz
          subst hz
          refine ⟨by simp; omega, fun y hy => ?_⟩
          rcases List.mem_append.mp hy with hy | hy
          · exact hq.2 y hy
          · rw [List.mem_singleton] at hy; subst hy; exact hc
  | false =>
    have cr' := cr q6
    rw [st] at cr'
    by_cases z : c = 32
    · have es : step (f, l, a) c = (f, if c = 10 then (l + 1, 0) else (l, a + 1)) := by
        unfold step
        simp only [st, Bool.false_eq_true, if_false, if_pos z]
      rw [es]
      refine ⟨?_, mono⟩
      unfold lmB
      have b : (([c] : List Nat) == [32]) = true := by rw [b32]; exact decide_eq_true z
      simp only [seqS, asgS, bindS, callE, argCons, argNil, varE, slot0, slotS, bind_run, pure_run, lift, sr, List.set_cons_zero, List.set_cons_succ, ifS, cr', Bool.false_eq_true, if_false, lmA, cmpQ, op1, op2, varR, cE, ne_str, b, Bool.not_true, opt_some, blO, nopS, nl]
    · have es : step (f, l, a) c = (f ++ [⟨l, a, [c], kind c⟩], if c = 10 then (l + 1, 0) else (l, a + 1)) := by
        unfold step
        simp only [st, Bool.false_eq_true, if_false, if_neg z]
      rw [es]
      refine ⟨?_, ⟨by have := hk.len; simp; omega, fun y hy => ?_⟩⟩
      · unfold lmB
        have b : (([c] : List Nat) == [32]) = false := by rw [b32]; exact decide_eq_false z
        simp only [seqS, asgS, bindS, callE, argCons, argNil, varE, slot0, slotS, bind_run, pure_run, lift, sr, List.set_cons_zero, List.set_cons_succ, ifS, cr', Bool.false_eq_true, if_false, lmA, cmpQ, op1, op2, varR, cE, ne_str, b, Bool.not_false, if_true, opt_some, blO, mutS, tupE, List.length_cons, List.length_nil, Nat.zero_add, f4, appF, ap, nl]
        rw [List.map_append, List.map_cons, List.map_nil]
        rfl
      · rcases List.mem_append.mp hy with hy | hy
        · have := hk.m y hy; exact ⟨by omega, this.2⟩
        · rw [List.mem_singleton] at hy
          subst hy
          exact ⟨by simp, fun w hw => by rw [List.mem_singleton] at hw; subst hw; exact hc⟩
theorem lm_go (x : D) : ∀ (cs : List Nat) (f : List Qd) (l a n : Nat) (q4 q5 q6 : Slot), Fk f n → n + cs.length < 16777216 → (∀ c ∈ cs, c < 1114112) →
    ∃ q4' q5', forGo (tgN 4) lmB (cs.map fun c => D.str [c]) [.val x, .own (f.map qD), .val (.int (l : Int)), .val (.int (a : Int)), q4, q5, q6] () =
      .nx [.val x, .own ((cs.foldl step (f, l, a)).1.map qD), .val (.int ((cs.foldl step (f, l, a)).2.1 : Int)), .val (.int ((cs.foldl step (f, l, a)).2.2 : Int)), q4', q5', q6] ()
  | [], f, l, a, n, q4, q5, q6, _, _, _ => ⟨q4, q5, rfl⟩
  | c :: cs, f, l, a, n, q4, q5, q6, hk, hn, hc => by
    rw [List.length_cons] at hn
    obtain ⟨t1, t2⟩ := lm_turn x f l a c n q5 q6 hk (by omega) (hc c (by simp))
    obtain ⟨q4', q5', e⟩ := lm_go x cs (step (f, l, a) c).1 (step (f, l, a) c).2.1 (step (f, l, a) c).2.2 (n + 1) (.val (.str [c])) (.val (.int (kind c : Int))) q6 t2 (by omega) fun y hy => hc y (by simp [hy])
    refine ⟨q4', q5', ?_⟩
    rw [List.map_cons, forGo, List.foldl_cons]
    simp only [tgN, List.set_cons_zero, List.set_cons_succ, t1]
    exact e
theorem lm_run (t : List Nat) (hl : t.length < 16777216) (hc : ∀ c ∈ t, c < 1114112) : m__law_marks [.str t] () = .ok (.lst ((tk t.length t 0 0).map tkD)) () := by
  obtain ⟨q4', q5', e⟩ := lm_go (.str t) t [] 0 0 0 .emp .emp .emp ⟨by simp, fun q h => by simp at h⟩ (by omega) hc
  show outM (seqS (parS [1, 2, 3] (mixOwn (disO (argNil)) (mixVal (cE (.int 0)) (mixVal (cE (.int 0)) (mixNil))))) (seqS (forS (op1 itO (varE 0)) (tgN 4) lmB) (frzS 1 (retS (lstE (lcO (op1 itO (varE 1)) [6] (tgN 6) (yesQ) (slE (varR 6) ptN (ptS (cE (.int 3)))))))))
    [.val (.str t), .emp, .emp, .emp, .emp, .emp, .emp] ()) = _
  have f0 : fit 0 = true := by decide
  simp only [seqS, parS, bindS, mixOwn, disO, argNil, bind_run, pure_run, List.length_nil, f0, if_true, mixVal, cE, mixNil, setAll, List.set_cons_zero, List.set_cons_succ, forS, op1, varE, slot0, itO, opt_some]
  rw [List.map_nil, show ((0 : Nat) : Int) = 0 from rfl] at e
  rw [e]
  have hlen : ((t.foldl step ([], 0, 0)).1.map qD).length ≤ 16777216 := by
    have := congrArg List.length (look0 t)
    rw [List.length_map] at this
    rw [List.length_map, this]
    have := (tk_sum t.length t 0 0).2
    omega
  have key : ∀ ρ : List Slot, ρ.length = 7 → lcGo (S := Unit) (tgN 6) yesQ (slE (varR 6) ptN (ptS (cE (.int 3)))) ρ ((t.foldl step ([], 0, 0)).1.map qD) () = .ok ((tk t.length t 0 0).map tkD) () := fun ρ hρ => by
    rw [lcGo_map (fun d => match d with | .tup [a, b, c, _] => .tup [a, b, c] | d => d) (fun _ => true)]
    · rw [List.filter_eq_self.mpr (fun _ _ => rfl), ← look0 t, List.map_map, List.map_map]
      rfl
    · intro y hy
      obtain ⟨q, _, rfl⟩ := List.mem_map.mp hy
      refine ⟨_, rfl, rfl, fun _ => ?_⟩
      have e1 : (ρ.set 6 (.val (qD q)))[6]? = some (.val (qD q)) := List.getElem?_set_self (by omega)
      have e4 : slO none (some 3) (qD q) = some (.tup [.int (q.l : Int), .int (q.a : Int), .str q.m]) := rfl
      simp only [slE, varR, e1, bind_run, pure_run, ptN, ptS, op1, cE, opt_some, intO, Option.map_some, e4]
      rfl
  simp only [frzS, slot0, slotS, List.set_cons_zero, List.set_cons_succ, retS, bindS, lstE, lcO, op1, varE, bind_run, pure_run, itO, opt_some, hlen, if_true, wipeR]
  rw [key _ (by simp)]
  rfl
end Dl
-- X8
namespace Dl
/-! ## drawn things -/
theorem log_lt {n : Nat} (h : n ≤ 16777216) : n.log2 < 9000 := by
  by_cases z : n = 0
  · subst z; decide
  · refine (Nat.log2_lt z).mpr (Nat.lt_of_lt_of_le (show n < 2 ^ 25 by omega) (Nat.pow_le_pow_right (Nat.succ_pos 1) (by decide)))
theorem dr (n : Nat) (h0 : 0 < n) (hn : n ≤ 16777216) (s : DS) (hs : s.1.length ≤ 60) : ∃ i s', m__law_draw [.hp, .int (n : Int)] s = .ok (.int ((i : Nat) : Int)) s' ∧ i < n ∧ s'.1.length ≤ 60 := by
  obtain ⟨i, s', e, h1, h2, h3⟩ := draw_ok 48271 17 (n : Int) (by decide) (by omega) (by rw [Int.natAbs_natCast]; exact log_lt hn) s hs
  exact ⟨i.toNat, s', by rw [Int.toNat_of_nonneg h1]; exact e, by omega, h3⟩
theorem pick_run (xs : List D) (h0 : 0 < xs.length) (hn : xs.length ≤ 16777216) (s : DS) (hs : s.1.length ≤ 60) : ∃ d s', m__law_pick [.hp, .lst xs] s = .ok d s' ∧ d ∈ xs ∧ s'.1.length ≤ 60 := by
  obtain ⟨i, s', e, h1, h2⟩ := dr xs.length h0 hn s hs
  refine ⟨xs[i], s', ?_, by simp, h2⟩
  show outM _ = _
  have ix : ixO (.lst xs) (.int (i : Int)) = some xs[i] := by
    unfold ixO
    dsimp only
    unfold ixL ixP
    rw [if_pos (by omega), if_pos (by omega)]
    simp
  simp only [List.map_cons, List.map_nil, List.cons_append, List.nil_append, List.replicate, retS, bindS, op1, op2, varR, varE, slot0, slotS, bind_run, pure_run, callE, argCons, argNil, lenO, opt_some, e, ix, outM]
theorem strs_of (Q : List Nat → Prop) : ∀ (ys : List D), (∀ y ∈ ys, ∃ p, y = .str p ∧ Q p) → ∃ ps, strsO ys = some ps ∧ ps.length = ys.length ∧ ∀ p ∈ ps, Q p
  | [], _ => ⟨[], rfl, rfl, fun p h => by cases h⟩
  | y :: ys, h => by
    obtain ⟨p, rfl, hp⟩ := h y (by simp)
    obtain ⟨ps, e, l, q⟩ := strs_of Q ys fun z hz => h z (by simp [hz])
    refine ⟨p :: ps, by simp [strsO, strO, e], by simp [l], fun z hz => ?_⟩
    rcases List.mem_cons.mp hz with rfl | hz
    · exact hp
    · exact q z hz
theorem join_nil : ∀ ps : List (List Nat), joinL [] ps = ps.flatten
  | [] => rfl
  | [p] => by simp [joinL]
  | p :: q :: r => by
    have := join_nil (q :: r)
    rw [joinL, this]
    simp
theorem flat_len (L : Nat) : ∀ ps : List (List Nat), (∀ p ∈ ps, p.length ≤ L) → ps.flatten.length ≤ L * ps.length ∧ (ps.map List.length).sum = ps.flatten.length
  | [], _ => by simp
  | p :: ps, h => by
    have h1 := h p (by simp)
    have ⟨h2, h3⟩ := flat_len L ps fun z hz => h z (by simp [hz])
    rw [List.flatten_cons, List.length_append, List.length_cons, Nat.mul_add, List.map_cons, List.sum_cons, h3]
    omega
theorem join_run (L N : Nat) (hb : L * N ≤ 16777216) (ys : List D) (hl : ys.length ≤ N) (h : ∀ y ∈ ys, ∃ p, y = .str p ∧ p.length ≤ L ∧ ∀ c ∈ p, c < 128) : ∃ t, joinO [] (.lst ys) = some (.str t) ∧ t.length ≤ L * N ∧ ∀ c ∈ t, c < 128 := by
  obtain ⟨ps, e, l, q⟩ := strs_of (fun p => p.length ≤ L ∧ ∀ c ∈ p, c < 128) ys h
  obtain ⟨f1, f2⟩ := flat_len L ps fun p hp => (q p hp).1
  have f3 : ps.flatten.length ≤ L * N := Nat.le_trans f1 (Nat.mul_le_mul_left L (by omega))
  refine ⟨ps.flatten, ?_, f3, fun c hc => ?_⟩
  · unfold joinO
    simp only [seqO, Option.bind_some, e]
    rw [if_pos (decide_eq_true (by simp; omega)), join_nil]
  · obtain ⟨p, hp, hc⟩ := List.mem_flatten.mp hc
    exact (q p hp).2 c hc
theorem rng_run (n : Nat) (h : n ≤ 1000000) : rng1 (.int (n : Int)) = some ((List.range n).map fun (k : Nat) => .int (k : Int)) := by
  unfold rng1
  dsimp only
  rw [if_pos (by omega)]
  unfold rngO
  congr 1
  rw [show ((n : Int) - 0).toNat = n by omega]
  simp
abbrev some9 : EvM DS D := cE .non
def Sm (p : D) : Prop := ∃ t, p = .str t ∧ t.length ≤ 31 ∧ ∀ c ∈ t, c < 128
theorem signs_run (w : List Nat) (hw : w.length = 10) (hc : ∀ c ∈ w, c < 128) (n : Nat) (hn : n ≤ 30) (q2 q3 q1 : Slot) (s : DS) (hs : s.1.length ≤ 60) : ∃ d s', sm1 joinO (cE (.str [])) (lstE (lcO (op1 rng1 (cE (.int ((n + 1 : Nat) : Int)))) [2] (tgN 2) (yesQ) (op2 ixO (cE (.str w)) (callE m__law_draw (argCons (varE 0) (argCons (cE (.int 10)) (argNil))))))) [.val .hp, q1, q2, q3] s = .ok d s' ∧ Sm d ∧ s'.1.length ≤ 60 := by
  obtain ⟨xs, hr, hx⟩ : ∃ xs, rng1 (.int ((n + 1 : Nat) : Int)) = some xs ∧ xs.length = n + 1 := ⟨_, rng_run (n + 1) (by omega), by rw [List.length_map, List.length_range]⟩
  obtain ⟨ys, s', e, hl, hy, hs'⟩ := lcGo_ex (g := tgN 2) (t := yesQ) (e := op2 ixO (cE (.str w)) (callE m__law_draw (argCons (varE 0) (argCons (cE (.int 10)) (argNil))))) (ρ := [.val .hp, q1, .emp, q3]) (fun s : DS => s.1.length ≤ 60) (fun y => ∃ p, y = .str p ∧ p.length ≤ 1 ∧ ∀ c ∈ p, c < 128) xs s hs (fun x _ s hs => by
      obtain ⟨i, s1, e1, hi, h1⟩ := dr 10 (by omega) (by omega) s hs
      have hi' : i < w.length := by omega
      have fw : fit w.length = true := by rw [hw]; decide
      have ix : ixO (.str w) (.int (i : Int)) = some (.str [w[i]]) := ix_nat fw (by simp)
      refine ⟨_, s, .str [w[i]], s1, rfl, rfl, ?_, h1, _, rfl, by simp, fun c h => ?_⟩
      · simp only [op2, cE, bind_run, pure_run, callE, argCons, argNil, varE, List.set_cons_zero, List.set_cons_succ, slot0, show (10 : Int) = ((10 : Nat) : Int) from rfl, e1, ix, opt_some]
      · rw [List.mem_singleton] at h; rw [h]; exact hc _ (by simp))
  rw [hx] at hl
  obtain ⟨t, e2, h1, h2⟩ := join_run 1 31 (by omega) ys (by omega) hy
  refine ⟨.str t, s', ?_, ⟨t, rfl, by omega, h2⟩, hs'⟩
  have hlen : xs.length ≤ 16777216 := by omega
  exact sm1_ok (cE_ok _) (lstE_ok (lcO_ok (op1_ok (cE_ok _) hr) hlen e)) e2
end Dl
-- X9
namespace Dl
theorem dr_ok (n : Nat) (h0 : 0 < n) (hn : n ≤ 16777216) {ρ : List Slot} {s : DS} {i : Nat} (hs : s.1.length ≤ 60) (h : ρ[i]? = some (.val .hp)) {m : EvM DS D} (hm : ∀ s, m ρ s = .ok (.int (n : Int)) s) :
    ∃ k s', callE m__law_draw (argCons (varE i) (argCons m argNil)) ρ s = .ok (.int ((k : Nat) : Int)) s' ∧ k < n ∧ s'.1.length ≤ 60 := by
  obtain ⟨k, s', e, h1, h2⟩ := dr n h0 hn s hs
  exact ⟨k, s', callE_ok (argCons_ok (varE_ok h) (argCons_ok (hm s) argNil_ok)) e, h1, h2⟩
theorem pick_ok {ρ : List Slot} {s : DS} {i : Nat} (hs : s.1.length ≤ 60) (h : ρ[i]? = some (.val .hp)) {m : EvM DS D} {xs : List D} (hm : ∀ s, m ρ s = .ok (.lst xs) s) (h0 : 0 < xs.length) (hn : xs.length ≤ 16777216) :
    ∃ d s', callE m__law_pick (argCons (varE i) (argCons m argNil)) ρ s = .ok d s' ∧ d ∈ xs ∧ s'.1.length ≤ 60 := by
  obtain ⟨d, s', e, h1, h2⟩ := pick_run xs h0 hn s hs
  exact ⟨d, s', callE_ok (argCons_ok (varE_ok h) (argCons_ok (hm s) argNil_ok)) e, h1, h2⟩
theorem add_nat (a b : Nat) : addO (.int (a : Int)) (.int (b : Int)) = some (.int ((a + b : Nat) : Int)) := by
  unfold addO
  simp
/-- a run of drawn signs, as a piece has it -/
theorem run_ok (w : List Nat) (hw : w.length = 10) (hc : ∀ c ∈ w, c < 128) {xs : List D} {m : EvM DS D} (q1 q2 q3 : Slot) (hm : ∀ s, m [.val .hp, q1, q2, q3] s = .ok (.lst xs) s) (hx : ∀ d ∈ xs, ∃ n : Nat, d = .int (n : Int) ∧ 0 < n ∧ n ≤ 30) (h0 : 0 < xs.length) (hn : xs.length ≤ 16777216) (s : DS) (hs : s.1.length ≤ 60) :
    ∃ d s', sm1 joinO (cE (.str [])) (lstE (lcO (op1 rng1 (op2 addO (cE (.int 1)) (callE m__law_draw (argCons (varE 0) (argCons (callE m__law_pick (argCons (varE 0) (argCons m (argNil)))) (argNil)))))) [2] (tgN 2) (yesQ) (op2 ixO (cE (.str w)) (callE m__law_draw (argCons (varE 0) (argCons (cE (.int 10)) (argNil))))))) [.val .hp, q1, q2, q3] s = .ok d s' ∧ Sm d ∧ s'.1.length ≤ 60 := by
  obtain ⟨d, s1, e1, hd, h1⟩ := pick_ok (i := 0) hs rfl hm h0 hn
  obtain ⟨n, rfl, n0, n30⟩ := hx d hd
  obtain ⟨k, s2, e2, hk, h2⟩ := dr n n0 (by omega) s1 h1
  obtain ⟨xs2, hr, hx2⟩ : ∃ xs, rng1 (.int ((1 + k : Nat) : Int)) = some xs ∧ xs.length = 1 + k := ⟨_, rng_run (1 + k) (by omega), by rw [List.length_map, List.length_range]⟩
  obtain ⟨ys, s', e, hl, hy, hs'⟩ := lcGo_ex (g := tgN 2) (t := yesQ) (e := op2 ixO (cE (.str w)) (callE m__law_draw (argCons (varE 0) (argCons (cE (.int 10)) (argNil))))) (ρ := [.val .hp, q1, .emp, q3]) (fun s : DS => s.1.length ≤ 60) (fun y => ∃ p, y = .str p ∧ p.length ≤ 1 ∧ ∀ c ∈ p, c < 128) xs2 s2 h2 (fun x _ s hs => by
      obtain ⟨i, s1, e1, hi, h1⟩ := dr_ok 10 (by omega) (by omega) (ρ := [.val .hp, q1, .val x, q3]) (i := 0) (m := cE (.int 10)) hs rfl (fun _ => rfl)
      have fw : fit w.length = true := by rw [hw]; decide
      have ix : ixO (.str w) (.int (i : Int)) = some (.str [w[i]]) := ix_nat fw (by simp)
      refine ⟨_, s, .str [w[i]], s1, rfl, rfl, op2_ok (cE_ok _) e1 ix, h1, _, rfl, by simp, fun c h => ?_⟩
      rw [List.mem_singleton] at h; rw [h]; exact hc _ (by simp))
  obtain ⟨t, e3, t1, t2⟩ := join_run 1 31 (by omega) ys (by omega) hy
  refine ⟨.str t, s', ?_, ⟨t, rfl, by omega, t2⟩, hs'⟩
  have ad : addO (.int 1) (.int (k : Int)) = some (.int ((1 + k : Nat) : Int)) := add_nat 1 k
  exact sm1_ok (cE_ok _) (lstE_ok (lcO_ok (op1_ok (op2_ok (cE_ok _) (callE_ok (argCons_ok (varE_ok rfl) (argCons_ok e1 argNil_ok)) e2) ad) hr) (by omega) e)) e3
theorem lst3 {S : Type} (a b c : D) {ρ : List Slot} {s : S} : lstE (disO (argCons (cE a) (argCons (cE b) (argCons (cE c) argNil)))) ρ s = .ok (.lst [a, b, c]) s :=
  lstE_ok (disO_ok (argCons_ok (cE_ok _) (argCons_ok (cE_ok _) (argCons_ok (cE_ok _) argNil_ok))) (show fit 3 = true by decide))
theorem lt_int (a b : Nat) : ltO (.int (a : Int)) (.int (b : Int)) = some (.bl (decide (a < b))) := lt_nat a b
theorem eq_int (a b : Nat) : eqO (.int (a : Int)) (.int (b : Int)) = some (.bl (decide (a = b))) := by
  unfold eqO
  simp [pl, okD, eqv]
  rw [Bool.eq_iff_iff, beq_iff_eq, decide_eq_true_iff]
  omega
theorem piece_run (s : DS) (hs : s.1.length ≤ 60) : ∃ d s', m__law_piece [.hp] s = .ok d s' ∧ Sm d ∧ s'.1.length ≤ 60 := by
  obtain ⟨k, s1, e1, hk, h1⟩ := dr_ok 9 (by omega) (by omega) (ρ := [.val .hp, .emp, .emp, .emp]) (i := 0) (m := cE (.int 9)) hs rfl (fun _ => rfl)
  obtain ⟨da, sa, ea, ha, ha'⟩ := run_ok [97, 98, 99, 120, 121, 122, 110, 111, 114, 117] rfl (by decide) (.val (.int (k : Int))) .emp .emp (fun s => lst3 (.int 3) (.int 7) (.int 30)) (fun d hd => by
    simp only [List.mem_cons, List.not_mem_nil, or_false] at hd
    rcases hd with rfl | rfl | rfl
    · exact ⟨3, rfl, by omega, by omega⟩
    · exact ⟨7, rfl, by omega, by omega⟩
    · exact ⟨30, rfl, by omega, by omega⟩) (by simp) (by simp) s1 h1
  obtain ⟨db, sb, eb, hb, hb'⟩ := run_ok [48, 49, 50, 51, 52, 53, 54, 55, 56, 57] rfl (by decide) (.val (.int (k : Int))) .emp .emp (fun s => lst3 (.int 2) (.int 4) (.int 8)) (fun d hd => by
    simp only [List.mem_cons, List.not_mem_nil, or_false] at hd
    rcases hd with rfl | rfl | rfl
    · exact ⟨2, rfl, by omega, by omega⟩
    · exact ⟨4, rfl, by omega, by omega⟩
    · exact ⟨8, rfl, by omega, by omega⟩) (by simp) (by simp) s1 h1
  unfold m__law_piece
  rw [defM_run (show ([D.hp] : List D).length = 1 from rfl)]
  simp only [List.map_cons, List.map_nil, List.cons_append, List.nil_append, List.replicate]
  have c2 : cmpQ ltO blO (varR 1) (cE (.int 2)) [.val .hp, .val (.int (k : Int)), .emp, .emp] s1 = .ok (decide (k < 2)) s1 := cmpQ_ok (varR_ok rfl) (cE_ok _) (lt_nat k 2)
  have c4 : cmpQ ltO blO (varR 1) (cE (.int 4)) [.val .hp, .val (.int (k : Int)), .emp, .emp] s1 = .ok (decide (k < 4)) s1 := cmpQ_ok (varR_ok rfl) (cE_ok _) (lt_nat k 4)
  have c5 : cmpQ eqO blO (varR 1) (cE (.int 4)) [.val .hp, .val (.int (k : Int)), .emp, .emp] s1 = .ok (decide (k = 4)) s1 := cmpQ_ok (varR_ok rfl) (cE_ok _) (eq_int k 4)
  rw [seqS_ok (asgS_ok e1)]
  simp only [List.set_cons_zero, List.set_cons_succ]
  by_cases k2 : k < 2
  · refine ⟨da, sa, ?_, ha, ha'⟩
    rw [seqS_ret (d := da) (s1 := sa) (by rw [ifS_ok c2, decide_eq_true k2, if_pos rfl]; exact retS_ok ea)]
    rfl
  · rw [seqS_ok (ρ1 := [.val .hp, .val (.int (k : Int)), .emp, .emp]) (s1 := s1) (by rw [ifS_ok c2, decide_eq_false k2, if_neg Bool.false_ne_true]; rfl)]
    by_cases k4 : k < 4
    · refine ⟨db, sb, ?_, hb, hb'⟩
      rw [seqS_ret (d := db) (s1 := sb) (by rw [ifS_ok c4, decide_eq_true k4, if_pos rfl]; exact retS_ok eb)]
      rfl
    · rw [seqS_ok (ρ1 := [.val .hp, .val (.int (k : Int)), .emp, .emp]) (s1 := s1) (by rw [ifS_ok c4, decide_eq_false k4, if_neg Bool.false_ne_true]; rfl)]
      by_cases k5 : k = 4
      · obtain ⟨j, s2, e2, hj, h2⟩ := dr_ok 3 (by omega) (by omega) (ρ := [.val .hp, .val (.int (k : Int)), .emp, .emp]) (i := 0) (m := cE (.int 3)) h1 rfl (fun _ => rfl)
        have mu : mulA (.str [32]) (.int ((1 + j : Nat) : Int)) = some (.str (List.replicate (1 + j) [32]).flatten) := by
          unfold mulA
          dsimp only
          rw [if_pos ⟨by decide, by omega, by omega⟩]
          rfl
        have ad : addO (.int 1) (.int (j : Int)) = some (.int ((1 + j : Nat) : Int)) := add_nat 1 j
        refine ⟨.str (List.replicate (1 + j) [32]).flatten, s2, ?_, ⟨_, rfl, ?_, fun c hc => ?_⟩, h2⟩
        · rw [seqS_ret (d := .str (List.replicate (1 + j) [32]).flatten) (s1 := s2) (by rw [ifS_ok c5, decide_eq_true k5, if_pos rfl]; exact retS_ok (op2_ok (cE_ok _) (op2_ok (cE_ok _) e2 ad) mu))]
          rfl
        · simp
          omega
        · obtain ⟨p, hp, hc⟩ := List.mem_flatten.mp hc
          have := List.eq_of_mem_replicate hp
          subst this
          rw [List.mem_singleton] at hc
          omega
      · rw [seqS_ok (ρ1 := [.val .hp, .val (.int (k : Int)), .emp, .emp]) (s1 := s1) (by rw [ifS_ok c5, decide_eq_false k5, if_neg Bool.false_ne_true]; rfl)]
        have A : ∀ (ρ : List Slot) (s : DS), lstE (disO (argCons (cE (.str [10])) (argCons (cE (.str [61])) (argCons (cE (.str [47])) (argCons (cE (.str [45])) (argCons (cE (.str [44])) (argCons (cE (.str [59])) (argCons (cE (.str [58])) (argCons (cE (.str [33])) (argCons (cE (.str [38])) (argCons (cE (.str [124])) (argCons (cE (.str [40])) (argCons (cE (.str [41])) (argCons (cE (.str [65])) (argCons (cE (.str [90])) (argCons (cE (.str [126])) (argCons (cE (.str [95])) (argCons (cE (.str [64])) (argCons (cE (.str [123])) (argCons (cE (.str [91])) (argCons (cE (.str [63])) (argCons (cE (.str [10])) (argCons (cE (.str [46])) (argCons (cE (.str [36])) (argNil)))))))))))))))))))))))) ) ρ s = .ok (.lst ([10, 61, 47, 45, 44, 59, 58, 33, 38, 124, 40, 41, 65, 90, 126, 95, 64, 123, 91, 63, 10, 46, 36].map fun c => .str [c])) s := fun ρ s => by
          refine lstE_ok (disO_ok (xs := ([10, 61, 47, 45, 44, 59, 58, 33, 38, 124, 40, 41, 65, 90, 126, 95, 64, 123, 91, 63, 10, 46, 36] : List Nat).map fun c => D.str [c]) ?_ (by decide))
          repeat' (first | exact argNil_ok | refine argCons_ok (cE_ok _) ?_)
        have Bq : ∀ (ρ : List Slot) (s : DS), lstE (disO (argCons (cE (.str [92])) (argCons (cE (.str [35])) (argCons (cE (.str [42])) (argCons (cE (.str [96])) (argCons (cE (.str [43])) (argCons (cE (.str [45])) (argCons (cE (.str [61])) (argNil))))))))) ρ s = .ok (.lst ([92, 35, 42, 96, 43, 45, 61].map fun c => .str [c])) s := fun ρ s => by
          refine lstE_ok (disO_ok (xs := ([92, 35, 42, 96, 43, 45, 61] : List Nat).map fun c => D.str [c]) ?_ (by decide))
          repeat' (first | exact argNil_ok | refine argCons_ok (cE_ok _) ?_)
        obtain ⟨d, s2, e2, hd, h2⟩ := pick_ok (ρ := [.val .hp, .val (.int (k : Int)), .emp, .val (.lst (([10, 61, 47, 45, 44, 59, 58, 33, 38, 124, 40, 41, 65, 90, 126, 95, 64, 123, 91, 63, 10, 46, 36] : List Nat).map fun c => .str [c]))]) (i := 0)
          (m := op2 addO (varR 3) (lstE (disO (argCons (cE (.str [92])) (argCons (cE (.str [35])) (argCons (cE (.str [42])) (argCons (cE (.str [96])) (argCons (cE (.str [43])) (argCons (cE (.str [45])) (argCons (cE (.str [61])) (argNil))))))))))) (xs := ([10, 61, 47, 45, 44, 59, 58, 33, 38, 124, 40, 41, 65, 90, 126, 95, 64, 123, 91, 63, 10, 46, 36, 92, 35, 42, 96, 43, 45, 61] : List Nat).map fun c => .str [c]) h1 rfl
          (fun s => op2_ok (varR_ok rfl) (Bq _ s) rfl) (by decide) (by decide)
        obtain ⟨c, hc, rfl⟩ := List.mem_map.mp hd
        refine ⟨.str [c], s2, ?_, ⟨[c], rfl, by simp, fun x hx => ?_⟩, h2⟩
        · rw [seqS_ok (asgS_ok (A _ _))]
          simp only [List.set_cons_zero, List.set_cons_succ]
          rw [retS_ok e2]
          rfl
        · rw [List.mem_singleton] at hx
          subst hx
          have : ∀ y ∈ ([10, 61, 47, 45, 44, 59, 58, 33, 38, 124, 40, 41, 65, 90, 126, 95, 64, 123, 91, 63, 10, 46, 36, 92, 35, 42, 96, 43, 45, 61] : List Nat), y < 128 := by decide
          exact this _ hc
end Dl
-- X10
namespace Dl
/-! ## the law's turns -/
noncomputable def lt1 : SM DS := asgS 3 (sm1 joinO (cE (.str [])) (lstE (lcO (op1 rng1 (callE m__law_pick (argCons (varE 1) (argCons (lstE (disO (argCons (cE (.int 5)) (argCons (cE (.int 20)) (argCons (cE (.int 1)) (argCons (cE (.int 60)) (argCons (cE (.int 0)) (argNil)))))))) (argNil))))) [4] (tgN 4) (yesQ) (callE m__law_piece (argCons (varE 1) (argNil))))))
noncomputable def lt2 : SM DS := asgS 3 (ifE (cmpQ eqO blO (callE m__law_draw (argCons (varE 1) (argCons (cE (.int 5)) (argNil)))) (cE (.int 0))) (op2 addO (op2 addO (op2 addO (op2 addO (op2 mulA (cE (.str [55])) (cE (.int 390))) (cE (.str [32]))) (varR 3)) (cE (.str [61]))) (op2 mulA (cE (.str [49, 50])) (cE (.int 190)))) (varE 3))
noncomputable def lt3 : SM DS := asgS 5 (op1 toTupO (callE (fun ds => lift (m__law_marks ds)) (argCons (varE 3) (argNil))))
noncomputable def lt4 : SM DS := asgS 6 (callE (fun ds => lift (m_marks_of ds)) (argCons (varE 3) (argNil)))
noncomputable def lt5 : SM DS := ifS (orQ (cmpQ neO blO (op1 (reprO shD) (varR 6)) (op1 (reprO shD) (varR 5))) (cmpQ neO blO (callE (fun ds => lift (m_marks_of ds)) (permE [0] (argCons (varE 3) (argNil)))) (varR 6))) (retS (cE (.bl false))) (nopS)
def lT : Tg := tgT (tgCons (tgN 8) (tgCons (tgN 9) (tgCons (tgN 10) (tgNil))))
noncomputable def lt6 : SM DS := asgS 7 (sm1 joinO (cE (.str [32])) (lstE (lcO (op1 itO (varE 5)) [8, 9, 10] lT (yesQ) (varE 10))))
noncomputable def lt7 : SM DS := ifS (cmpQ neO blO (lstE (lcO (op1 itO (callE (fun ds => lift (m_marks_of ds)) (argCons (varE 7) (argNil)))) [8, 9, 10] lT (yesQ) (varE 10))) (lstE (lcO (op1 itO (varE 5)) [8, 9, 10] lT (yesQ) (varE 10)))) (retS (cE (.bl false))) (nopS)
noncomputable def lTurn : SM DS := seqS lt1 (seqS lt2 (seqS lt3 (seqS lt4 (seqS lt5 (seqS lt6 lt7)))))
theorem eq_self {d : D} (h : pl d = true) : eqO d d = some (.bl true) := by
  unfold eqO
  rw [h, eqv_refl 60 d h]
  simp
theorem ne_self {d : D} (h : pl d = true) : neO d d = some (.bl false) := by
  unfold neO
  rw [h, eqv_refl 60 d h]
  simp
theorem tkD_ok {q : Tk} (h : ∀ x ∈ q.2.2, x < 128) (n : Nat) : okD (n + 1) (tkD q) = true := by
  unfold tkD
  have : ∀ x ∈ q.2.2, x < 1114112 := fun x hx => by have := h x hx; omega
  cases n <;> simp [okD, okL] <;> exact this
theorem tks_ok : ∀ (T : List Tk) (n : Nat), (∀ q ∈ T, ∀ x ∈ q.2.2, x < 128) → okL (n + 1) (T.map tkD) = true
  | [], n, _ => by simp [okL]
  | q :: f, n, h => by
    rw [List.map_cons, okL, tkD_ok (h q (by simp)), tks_ok f n fun z hz => h z (by simp [hz])]
    rfl
theorem tks_sho : ∀ (T : List Tk), (∀ q ∈ T, q.1 < 2 ^ 64 ∧ q.2.1 < 2 ^ 64) → shoL 64 (T.map tkD) = true
  | [], _ => by simp [shoL]
  | q :: f, h => by
    have hq := h q (by simp)
    rw [List.map_cons, shoL, tks_sho f fun z hz => h z (by simp [hz])]
    unfold tkD
    have h1 : (q.1 : Int).natAbs < 2 ^ 64 := by rw [Int.natAbs_natCast]; exact hq.1
    have h2 : (q.2.1 : Int).natAbs < 2 ^ 64 := by rw [Int.natAbs_natCast]; exact hq.2
    simp [sho, shoL]
    exact hq
theorem tks_blk : ∀ (T : List Tk), blkL (T.map tkD) = (T.map fun q => q.2.2.length).sum + 4 * T.length
  | [] => by simp [blkL]
  | q :: f => by
    rw [List.map_cons, blkL, tks_blk f]
    unfold tkD
    simp [blk, blkL]
    omega
def Tx (t : List Nat) : Prop := t.length ≤ 3000 ∧ ∀ c ∈ t, c < 128
abbrev tks (t : List Nat) : List Tk := tk t.length t 0 0
abbrev due (t : List Nat) : D := .tup ((tks t).map tkD)
theorem due_pl {t : List Nat} (h : Tx t) : pl (due t) = true := by
  show okD 60 _ = true
  rw [okD]
  exact tks_ok _ 58 fun q hq => (tk_all (fun c => c < 128) _ _ _ _ h.2 q hq).2.1
theorem due_repr {t : List Nat} (h : Tx t) : reprO shD (due t) = some (.str (shD (due t))) := by
  unfold reprO
  rw [if_pos]
  unfold reprOk
  rw [due_pl h]
  have s : ((tks t).map fun q => q.2.2.length).sum ≤ t.length ∧ (tks t).length ≤ t.length := tk_sum t.length t 0 0
  have b : blk (due t) ≤ 15000 := by
    show blkL _ ≤ _
    rw [tks_blk]
    have := h.1
    omega
  have sh : sho 64 (due t) = true := by
    show shoL 64 _ = true
    refine tks_sho _ fun q hq => ?_
    have := tk_all (fun c => c < 128) _ _ _ _ h.2 q hq
    have := h.1
    omega
  rw [sh]
  have : 67 * blk (due t) + 65 ≤ 16777216 := by omega
  simp [this]
theorem marks_ok {t : List Nat} (h : t.length ≤ 16777216) : m_marks_of [.str t] () = .ok (due t) () := mo_run t (decide_eq_true h)
abbrev strD (T : List Tk) : List D := T.map fun q => .str q.2.2
theorem lT_go (T : List Tk) {ρ : List Slot} (hρ : ρ.length = 11) (s : DS) : lcGo lT yesQ (varE 10) ρ (T.map tkD) s = .ok (strD T) s := by
  rw [lcGo_map (fun d => match d with | .tup [_, _, m] => m | d => d) (fun _ => true)]
  · rw [List.filter_eq_self.mpr (fun _ _ => rfl), List.map_map]
    rfl
  · intro y hy
    obtain ⟨q, _, rfl⟩ := List.mem_map.mp hy
    refine ⟨_, rfl, rfl, fun _ => ?_⟩
    exact varE_ok (List.getElem?_set_self (by simp; omega))
theorem strs_str : ∀ T : List Tk, strsO (strD T) = some (T.map fun q => q.2.2)
  | [] => rfl
  | q :: T => by
    have := strs_str T
    rw [strD] at this ⊢
    rw [List.map_cons, strsO, this]
    rfl
theorem joinL_len : ∀ ps : List (List Nat), (joinL [32] ps).length ≤ (ps.map List.length).sum + ps.length
  | [] => by simp [joinL]
  | [p] => by simp [joinL]
  | p :: q :: r => by
    have := joinL_len (q :: r)
    rw [joinL]
    simp at this ⊢
    omega
theorem joinL_mem {x : Nat} : ∀ ps : List (List Nat), x ∈ joinL [32] ps → x = 32 ∨ ∃ p ∈ ps, x ∈ p
  | [], h => by simp [joinL] at h
  | [p], h => .inr ⟨p, by simp, h⟩
  | p :: q :: r, h => by
    rw [joinL] at h
    rcases List.mem_append.mp h with h | h
    · exact .inr ⟨p, by simp, h⟩
    · rcases List.mem_append.mp h with h | h
      · rw [List.mem_singleton] at h; exact .inl h
      · rcases joinL_mem (q :: r) h with h | ⟨p2, h1, h2⟩
        · exact .inl h
        · exact .inr ⟨p2, by simp at h1; simp [h1], h2⟩
theorem strL_ok : ∀ (T : List Tk) (n : Nat), (∀ q ∈ T, ∀ x ∈ q.2.2, x < 128) → okL (n + 1) (strD T) = true
  | [], n, _ => by simp [okL]
  | q :: f, n, h => by
    have : okD (n + 1) (.str q.2.2) = true := by
      have : ∀ x ∈ q.2.2, x < 1114112 := fun x hx => by have := h q (by simp) x hx; omega
      simp [okD]
      exact this
    have ih := strL_ok f n fun z hz => h z (by simp [hz])
    rw [strD] at ih ⊢
    rw [List.map_cons, okL, this, ih]
    rfl
theorem rep_len (n : Nat) (t : List Nat) : (List.replicate n t).flatten.length = n * t.length := by simp
theorem rep_mem {n x : Nat} {t : List Nat} (h : x ∈ (List.replicate n t).flatten) : x ∈ t := by
  obtain ⟨p, hp, hx⟩ := List.mem_flatten.mp h
  rw [← List.eq_of_mem_replicate hp]
  exact hx
theorem mul_run (t : List Nat) (n : Nat) (ht : t.length ≤ 1024) (hn : n ≤ 16384) : mulA (.str t) (.int (n : Int)) = some (.str (List.replicate n t).flatten) := by
  unfold mulA
  dsimp only
  rw [if_pos ⟨ht, by omega, by omega⟩, Int.toNat_natCast]
theorem add_str {a b : List Nat} (h : a.length + b.length ≤ 16777216) : addO (.str a) (.str b) = some (.str (a ++ b)) := by
  unfold addO
  dsimp only
  rw [show fit (a.length + b.length) = true from decide_eq_true h]
  rfl
variable {x : D} {q2 q3 q4 q5 q6 q7 q8 q9 q10 : Slot} {s : DS}
theorem lt1_run (hs : s.1.length ≤ 60) : ∃ t s', lt1 [.val x, .val .hp, q2, q3, q4, q5, q6, q7, q8, q9, q10] s = .nx [.val x, .val .hp, q2, .val (.str t), q4, q5, q6, q7, q8, q9, q10] s' ∧ t.length ≤ 1860 ∧ (∀ c ∈ t, c < 128) ∧ s'.1.length ≤ 60 := by
  obtain ⟨d, s1, e1, hd, h1⟩ := pick_ok (ρ := [.val x, .val .hp, q2, q3, q4, q5, q6, q7, q8, q9, q10]) (i := 1) (m := lstE (disO (argCons (cE (.int 5)) (argCons (cE (.int 20)) (argCons (cE (.int 1)) (argCons (cE (.int 60)) (argCons (cE (.int 0)) (argNil)))))))) (xs := [.int 5, .int 20, .int 1, .int 60, .int 0]) hs rfl
    (fun s => lstE_ok (disO_ok (argCons_ok (cE_ok _) (argCons_ok (cE_ok _) (argCons_ok (cE_ok _) (argCons_ok (cE_ok _) (argCons_ok (cE_ok _) argNil_ok))))) (by decide))) (by simp) (by simp)
  obtain ⟨n, rfl, hn⟩ : ∃ n : Nat, d = .int (n : Int) ∧ n ≤ 60 := by
    simp only [List.mem_cons, List.not_mem_nil, or_false] at hd
    rcases hd with rfl | rfl | rfl | rfl | rfl
    · exact ⟨5, rfl, by omega⟩
    · exact ⟨20, rfl, by omega⟩
    · exact ⟨1, rfl, by omega⟩
    · exact ⟨60, rfl, by omega⟩
    · exact ⟨0, rfl, by omega⟩
  obtain ⟨xs, hr, hx⟩ : ∃ xs, rng1 (.int (n : Int)) = some xs ∧ xs.length = n := ⟨_, rng_run n (by omega), by rw [List.length_map, List.length_range]⟩
  obtain ⟨ys, s2, e2, hl, hy, h2⟩ := lcGo_ex (g := tgN 4) (t := yesQ) (e := callE m__law_piece (argCons (varE 1) (argNil))) (ρ := [.val x, .val .hp, q2, q3, .emp, q5, q6, q7, q8, q9, q10]) (fun s : DS => s.1.length ≤ 60) Sm xs s1 h1 (fun y _ s hs => by
    obtain ⟨d, s', e, hd, h'⟩ := piece_run s hs
    exact ⟨_, s, d, s', rfl, rfl, callE_ok (argCons_ok (varE_ok rfl) argNil_ok) e, h', hd⟩)
  obtain ⟨t, e3, t1, t2⟩ := join_run 31 60 (by omega) ys (by omega) hy
  refine ⟨t, s2, ?_, by omega, t2, h2⟩
  exact asgS_ok (sm1_ok (cE_ok _) (lstE_ok (lcO_ok (op1_ok e1 hr) (by omega) e2)) e3)
theorem lt2_run {t : List Nat} (ht : t.length ≤ 1860) (hc : ∀ c ∈ t, c < 128) (hs : s.1.length ≤ 60) : ∃ t' s', lt2 [.val x, .val .hp, q2, .val (.str t), q4, q5, q6, q7, q8, q9, q10] s = .nx [.val x, .val .hp, q2, .val (.str t'), q4, q5, q6, q7, q8, q9, q10] s' ∧ Tx t' ∧ s'.1.length ≤ 60 := by
  obtain ⟨k, s1, e1, hk, h1⟩ := dr_ok 5 (by omega) (by omega) (ρ := [.val x, .val .hp, q2, .val (.str t), q4, q5, q6, q7, q8, q9, q10]) (i := 1) (m := cE (.int 5)) hs rfl (fun _ => rfl)
  have c0 : cmpQ eqO blO (callE m__law_draw (argCons (varE 1) (argCons (cE (.int 5)) (argNil)))) (cE (.int 0)) [.val x, .val .hp, q2, .val (.str t), q4, q5, q6, q7, q8, q9, q10] s = .ok (decide (k = 0)) s1 := cmpQ_ok e1 (cE_ok _) (eq_int k 0)
  by_cases z : k = 0
  · obtain ⟨A, hA, lA, mA⟩ : ∃ A, mulA (.str [55]) (.int 390) = some (.str A) ∧ A.length = 390 ∧ ∀ c ∈ A, c < 128 := ⟨_, mul_run [55] 390 (by decide) (by decide), rep_len 390 [55], fun c h => by have := rep_mem h; rw [List.mem_singleton] at this; omega⟩
    obtain ⟨C, hC, lC, mC⟩ : ∃ A, mulA (.str [49, 50]) (.int 190) = some (.str A) ∧ A.length = 380 ∧ ∀ c ∈ A, c < 128 := ⟨_, mul_run [49, 50] 190 (by decide) (by decide), rep_len 190 [49, 50], fun c h => by have := rep_mem h; simp at this; omega⟩
    have l1 : (A ++ [32]).length = 391 := by rw [List.length_append, lA]; rfl
    have l2 : ((A ++ [32]) ++ t).length ≤ 2251 := by rw [List.length_append, l1]; omega
    have l3 : (((A ++ [32]) ++ t) ++ [61]).length ≤ 2252 := by rw [List.length_append]; simp only [List.length_singleton]; omega
    refine ⟨((A ++ [32]) ++ t) ++ [61] ++ C, s1, asgS_ok (by
      rw [ifE_ok c0, decide_eq_true z, if_pos rfl]
      exact op2_ok (op2_ok (op2_ok (op2_ok (op2_ok (cE_ok _) (cE_ok _) hA) (cE_ok _) (add_str (by rw [lA]; decide))) (varR_ok rfl) (add_str (by rw [l1]; omega))) (cE_ok _) (add_str (by simp only [List.length_singleton]; omega))) (op2_ok (cE_ok _) (cE_ok _) hC) (add_str (by omega))), ⟨by rw [List.length_append]; omega, fun c h => ?_⟩, h1⟩
    rcases List.mem_append.mp h with h | h
    · rcases List.mem_append.mp h with h | h
      · rcases List.mem_append.mp h with h | h
        · rcases List.mem_append.mp h with h | h
          · exact mA c h
          · rw [List.mem_singleton] at h; omega
        · exact hc c h
      · rw [List.mem_singleton] at h; omega
    · exact mC c h
  · refine ⟨t, s1, asgS_ok (by rw [ifE_ok c0, decide_eq_false z, if_neg Bool.false_ne_true]; exact varE_ok rfl), ⟨by omega, hc⟩, h1⟩
theorem turn_run (hs : s.1.length ≤ 60) : ∃ q3 q5 q6 q7 s', lTurn [.val x, .val .hp, q2, q3', q4, q5', q6', q7', q8, q9, q10] s = .nx [.val x, .val .hp, q2, q3, q4, q5, q6, q7, q8, q9, q10] s' ∧ s'.1.length ≤ 60 := by
  obtain ⟨t0, s1, e1, l1, c1, h1⟩ := lt1_run (x := x) (q2 := q2) (q3 := q3') (q4 := q4) (q5 := q5') (q6 := q6') (q7 := q7') (q8 := q8) (q9 := q9) (q10 := q10) hs
  obtain ⟨t, s2, e2, tx, h2⟩ := lt2_run (x := x) (q2 := q2) (q4 := q4) (q5 := q5') (q6 := q6') (q7 := q7') (q8 := q8) (q9 := q9) (q10 := q10) l1 c1 h1
  have lm := lm_run t (by have := tx.1; omega) (fun c h => by have := tx.2 c h; omega)
  have mo := marks_ok (t := t) (by have := tx.1; omega)
  have dp := due_pl tx
  have rp := due_repr tx
  have sum : ((tks t).map fun q => q.2.2.length).sum ≤ t.length ∧ (tks t).length ≤ t.length := tk_sum t.length t 0 0
  have all := tk_all (fun c => c < 128) t.length t 0 0 tx.2
  have e3 : lt3 [.val x, .val .hp, q2, .val (.str t), q4, q5', q6', q7', q8, q9, q10] s2 = .nx [.val x, .val .hp, q2, .val (.str t), q4, .val (due t), q6', q7', q8, q9, q10] s2 :=
    asgS_ok (op1_ok (callE_ok (argCons_ok (varE_ok rfl) argNil_ok) (lift_ok lm)) rfl)
  have e4 : lt4 [.val x, .val .hp, q2, .val (.str t), q4, .val (due t), q6', q7', q8, q9, q10] s2 = .nx [.val x, .val .hp, q2, .val (.str t), q4, .val (due t), .val (due t), q7', q8, q9, q10] s2 :=
    asgS_ok (callE_ok (argCons_ok (varE_ok rfl) argNil_ok) (lift_ok mo))
  have e5 : lt5 [.val x, .val .hp, q2, .val (.str t), q4, .val (due t), .val (due t), q7', q8, q9, q10] s2 = .nx [.val x, .val .hp, q2, .val (.str t), q4, .val (due t), .val (due t), q7', q8, q9, q10] s2 := by
    unfold lt5
    rw [ifS_ok (k := false) (s1 := s2) (orQ_ok (cmpQ_ok (op1_ok (varR_ok rfl) rp) (op1_ok (varR_ok rfl) rp) (by rw [ne_str, beq_self_eq_true]; rfl)) (cmpQ_ok (callE_ok (permE_ok (argCons_ok (varE_ok rfl) argNil_ok)) (lift_ok mo)) (varR_ok rfl) (ne_self dp))), if_neg Bool.false_ne_true]
    rfl
  have jl := joinL_len ((tks t).map fun q => q.2.2)
  rw [List.map_map, List.length_map] at jl
  have sm : ((tks t).map (List.length ∘ fun q : Tk => q.2.2)).sum ≤ 3000 := by
    have := tx.1
    have := sum.1
    exact Nat.le_trans this (by omega)
  have jb : (joinL [32] ((tks t).map fun q => q.2.2)).length ≤ 6000 := by have := tx.1; have := sum.2; omega
  have jn : joinO [32] (.lst (strD (tks t))) = some (.str (joinL [32] ((tks t).map fun q => q.2.2))) := by
    unfold joinO
    simp only [seqO, Option.bind_some, strs_str]
    rw [if_pos]
    refine decide_eq_true ?_
    rw [List.map_map, List.length_map]
    have := tx.1
    have := sum.2
    simp only [List.length_singleton]
    omega
  have lenT : ((tks t).map tkD).length ≤ 16777216 := by rw [List.length_map]; have := tx.1; have := sum.2; omega
  have e6 : lt6 [.val x, .val .hp, q2, .val (.str t), q4, .val (due t), .val (due t), q7', q8, q9, q10] s2 = .nx [.val x, .val .hp, q2, .val (.str t), q4, .val (due t), .val (due t), .val (.str (joinL [32] ((tks t).map fun q => q.2.2))), q8, q9, q10] s2 :=
    asgS_ok (sm1_ok (cE_ok _) (lstE_ok (lcO_ok (op1_ok (varE_ok rfl) rfl) lenT (lT_go _ rfl _))) jn)
  obtain ⟨j, hj⟩ : ∃ j, j = joinL [32] ((tks t).map fun q => q.2.2) := ⟨_, rfl⟩
  rw [← hj] at e6 jb
  have mj := marks_ok (t := j) (by omega)
  have jm : (tks j).map (fun q => q.2.2) = (tks t).map fun q => q.2.2 := by
    have := tk_join ((tks t).map fun q => q.2.2) j.length 0 0 (fun m hm => by
      obtain ⟨q, hq, rfl⟩ := List.mem_map.mp hm
      exact (all q hq).1) (by rw [← hj]; exact Nat.le_refl _)
    rw [← hj] at this
    exact this
  have sd : strD (tks j) = strD (tks t) := by
    have := congrArg (List.map D.str) jm
    rw [List.map_map, List.map_map] at this
    exact this
  have lenJ : ((tks j).map tkD).length ≤ 16777216 := by rw [List.length_map]; have : (tks j).length ≤ j.length := (tk_sum j.length j 0 0).2; omega
  have e7 : lt7 [.val x, .val .hp, q2, .val (.str t), q4, .val (due t), .val (due t), .val (.str j), q8, q9, q10] s2 = .nx [.val x, .val .hp, q2, .val (.str t), q4, .val (due t), .val (due t), .val (.str j), q8, q9, q10] s2 := by
    unfold lt7
    have pls : pl (.lst (strD (tks t))) = true := by
      show okD 60 _ = true
      rw [okD]
      exact strL_ok _ 58 fun q hq => (all q hq).2.1
    rw [ifS_ok (k := false) (s1 := s2) (cmpQ_ok (lstE_ok (lcO_ok (op1_ok (callE_ok (argCons_ok (varE_ok rfl) argNil_ok) (lift_ok mj)) rfl) lenJ (lT_go _ rfl _))) (lstE_ok (lcO_ok (op1_ok (varE_ok rfl) rfl) lenT (lT_go _ rfl _))) (by rw [sd]; exact ne_self pls)), if_neg Bool.false_ne_true]
    rfl
  refine ⟨.val (.str t), .val (due t), .val (due t), .val (.str j), s2, ?_, h2⟩
  unfold lTurn
  rw [seqS_ok e1, seqS_ok e2, seqS_ok e3, seqS_ok e4, seqS_ok e5, seqS_ok e6]
  exact e7
end Dl
-- X11
namespace Dl
noncomputable def lEnd : SM DS := seqS (ifS (orQ (cmpQ neO blO (callE (fun ds => lift (m_marks_of ds)) (argCons (cE (.str [])) (argNil))) (tupE (argNil))) (orQ (cmpQ neO blO (callE (fun ds => lift (m_marks_of ds)) (argCons (cE (.str [32, 32])) (argNil))) (tupE (argNil))) (cmpQ neO blO (callE (fun ds => lift (m_marks_of ds)) (argCons (cE (.str [32, 10])) (argNil))) (tupE (argCons (tupE (argCons (cE (.int 0)) (argCons (cE (.int 1)) (argCons (cE (.str [10])) (argNil))))) (argNil)))))) (retS (cE (.bl false))) (nopS)) (retS (op2 eqO (callE (fun ds => lift (m_marks_of ds)) (argCons (cE (.str [116, 101, 97, 32, 45, 55, 47, 50, 61, 32, 52, 10, 10, 32, 55, 120])) (argNil))) (tupE (argCons (tupE (argCons (cE (.int 0)) (argCons (cE (.int 0)) (argCons (cE (.str [116, 101, 97])) (argNil))))) (argCons (tupE (argCons (cE (.int 0)) (argCons (cE (.int 4)) (argCons (cE (.str [45])) (argNil))))) (argCons (tupE (argCons (cE (.int 0)) (argCons (cE (.int 5)) (argCons (cE (.str [55])) (argNil))))) (argCons (tupE (argCons (cE (.int 0)) (argCons (cE (.int 6)) (argCons (cE (.str [47])) (argNil))))) (argCons (tupE (argCons (cE (.int 0)) (argCons (cE (.int 7)) (argCons (cE (.str [50])) (argNil))))) (argCons (tupE (argCons (cE (.int 0)) (argCons (cE (.int 8)) (argCons (cE (.str [61])) (argNil))))) (argCons (tupE (argCons (cE (.int 0)) (argCons (cE (.int 10)) (argCons (cE (.str [52])) (argNil))))) (argCons (tupE (argCons (cE (.int 0)) (argCons (cE (.int 11)) (argCons (cE (.str [10])) (argNil))))) (argCons (tupE (argCons (cE (.int 1)) (argCons (cE (.int 0)) (argCons (cE (.str [10])) (argNil))))) (argCons (tupE (argCons (cE (.int 2)) (argCons (cE (.int 1)) (argCons (cE (.str [55])) (argNil))))) (argCons (tupE (argCons (cE (.int 2)) (argCons (cE (.int 2)) (argCons (cE (.str [120])) (argNil)))))  (argNil)))))))))))))))
abbrev tea : List Nat := [116, 101, 97, 32, 45, 55, 47, 50, 61, 32, 52, 10, 10, 32, 55, 120]
theorem tea_tks : tks tea = [(0, 0, [116, 101, 97]), (0, 4, [45]), (0, 5, [55]), (0, 6, [47]), (0, 7, [50]), (0, 8, [61]), (0, 10, [52]), (0, 11, [10]), (1, 0, [10]), (2, 1, [55]), (2, 2, [120])] := by decide +kernel
theorem no_tks : tks [] = [] ∧ tks [32, 32] = [] ∧ tks [32, 10] = [(0, 1, [10])] := by decide +kernel
theorem t3_ok {S : Type} (a b : Int) (m : List Nat) {ρ : List Slot} {s : S} : tupE (argCons (cE (.int a)) (argCons (cE (.int b)) (argCons (cE (.str m)) (argNil)))) ρ s = .ok (.tup [.int a, .int b, .str m]) s :=
  tupE_ok (argCons_ok (cE_ok _) (argCons_ok (cE_ok _) (argCons_ok (cE_ok _) argNil_ok))) (show fit 3 = true by decide)
theorem mk_ok {S : Type} (t : List Nat) (T : List Tk) (h : tks t = T) (hl : t.length ≤ 16777216) {ρ : List Slot} {s : S} : callE (fun ds => lift (m_marks_of ds)) (argCons (cE (.str t)) (argNil)) ρ s = .ok (.tup (T.map tkD)) s := by
  subst h
  exact callE_ok (argCons_ok (cE_ok _) argNil_ok) (lift_ok (marks_ok hl))
theorem end_run (ρ : List Slot) (s : DS) : lEnd ρ s = .ret (.bl true) s := by
  unfold lEnd
  have p0 : pl (.tup []) = true := by decide
  have p1 : pl (.tup [.tup [.int 0, .int 1, .str [10]]]) = true := by decide
  have p2 : pl (.tup ((tks tea).map tkD)) = true := by rw [tea_tks]; decide
  rw [seqS_ok (ρ1 := ρ) (s1 := s)]
  · refine retS_ok (op2_ok (mk_ok tea _ rfl (by decide)) (b := .tup ((tks tea).map tkD)) ?_ (eq_self p2))
    rw [tea_tks]
    refine tupE_ok (xs := [.tup [.int 0, .int 0, .str [116, 101, 97]], .tup [.int 0, .int 4, .str [45]], .tup [.int 0, .int 5, .str [55]], .tup [.int 0, .int 6, .str [47]], .tup [.int 0, .int 7, .str [50]], .tup [.int 0, .int 8, .str [61]], .tup [.int 0, .int 10, .str [52]], .tup [.int 0, .int 11, .str [10]], .tup [.int 1, .int 0, .str [10]], .tup [.int 2, .int 1, .str [55]], .tup [.int 2, .int 2, .str [120]]]) ?_ (by decide)
    repeat' (first | exact argNil_ok | refine argCons_ok (t3_ok _ _ _) ?_)
  · have z : orQ (cmpQ neO blO (callE (fun ds => lift (m_marks_of ds)) (argCons (cE (.str [])) (argNil))) (tupE (argNil))) (orQ (cmpQ neO blO (callE (fun ds => lift (m_marks_of ds)) (argCons (cE (.str [32, 32])) (argNil))) (tupE (argNil))) (cmpQ neO blO (callE (fun ds => lift (m_marks_of ds)) (argCons (cE (.str [32, 10])) (argNil))) (tupE (argCons (tupE (argCons (cE (.int 0)) (argCons (cE (.int 1)) (argCons (cE (.str [10])) (argNil))))) (argNil))))) ρ s = .ok false s :=
      orQ_ok (cmpQ_ok (mk_ok [] [] no_tks.1 (by decide)) (tupE_ok argNil_ok (by decide)) (ne_self p0)) (orQ_ok (cmpQ_ok (mk_ok [32, 32] [] no_tks.2.1 (by decide)) (tupE_ok argNil_ok (by decide)) (ne_self p0))
      (cmpQ_ok (mk_ok [32, 10] [(0, 1, [10])] no_tks.2.2 (by decide)) (tupE_ok (argCons_ok (t3_ok 0 1 [10]) argNil_ok) (show fit 1 = true by decide)) (ne_self p1)))
    rw [ifS_ok z, if_neg Bool.false_ne_true]
    rfl
theorem law_math (ns cells : List Int) (st : Int) (h : ns.length ≤ 63) (h2 : cells.length ≤ 60) : ∃ s', m_law (.val (.lst (ns.map D.int)) :: .val .hp :: List.replicate 9 .emp) (cells, st) = .ret (.bl true) s' := by
  show ∃ s', seqS (forS (op1 rng1 (op2 addO (cE (.int 3)) (op2 mulA (cE (.int 3)) (op1 toIntO (op2 gtO (op1 lenO (varR 0)) (cE (.int 2))))))) (tgN 2) lTurn) lEnd [.val (.lst (ns.map D.int)), .val .hp, .emp, .emp, .emp, .emp, .emp, .emp, .emp, .emp, .emp] (cells, st) = _
  obtain ⟨k, e⟩ : ∃ k : Nat, op1 rng1 (op2 addO (cE (.int 3)) (op2 mulA (cE (.int 3)) (op1 toIntO (op2 gtO (op1 lenO (varR 0)) (cE (.int 2)))))) [.val (.lst (ns.map D.int)), .val .hp, .emp, .emp, .emp, .emp, .emp, .emp, .emp, .emp, .emp] ((cells, st) : DS) = .ok ((List.range k).map fun (k : Nat) => .int (k : Int)) (cells, st) := by
    by_cases z : (2 : Int) < ((ns.map D.int).length : Int)
    · refine ⟨6, op1_ok (op2_ok (cE_ok _) (op2_ok (cE_ok _) (op1_ok (op2_ok (op1_ok (varR_ok rfl) rfl) (cE_ok _) (show gtO _ _ = some (.bl true) by unfold gtO; dsimp only; rw [decide_eq_true z])) rfl) (show mulA _ _ = some (.int 3) from rfl)) rfl) (rng_run 6 (by omega))⟩
    · refine ⟨3, op1_ok (op2_ok (cE_ok _) (op2_ok (cE_ok _) (op1_ok (op2_ok (op1_ok (varR_ok rfl) rfl) (cE_ok _) (show gtO _ _ = some (.bl false) by unfold gtO; dsimp only; rw [decide_eq_false z])) rfl) (show mulA _ _ = some (.int 0) from rfl)) rfl) (rng_run 3 (by omega))⟩
  obtain ⟨ρ', s', e2, _⟩ := forGo_inv (g := tgN 2) (b := lTurn) (fun xs ρ (s : DS) => (∃ q2 q3 q4 q5 q6 q7 q8 q9 q10, ρ = [.val (.lst (ns.map D.int)), .val .hp, q2, q3, q4, q5, q6, q7, q8, q9, q10]) ∧ s.1.length ≤ 60) ((List.range k).map fun (k : Nat) => .int (k : Int)) _ (cells, st)
    ⟨⟨.emp, .emp, .emp, .emp, .emp, .emp, .emp, .emp, .emp, rfl⟩, h2⟩ (fun y ys ρ s ⟨⟨q2, q3, q4, q5, q6, q7, q8, q9, q10, hr⟩, hs⟩ => by
      subst hr
      obtain ⟨r3, r5, r6, r7, s', e, h'⟩ := turn_run (x := .lst (ns.map D.int)) (q2 := .val y) (q3' := q3) (q4 := q4) (q5' := q5) (q6' := q6) (q7' := q7) (q8 := q8) (q9 := q9) (q10 := q10) hs
      exact ⟨_, rfl, _, s', .inl e, ⟨_, _, _, _, _, _, _, _, _, rfl⟩, h'⟩)
  exact ⟨s', by rw [seqS_ok ((forS_ok e).trans e2)]; exact end_run ρ' s'⟩
end Dl
-- F5
namespace Dl
open PySem PySem.Spec PyProof.Rows L2

abbrev clT : Nat → Option (Addr × List Str) := fun _ => none
abbrev xcT : Nat → Option (Addr × List Str) := fun _ => none
def top (i : Nat) : Stmt := PySem.Challenge.pw_centsatonce_k05_marks_cut_and_joined.main.body.getD i (.Pass ⟨0, 0, 0, 0⟩)
abbrev FnP (K : PySem.W.Frag) (x : Str) (st : Stmt) (f : Addr) (fd : FuncData) : Prop := FunD K x x (defArgs st) (defBody st) (defScope st) [] [] f fd
def a_run_end : He.DefD := ⟨("run_end", none), "run_end", "run_end", defArgs (top 3), defBody (top 3), defScope (top 3), [], []⟩
def a_mark_at : He.DefD := ⟨("mark_at", none), "mark_at", "mark_at", defArgs (top 4), defBody (top 4), defScope (top 4), [], []⟩
def a_marks_of : He.DefD := ⟨("marks_of", none), "marks_of", "marks_of", defArgs (top 5), defBody (top 5), defScope (top 5), [], []⟩
def a__law_heap : He.DefD := ⟨("_law_heap", none), "_law_heap", "_law_heap", defArgs (top 7), defBody (top 7), defScope (top 7), [], []⟩
def a__law_draw : He.DefD := ⟨("_law_draw", none), "_law_draw", "_law_draw", defArgs (top 8), defBody (top 8), defScope (top 8), [], []⟩
def a__law_pick : He.DefD := ⟨("_law_pick", none), "_law_pick", "_law_pick", defArgs (top 9), defBody (top 9), defScope (top 9), [], []⟩
def a__law_sort : He.DefD := ⟨("_law_sort", none), "_law_sort", "_law_sort", defArgs (top 10), defBody (top 10), defScope (top 10), [], []⟩
def a__law_marks : He.DefD := ⟨("_law_marks", none), "_law_marks", "_law_marks", defArgs (top 11), defBody (top 11), defScope (top 11), [], []⟩
def a__law_piece : He.DefD := ⟨("_law_piece", none), "_law_piece", "_law_piece", defArgs (top 12), defBody (top 12), defScope (top 12), [], []⟩
def a_law : He.DefD := ⟨("law", none), "law", "law", defArgs (top 13), defBody (top 13), defScope (top 13), [], []⟩
def fn : List He.DefD := [a_run_end, a_mark_at, a_marks_of, a__law_heap, a__law_draw, a__law_pick, a__law_sort, a__law_marks, a__law_piece, a_law]
def fa : List He.Fa := [.glo "run_end", .glo "mark_at", .glo "marks_of", .glo "_law_heap", .glo "_law_draw", .glo "_law_pick", .glo "_law_sort", .glo "_law_marks", .glo "_law_piece", .glo "law", .free "len", .free "tuple", .free "abs", .free "int", .free "range", .free "repr", .str "LETTERS" "abcdefghijklmnopqrstuvwxyz", .str "DIGITS" "0123456789"]
noncomputable def fd_run_end {K : PySem.W.Frag} (c : He.SaysD fa fn K) : FuncData := Classical.choose (c.def_ 0 (d := a_run_end) rfl)
theorem F_run_end {K : PySem.W.Frag} (c : He.SaysD fa fn K) : FnP K "run_end" (top 3) (He.ga K "run_end") (fd_run_end c) := Classical.choose_spec (c.def_ 0 (d := a_run_end) rfl)
theorem b_run_end {K : PySem.W.Frag} (c : He.SaysD fa fn K) : Binds K (fd_run_end c) (["text", "at", "signs"] : List Str) [] := (F_run_end c).bindsN fun _ _ _ _ _ _ us hl => match us, hl with | [_, _, _], _ => rfl
theorem sc_run_end : FnScope (["text", "at", "signs"] : List Str) (["text", "at", "signs"] : List Str) (defScope (top 3)) := ⟨rfl, rfl, rfl, by decide +kernel, rfl, by decide +kernel, by decide +kernel⟩
noncomputable def fd_mark_at {K : PySem.W.Frag} (c : He.SaysD fa fn K) : FuncData := Classical.choose (c.def_ 1 (d := a_mark_at) rfl)
theorem F_mark_at {K : PySem.W.Frag} (c : He.SaysD fa fn K) : FnP K "mark_at" (top 4) (He.ga K "mark_at") (fd_mark_at c) := Classical.choose_spec (c.def_ 1 (d := a_mark_at) rfl)
theorem b_mark_at {K : PySem.W.Frag} (c : He.SaysD fa fn K) : Binds K (fd_mark_at c) (["text", "at"] : List Str) [] := (F_mark_at c).bindsN fun _ _ _ _ _ _ us hl => match us, hl with | [_, _], _ => rfl
theorem sc_mark_at : FnScope (["text", "at"] : List Str) (["text", "at"] : List Str) (defScope (top 4)) := ⟨rfl, rfl, rfl, by decide +kernel, rfl, by decide +kernel, by decide +kernel⟩
noncomputable def fd_marks_of {K : PySem.W.Frag} (c : He.SaysD fa fn K) : FuncData := Classical.choose (c.def_ 2 (d := a_marks_of) rfl)
theorem F_marks_of {K : PySem.W.Frag} (c : He.SaysD fa fn K) : FnP K "marks_of" (top 5) (He.ga K "marks_of") (fd_marks_of c) := Classical.choose_spec (c.def_ 2 (d := a_marks_of) rfl)
theorem b_marks_of {K : PySem.W.Frag} (c : He.SaysD fa fn K) : Binds K (fd_marks_of c) (["text"] : List Str) [] := (F_marks_of c).bindsN fun _ _ _ _ _ _ us hl => match us, hl with | [_], _ => rfl
theorem sc_marks_of : FnScope (["text", "found", "line", "start", "at", "mark"] : List Str) (["text"] : List Str) (defScope (top 5)) := ⟨rfl, rfl, rfl, by decide +kernel, rfl, by decide +kernel, by decide +kernel⟩
noncomputable def fd__law_heap {K : PySem.W.Frag} (c : He.SaysD fa fn K) : FuncData := Classical.choose (c.def_ 3 (d := a__law_heap) rfl)
theorem F__law_heap {K : PySem.W.Frag} (c : He.SaysD fa fn K) : FnP K "_law_heap" (top 7) (He.ga K "_law_heap") (fd__law_heap c) := Classical.choose_spec (c.def_ 3 (d := a__law_heap) rfl)
theorem b__law_heap {K : PySem.W.Frag} (c : He.SaysD fa fn K) : Binds K (fd__law_heap c) (["_law_script"] : List Str) [] := (F__law_heap c).bindsN fun _ _ _ _ _ _ us hl => match us, hl with | [_], _ => rfl
theorem sc__law_heap : FnScope (["_law_script", "_law_cells", "_law_stir", "_law_cell"] : List Str) (["_law_script"] : List Str) (defScope (top 7)) := ⟨rfl, rfl, rfl, by decide +kernel, rfl, by decide +kernel, by decide +kernel⟩
noncomputable def fd__law_draw {K : PySem.W.Frag} (c : He.SaysD fa fn K) : FuncData := Classical.choose (c.def_ 4 (d := a__law_draw) rfl)
theorem F__law_draw {K : PySem.W.Frag} (c : He.SaysD fa fn K) : FnP K "_law_draw" (top 8) (He.ga K "_law_draw") (fd__law_draw c) := Classical.choose_spec (c.def_ 4 (d := a__law_draw) rfl)
theorem b__law_draw {K : PySem.W.Frag} (c : He.SaysD fa fn K) : Binds K (fd__law_draw c) (["_law_heap_here", "_law_many"] : List Str) [] := (F__law_draw c).bindsN fun _ _ _ _ _ _ us hl => match us, hl with | [_, _], _ => rfl
theorem sc__law_draw : FnScope (["_law_heap_here", "_law_many", "_law_rest"] : List Str) (["_law_heap_here", "_law_many"] : List Str) (defScope (top 8)) := ⟨rfl, rfl, rfl, by decide +kernel, rfl, by decide +kernel, by decide +kernel⟩
noncomputable def fd__law_pick {K : PySem.W.Frag} (c : He.SaysD fa fn K) : FuncData := Classical.choose (c.def_ 5 (d := a__law_pick) rfl)
theorem F__law_pick {K : PySem.W.Frag} (c : He.SaysD fa fn K) : FnP K "_law_pick" (top 9) (He.ga K "_law_pick") (fd__law_pick c) := Classical.choose_spec (c.def_ 5 (d := a__law_pick) rfl)
theorem b__law_pick {K : PySem.W.Frag} (c : He.SaysD fa fn K) : Binds K (fd__law_pick c) (["_law_heap_here", "_law_some"] : List Str) [] := (F__law_pick c).bindsN fun _ _ _ _ _ _ us hl => match us, hl with | [_, _], _ => rfl
theorem sc__law_pick : FnScope (["_law_heap_here", "_law_some"] : List Str) (["_law_heap_here", "_law_some"] : List Str) (defScope (top 9)) := ⟨rfl, rfl, rfl, by decide +kernel, rfl, by decide +kernel, by decide +kernel⟩
noncomputable def fd__law_sort {K : PySem.W.Frag} (c : He.SaysD fa fn K) : FuncData := Classical.choose (c.def_ 6 (d := a__law_sort) rfl)
theorem F__law_sort {K : PySem.W.Frag} (c : He.SaysD fa fn K) : FnP K "_law_sort" (top 10) (He.ga K "_law_sort") (fd__law_sort c) := Classical.choose_spec (c.def_ 6 (d := a__law_sort) rfl)
theorem b__law_sort {K : PySem.W.Frag} (c : He.SaysD fa fn K) : Binds K (fd__law_sort c) (["_law_sign"] : List Str) [] := (F__law_sort c).bindsN fun _ _ _ _ _ _ us hl => match us, hl with | [_], _ => rfl
theorem sc__law_sort : FnScope (["_law_sign"] : List Str) (["_law_sign"] : List Str) (defScope (top 10)) := ⟨rfl, rfl, rfl, by decide +kernel, rfl, by decide +kernel, by decide +kernel⟩
noncomputable def fd__law_marks {K : PySem.W.Frag} (c : He.SaysD fa fn K) : FuncData := Classical.choose (c.def_ 7 (d := a__law_marks) rfl)
theorem F__law_marks {K : PySem.W.Frag} (c : He.SaysD fa fn K) : FnP K "_law_marks" (top 11) (He.ga K "_law_marks") (fd__law_marks c) := Classical.choose_spec (c.def_ 7 (d := a__law_marks) rfl)
theorem b__law_marks {K : PySem.W.Frag} (c : He.SaysD fa fn K) : Binds K (fd__law_marks c) (["_law_text"] : List Str) [] := (F__law_marks c).bindsN fun _ _ _ _ _ _ us hl => match us, hl with | [_], _ => rfl
theorem sc__law_marks : FnScope (["_law_text", "_law_found", "_law_line", "_law_at", "_law_sign", "_law_sort_here", "_law_mark"] : List Str) (["_law_text"] : List Str) (defScope (top 11)) := ⟨rfl, rfl, rfl, by decide +kernel, rfl, by decide +kernel, by decide +kernel⟩
noncomputable def fd__law_piece {K : PySem.W.Frag} (c : He.SaysD fa fn K) : FuncData := Classical.choose (c.def_ 8 (d := a__law_piece) rfl)
theorem F__law_piece {K : PySem.W.Frag} (c : He.SaysD fa fn K) : FnP K "_law_piece" (top 12) (He.ga K "_law_piece") (fd__law_piece c) := Classical.choose_spec (c.def_ 8 (d := a__law_piece) rfl)
theorem b__law_piece {K : PySem.W.Frag} (c : He.SaysD fa fn K) : Binds K (fd__law_piece c) (["_law_heap_here"] : List Str) [] := (F__law_piece c).bindsN fun _ _ _ _ _ _ us hl => match us, hl with | [_], _ => rfl
theorem sc__law_piece : FnScope (["_law_heap_here", "_law_sort_here", "_law_turn", "_law_some"] : List Str) (["_law_heap_here"] : List Str) (defScope (top 12)) := ⟨rfl, rfl, rfl, by decide +kernel, rfl, by decide +kernel, by decide +kernel⟩
noncomputable def fd_law {K : PySem.W.Frag} (c : He.SaysD fa fn K) : FuncData := Classical.choose (c.def_ 9 (d := a_law) rfl)
theorem F_law {K : PySem.W.Frag} (c : He.SaysD fa fn K) : FnP K "law" (top 13) (He.ga K "law") (fd_law c) := Classical.choose_spec (c.def_ 9 (d := a_law) rfl)
theorem sc_law : FnScope (["_law_script", "_law_heap_here", "_law_turn", "_law_text", "_law_again", "_law_due", "_law_told", "_law_joined", "_law_line", "_law_at", "_law_mark"] : List Str) (["_law_script"] : List Str) (defScope (top 13)) := ⟨rfl, rfl, rfl, by decide +kernel, rfl, by decide +kernel, by decide +kernel⟩
theorem b_marks_of_text {K : PySem.W.Frag} (c : He.SaysD fa fn K) : BindK K (fd_marks_of c) (["text"] : List Str) (["text"] : List Str) 0 [0] := bindK_of (F_marks_of c) fun _ _ _ _ _ _ us ws h1 h2 => match us, h1, ws, h2 with | [], _, [_], _ => rfl
end Dl
-- D5
namespace Dl
open PySem PySem.Spec PyProof.Rows L2

theorem d_run_end {P : Program} {w : World} {K : PySem.W.Frag} {mg : Str → Option Value} {base h : Heap} (hK : K.In h) (hG : h.Ns mainGlobals mg) (c : He.SaysD fa fn K) : FnD P w ⟨K, clT, xcT⟩ mg base 1 (He.ga K "run_end") (fd_run_end c) (["text", "at", "signs"] : List Str) (fun _ _ => rgNone) m_run_end := by
  have n_len : mg "len" = none := He.free_ok hK hG (c.fact 10 (f := .free "len") rfl)
  refine fnD_of (N := (["text", "at", "signs"] : List Str)) (F_run_end c) sc_run_end fun cdv A outer s H G E hp hc hgu hr => ?_
  have hu : (A.deeper (envOfC "run_end" (defScope (top 3)) s.heap.objs.size (He.ga K "run_end") cdv)).units + 66 < cLine := by have := hr.un; omega
  exact (s_cons (s_while (passes_of rfl) (PW.pt (w_and (q_cmp c_lt (r_var (pv 1)) (r_of (e_len rfl n_len (r_var (pv 0)))) rfl) (pw_and1 (q_cmp (c_in hu) (r_of (e_ix (r_var (pv 0)) (r_var (pv 1)))) (r_var (pv 2)) rfl)))) (s_one (s_set sc_run_end.nd rfl (by first | exact Or.inl rfl | exact Or.inr rfl) (e_add (r_var (pv 1)) (r_of e_int))))) (s_one (s_ret (e_var (pv 1)))))
theorem d_mark_at {P : Program} {w : World} {K : PySem.W.Frag} {mg : Str → Option Value} {base h : Heap} (hK : K.In h) (hG : h.Ns mainGlobals mg) (c : He.SaysD fa fn K) : FnD P w ⟨K, clT, xcT⟩ mg base 2 (He.ga K "mark_at") (fd_mark_at c) (["text", "at"] : List Str) (fun _ _ => rgNone) m_mark_at := by
  have g_run_end : mg "run_end" = some (.ref (He.ga K "run_end")) := He.glo_ok hK hG (c.fact 0 (f := .glo "run_end") rfl)
  have k_run_end := (F_run_end c).kp
  have D_run_end := (d_run_end (P := P) (w := w) (base := base) hK hG c).mono (show 1 ≤ 1 by decide)
  have b_run_end := b_run_end c
  have c_DIGITS := He.str_ok hK hG (c.fact 17 (f := .str "DIGITS" "0123456789") rfl)
  have c_LETTERS := He.str_ok hK hG (c.fact 16 (f := .str "LETTERS" "abcdefghijklmnopqrstuvwxyz") rfl)
  refine fnD_of (N := (["text", "at"] : List Str)) (F_mark_at c) sc_mark_at fun cdv A outer s H G E hp hc hgu hr => ?_
  have hu : (A.deeper (envOfC "mark_at" (defScope (top 4)) s.heap.objs.size (He.ga K "mark_at") cdv)).units + 66 < cLine := by have := hr.un; omega
  exact (s_cons (s_if (q_cmp (c_in hu) (r_of (e_ix (r_var (pv 0)) (r_var (pv 1)))) (r_of (e_glS [97, 98, 99, 100, 101, 102, 103, 104, 105, 106, 107, 108, 109, 110, 111, 112, 113, 114, 115, 116, 117, 118, 119, 120, 121, 122] rfl c_LETTERS)) rfl) (s_one (s_ret (e_sl (r_var (pv 0)) (p_some (r_var (pv 1))) (p_some (r_of (e_callP D_run_end hgu hr rfl g_run_end k_run_end b_run_end (takes_of rfl rfl rfl rfl) (a_cons (e_var (pv 0)) (a_cons (e_var (pv 1)) (a_cons (e_glS [97, 98, 99, 100, 101, 102, 103, 104, 105, 106, 107, 108, 109, 110, 111, 112, 113, 114, 115, 116, 117, 118, 119, 120, 121, 122] rfl c_LETTERS) a_nil))))))))) s_nil) (s_one (s_ret (e_if (q_cmp (c_in hu) (r_of (e_ix (r_var (pv 0)) (r_var (pv 1)))) (r_of (e_glS [48, 49, 50, 51, 52, 53, 54, 55, 56, 57] rfl c_DIGITS)) rfl) (e_sl (r_var (pv 0)) (p_some (r_var (pv 1))) (p_some (r_of (e_callP D_run_end hgu hr rfl g_run_end k_run_end b_run_end (takes_of rfl rfl rfl rfl) (a_cons (e_var (pv 0)) (a_cons (e_var (pv 1)) (a_cons (e_glS [48, 49, 50, 51, 52, 53, 54, 55, 56, 57] rfl c_DIGITS) a_nil))))))) (e_ix (r_var (pv 0)) (r_var (pv 1)))))))
theorem d_marks_of {P : Program} {w : World} {K : PySem.W.Frag} {mg : Str → Option Value} {base h : Heap} (hK : K.In h) (hG : h.Ns mainGlobals mg) (c : He.SaysD fa fn K) : FnD P w ⟨K, clT, xcT⟩ mg base 3 (He.ga K "marks_of") (fd_marks_of c) (["text"] : List Str) (fun _ _ => rgNone) m_marks_of := by
  have g_mark_at : mg "mark_at" = some (.ref (He.ga K "mark_at")) := He.glo_ok hK hG (c.fact 1 (f := .glo "mark_at") rfl)
  have k_mark_at := (F_mark_at c).kp
  have D_mark_at := (d_mark_at (P := P) (w := w) (base := base) hK hG c).mono (show 2 ≤ 2 by decide)
  have b_mark_at := b_mark_at c
  have n_len : mg "len" = none := He.free_ok hK hG (c.fact 10 (f := .free "len") rfl)
  have n_tuple : mg "tuple" = none := He.free_ok hK hG (c.fact 11 (f := .free "tuple") rfl)
  refine fnD_of (N := (["text", "found", "line", "start", "at", "mark"] : List Str)) (F_marks_of c) sc_marks_of fun cdv A outer s H G E hp hc hgu hr => ?_
  have hu : (A.deeper (envOfC "marks_of" (defScope (top 5)) s.heap.objs.size (He.ga K "marks_of") cdv)).units + 66 < cLine := by have := hr.un; omega
  exact (s_cons (s_parN (ps_asg (pe_tup (m_own (o_lst a_nil) (m_val e_int (m_val e_int (m_val e_int m_nil))))) (pg_tup rfl (pgs_cons (pg_name sc_marks_of.nd rfl (by first | exact Or.inl rfl | exact Or.inr rfl)) (pgs_cons (pg_name sc_marks_of.nd rfl (by first | exact Or.inl rfl | exact Or.inr rfl)) (pgs_cons (pg_name sc_marks_of.nd rfl (by first | exact Or.inl rfl | exact Or.inr rfl)) (pgs_cons (pg_name sc_marks_of.nd rfl (by first | exact Or.inl rfl | exact Or.inr rfl)) pgs_nil)))))) rfl (by decide)) (s_cons (s_while (passes_of rfl) (q_cmp c_lt (r_var (pv 4)) (r_of (e_len rfl n_len (r_var (pv 0)))) rfl) (s_cons (s_set sc_marks_of.nd rfl (by first | exact Or.inl rfl | exact Or.inr rfl) (e_callP D_mark_at hgu hr rfl g_mark_at k_mark_at b_mark_at (takes_of rfl rfl rfl rfl) (a_cons (e_var (pv 0)) (a_cons (e_var (pv 4)) a_nil)))) (s_cons (s_if (q_cmp (c_ne hu) (r_var (pv 5)) (r_of (e_str [32])) rfl) (s_one (s_app (ps_expr (pe_bm PySem.F.plainAttrs_list PySem.F.slot_list_append PySem.F.type_list_append mt_append (pv 1) (pa_cons (e_tup (a_cons (e_var (pv 2)) (a_cons (e_sub (r_var (pv 4)) (r_var (pv 3))) (a_cons (e_var (pv 5)) a_nil)))) pa_nil))))) s_nil) (s_cons (s_set sc_marks_of.nd rfl (by first | exact Or.inl rfl | exact Or.inr rfl) (e_add (r_var (pv 4)) (r_of (e_len rfl n_len (r_var (pv 5)))))) (s_one (s_if (q_cmp (c_eq hu) (r_var (pv 5)) (r_of (e_str [10])) rfl) (s_one (s_par2 (ps_par (by rfl) sc_marks_of.nd rfl rfl (by decide) rfl rfl (m_val (e_add (r_var (pv 2)) (r_of e_int)) (m_val (e_var (pv 4)) m_nil)) (by rfl)))) s_nil)))))) (s_one (s_ret (e_toTup rfl n_tuple (r_var (pv 1)))))))
theorem d__law_heap {P : Program} {w : World} {K : PySem.W.Frag} {mg : Str → Option Value} {base h : Heap} (hK : K.In h) (hG : h.Ns mainGlobals mg) (c : He.SaysD fa fn K) : FnOk P w K mg base CX0 1 (He.ga K "_law_heap") (fd__law_heap c) ["_law_script"] (spHeap K) := by
  have n_abs : mg "abs" = none := He.free_ok hK hG (c.fact 12 (f := .free "abs") rfl)
  have n_int : mg "int" = none := He.free_ok hK hG (c.fact 13 (f := .free "int") rfl)
  refine heap_fn (cl := clT) (xc := xcT) (a := seqS h_1 h_2) (m1 := h_3) (m2 := h_4) (F__law_heap c) sc__law_heap (fun cdv A outer s H E => ?_) heap_math
  exact hp_body (s_par2 (ps_par (by rfl) sc__law_heap.nd rfl rfl (by decide) rfl rfl (m_val (e_of (o_lc (own := [("_law_cell", 3)]) rfl sc__law_heap.nd (i_seq (e_sl (r_var (pv 0)) p_none (p_some (r_of e_int)))) (blkOk_by (N := (["_law_script", "_law_cells", "_law_stir", "_law_cell"] : List Str)) (sc := defScope (top 7)) (by decide +kernel)) (by decide) (fun _ _ _ _ _ => (g_name (pg_name sc__law_heap.nd rfl (by first | exact Or.inl rfl | exact Or.inr rfl)))) (fun _ _ _ _ _ => t_nil) (fun _ _ _ _ _ => (e_add (r_of (e_mulA (r_of e_int) (r_of (e_abs rfl n_abs (r_var (pv 3)))))) (r_of (e_toInt rfl n_int (r_of (e_cmp c_lt (r_var (pv 3)) (r_of e_int) rfl)))))))) (m_val e_int m_nil)) (by rfl))) (s_for (passes_of rfl) rfl (i_seq (e_var (pv 1))) (g_name (pg_name sc__law_heap.nd rfl (by first | exact Or.inl rfl | exact Or.inr rfl))) (s_one (s_set sc__law_heap.nd rfl (by first | exact Or.inl rfl | exact Or.inr rfl) (e_mod (r_of (e_toInt rfl n_int (r_of (e_add (r_of (e_add (r_of (e_mulA (r_var (pv 2)) (r_of e_int))) (r_of (e_mod (r_of (e_toInt rfl n_int (r_var (pv 3)))) (r_of e_int))))) (r_of e_int))))) (r_of e_int))))) (o_rev (r_of (e_of (o_lc (own := [("_law_cell", 3)]) rfl sc__law_heap.nd (i_seq (e_var (pv 1))) (blkOk_by (N := (["_law_script", "_law_cells", "_law_stir", "_law_cell"] : List Str)) (sc := defScope (top 7)) (by decide +kernel)) (by decide) (fun _ _ _ _ _ => (g_name (pg_name sc__law_heap.nd rfl (by first | exact Or.inl rfl | exact Or.inr rfl)))) (fun _ _ _ _ _ => (t_one (q_cmp c_ge (r_var (pv 3)) (r_of (e_pow (r_of e_int) (r_of e_int))) rfl))) (fun _ _ _ _ _ => (e_var (pv 3))))))) (e_var (pv 2))
theorem d__law_draw {P : Program} {w : World} {K : PySem.W.Frag} {mg : Str → Option Value} {base h : Heap} (hK : K.In h) (hG : h.Ns mainGlobals mg) (c : He.SaysD fa fn K) : FnD P w ⟨K, clT, xcT⟩ mg base 1 (He.ga K "_law_draw") (fd__law_draw c) ["_law_heap_here", "_law_many"] rgD m__law_draw := by
  have n_int : mg "int" = none := He.free_ok hK hG (c.fact 13 (f := .free "int") rfl)
  refine (fnD_of (F__law_draw c) sc__law_draw (b := drawB _ _) fun cdv A outer s H G E hp hc hgu hr => ?_).eq rfl
  have hu : (A.deeper (envOfC "_law_draw" (defScope (top 8)) s.heap.objs.size (He.ga K "_law_draw") cdv)).units + 66 < cLine := by have := hr.un; omega
  exact s_cons (s_while (passes_of rfl) (PW.pt (w_and (q_hNe rfl hu (h0 (pv 0))) (pw_and1 (q_cmp (c_eq hu) (r_of (e_hLast rfl (h0 (pv 0)))) (r_of e_int) rfl)))) (s_one (s_hPopN rfl (ps_expr (pe_bm0 PySem.F.plainAttrs_list PySem.F.slot_list_pop PySem.F.type_list_pop mt_pop (h0 (pv 0))))))) (s_cons
    (s_if (q_hNe rfl hu (h0 (pv 0))) (s_cons (s_hPop rfl (ps_set sc__law_draw.nd rfl (by first | exact Or.inl rfl | exact Or.inr rfl) (pe_bm0 PySem.F.plainAttrs_list PySem.F.slot_list_pop PySem.F.type_list_pop mt_pop (h0 (pv 0))))) (s_cons
      (s_hApp rfl (ps_expr (pe_bm PySem.F.plainAttrs_list PySem.F.slot_list_append PySem.F.type_list_append mt_append (h0 (pv 0)) (pa_cons (e_fdiv (r_var (pv 2)) (r_var (pv 1))) pa_nil)))) (s_one (s_ret (e_mod (r_of (e_toInt rfl n_int (r_var (pv 2)))) (r_var (pv 1))))))) s_nil) (s_cons
    (s_hSet rfl (ps_asg (e_mod (r_of (e_toInt rfl n_int (r_of (e_add (r_of (e_mulA (r_of (e_h1 rfl (pv 0))) (r_of e_int))) (r_of e_int))))) (r_of e_int)) (pg_sub (pv 0) pe_int set_list)))
    (s_one (s_ret (e_mod (r_of (e_toInt rfl n_int (r_of (e_fdiv (r_of (e_h1 rfl (pv 0))) (r_of e_int))))) (r_var (pv 1)))))))
theorem d__law_pick {P : Program} {w : World} {K : PySem.W.Frag} {mg : Str → Option Value} {base h : Heap} (hK : K.In h) (hG : h.Ns mainGlobals mg) (c : He.SaysD fa fn K) : FnD P w ⟨K, clT, xcT⟩ mg base 2 (He.ga K "_law_pick") (fd__law_pick c) (["_law_heap_here", "_law_some"] : List Str) rgD m__law_pick := by
  have g__law_draw : mg "_law_draw" = some (.ref (He.ga K "_law_draw")) := He.glo_ok hK hG (c.fact 4 (f := .glo "_law_draw") rfl)
  have k__law_draw := (F__law_draw c).kp
  have D__law_draw := (d__law_draw (P := P) (w := w) (base := base) hK hG c).mono (show 1 ≤ 1 by decide)
  have b__law_draw := b__law_draw c
  have n_len : mg "len" = none := He.free_ok hK hG (c.fact 10 (f := .free "len") rfl)
  refine fnD_of (N := (["_law_heap_here", "_law_some"] : List Str)) (F__law_pick c) sc__law_pick fun cdv A outer s H G E hp hc hgu hr => ?_
  have hu : (A.deeper (envOfC "_law_pick" (defScope (top 9)) s.heap.objs.size (He.ga K "_law_pick") cdv)).units + 66 < cLine := by have := hr.un; omega
  exact (s_one (s_ret (e_ix (r_var (pv 1)) (r_of (e_callS D__law_draw rfl hgu hr rfl g__law_draw k__law_draw b__law_draw (takes_of rfl rfl rfl rfl) (a_cons (e_var (pv 0)) (a_cons (e_len rfl n_len (r_var (pv 1))) a_nil)))))))
theorem d__law_sort {P : Program} {w : World} {K : PySem.W.Frag} {mg : Str → Option Value} {base h : Heap} (hK : K.In h) (hG : h.Ns mainGlobals mg) (c : He.SaysD fa fn K) : FnD P w ⟨K, clT, xcT⟩ mg base 1 (He.ga K "_law_sort") (fd__law_sort c) (["_law_sign"] : List Str) (fun _ _ => rgNone) m__law_sort := by
  refine fnD_of (N := (["_law_sign"] : List Str)) (F__law_sort c) sc__law_sort fun cdv A outer s H G E hp hc hgu hr => ?_
  have hu : (A.deeper (envOfC "_law_sort" (defScope (top 10)) s.heap.objs.size (He.ga K "_law_sort") cdv)).units + 66 < cLine := by have := hr.un; omega
  exact (s_cons (s_if (q_ch c_le c_le (r_of (e_str [97])) (r_var (pv 0)) (r_of (e_str [122]))) (s_one (s_ret e_int)) s_nil) (s_one (s_ret (e_if (q_ch c_le c_le (r_of (e_str [48])) (r_var (pv 0)) (r_of (e_str [57]))) e_int e_int))))
theorem d__law_marks {P : Program} {w : World} {K : PySem.W.Frag} {mg : Str → Option Value} {base h : Heap} (hK : K.In h) (hG : h.Ns mainGlobals mg) (c : He.SaysD fa fn K) : FnD P w ⟨K, clT, xcT⟩ mg base 2 (He.ga K "_law_marks") (fd__law_marks c) (["_law_text"] : List Str) (fun _ _ => rgNone) m__law_marks := by
  have g__law_sort : mg "_law_sort" = some (.ref (He.ga K "_law_sort")) := He.glo_ok hK hG (c.fact 6 (f := .glo "_law_sort") rfl)
  have k__law_sort := (F__law_sort c).kp
  have D__law_sort := (d__law_sort (P := P) (w := w) (base := base) hK hG c).mono (show 1 ≤ 1 by decide)
  have b__law_sort := b__law_sort c
  have n_len : mg "len" = none := He.free_ok hK hG (c.fact 10 (f := .free "len") rfl)
  refine fnD_of (N := (["_law_text", "_law_found", "_law_line", "_law_at", "_law_sign", "_law_sort_here", "_law_mark"] : List Str)) (F__law_marks c) sc__law_marks fun cdv A outer s H G E hp hc hgu hr => ?_
  have hu : (A.deeper (envOfC "_law_marks" (defScope (top 11)) s.heap.objs.size (He.ga K "_law_marks") cdv)).units + 66 < cLine := by have := hr.un; omega
  exact (s_cons (s_par3 (ps_par3 (by rfl) sc__law_marks.nd rfl rfl rfl (by decide) (by decide) (by decide) rfl rfl rfl (m_own (o_lst a_nil) (m_val e_int (m_val e_int m_nil))) (by rfl))) (s_cons (s_for (passes_of rfl) rfl (i_seq (e_var (pv 0))) (g_name (pg_name sc__law_marks.nd rfl (by first | exact Or.inl rfl | exact Or.inr rfl))) (s_cons (s_set sc__law_marks.nd rfl (by first | exact Or.inl rfl | exact Or.inr rfl) (e_callP D__law_sort hgu hr rfl g__law_sort k__law_sort b__law_sort (takes_of rfl rfl rfl rfl) (a_cons (e_var (pv 4)) a_nil))) (s_cons (s_if (PW.pt (w_and (q_cmp c_gt (r_var (pv 5)) (r_of e_int) rfl) (w_and (q_cmp (c_ne hu) (r_var (pv 1)) (r_of (e_of (o_lst a_nil))) rfl) (w_and (q_cmp (c_eq hu) (r_of (e_ix (r_of (e_ix (r_var (pv 1)) (r_of (e_neg (r_of e_int))))) (r_of e_int))) (r_var (pv 5)) rfl) (pw_and1 (q_cmp (c_eq hu) (r_of (e_sl (r_of (e_ix (r_var (pv 1)) (r_of (e_neg (r_of e_int))))) p_none (p_some (r_of e_int)))) (r_of (e_tup (a_cons (e_var (pv 2)) (a_cons (e_sub (r_var (pv 3)) (r_of (e_len rfl n_len (r_of (e_ix (r_of (e_ix (r_var (pv 1)) (r_of (e_neg (r_of e_int))))) (r_of e_int)))))) a_nil)))) rfl)))))) (s_one (s_put (ps_asg (e_add (r_of (e_sl (r_of (e_ix (r_var (pv 1)) (r_of (e_neg (r_of e_int))))) p_none (p_some (r_of e_int)))) (r_of (e_tup (a_cons (e_add (r_of (e_ix (r_of (e_ix (r_var (pv 1)) (r_of (e_neg (r_of e_int))))) (r_of e_int))) (r_var (pv 4))) (a_cons (e_var (pv 5)) a_nil))))) (pg_sub (pv 1) (r_of (e_neg (r_of e_int))) set_list)))) (s_one (s_if (q_cmp (c_ne hu) (r_var (pv 4)) (r_of (e_str [32])) rfl) (s_one (s_app (ps_expr (pe_bm PySem.F.plainAttrs_list PySem.F.slot_list_append PySem.F.type_list_append mt_append (pv 1) (pa_cons (e_tup (a_cons (e_var (pv 2)) (a_cons (e_var (pv 3)) (a_cons (e_var (pv 4)) (a_cons (e_var (pv 5)) a_nil))))) pa_nil))))) s_nil))) (s_one (s_asgT (e_if (q_cmp (c_eq hu) (r_var (pv 4)) (r_of (e_str [10])) rfl) (e_tup (a_cons (e_add (r_var (pv 2)) (r_of e_int)) (a_cons e_int a_nil))) (e_tup (a_cons (e_var (pv 2)) (a_cons (e_add (r_var (pv 3)) (r_of e_int)) a_nil)))) (g_tup rfl (g_cons (g_name (pg_name sc__law_marks.nd rfl (by first | exact Or.inl rfl | exact Or.inr rfl))) (g_cons (g_name (pg_name sc__law_marks.nd rfl (by first | exact Or.inl rfl | exact Or.inr rfl))) g_nil)) (l_cons (l_cons l_nil)))))))) (s_frz (s_one (s_ret (e_of (o_lc (own := [("_law_mark", 6)]) rfl sc__law_marks.nd (i_seq (e_var (pv 1))) (blkOk_by (N := (["_law_text", "_law_found", "_law_line", "_law_at", "_law_sign", "_law_sort_here", "_law_mark"] : List Str)) (sc := defScope (top 11)) (by decide +kernel)) (by decide) (fun _ _ _ _ _ => (g_name (pg_name sc__law_marks.nd rfl (by first | exact Or.inl rfl | exact Or.inr rfl)))) (fun _ _ _ _ _ => t_nil) (fun _ _ _ _ _ => (e_sl (r_var (pv 6)) p_none (p_some (r_of e_int)))))))))))
theorem d__law_piece {P : Program} {w : World} {K : PySem.W.Frag} {mg : Str → Option Value} {base h : Heap} (hK : K.In h) (hG : h.Ns mainGlobals mg) (c : He.SaysD fa fn K) : FnD P w ⟨K, clT, xcT⟩ mg base 3 (He.ga K "_law_piece") (fd__law_piece c) (["_law_heap_here"] : List Str) rgD m__law_piece := by
  have g__law_draw : mg "_law_draw" = some (.ref (He.ga K "_law_draw")) := He.glo_ok hK hG (c.fact 4 (f := .glo "_law_draw") rfl)
  have k__law_draw := (F__law_draw c).kp
  have D__law_draw := (d__law_draw (P := P) (w := w) (base := base) hK hG c).mono (show 1 ≤ 2 by decide)
  have b__law_draw := b__law_draw c
  have g__law_pick : mg "_law_pick" = some (.ref (He.ga K "_law_pick")) := He.glo_ok hK hG (c.fact 5 (f := .glo "_law_pick") rfl)
  have k__law_pick := (F__law_pick c).kp
  have D__law_pick := (d__law_pick (P := P) (w := w) (base := base) hK hG c).mono (show 2 ≤ 2 by decide)
  have b__law_pick := b__law_pick c
  have n_range : mg "range" = none := He.free_ok hK hG (c.fact 14 (f := .free "range") rfl)
  refine fnD_of (N := (["_law_heap_here", "_law_sort_here", "_law_turn", "_law_some"] : List Str)) (F__law_piece c) sc__law_piece fun cdv A outer s H G E hp hc hgu hr => ?_
  have hu : (A.deeper (envOfC "_law_piece" (defScope (top 12)) s.heap.objs.size (He.ga K "_law_piece") cdv)).units + 66 < cLine := by have := hr.un; omega
  exact (s_cons (s_set sc__law_piece.nd rfl (by first | exact Or.inl rfl | exact Or.inr rfl) (e_callS D__law_draw rfl hgu hr rfl g__law_draw k__law_draw b__law_draw (takes_of rfl rfl rfl rfl) (a_cons (e_var (pv 0)) (a_cons e_int a_nil)))) (s_cons (s_if (q_cmp c_lt (r_var (pv 1)) (r_of e_int) rfl) (s_one (s_ret (e_join (r_of (e_str [])) (r_of (e_of (o_lc (own := [("_law_turn", 2)]) rfl sc__law_piece.nd (i_rng1 rfl n_range (r_of (e_add (r_of e_int) (r_of (e_callS D__law_draw rfl hgu hr rfl g__law_draw k__law_draw b__law_draw (takes_of rfl rfl rfl rfl) (a_cons (e_var (pv 0)) (a_cons (e_callS D__law_pick rfl hgu hr rfl g__law_pick k__law_pick b__law_pick (takes_of rfl rfl rfl rfl) (a_cons (e_var (pv 0)) (a_cons (e_of (o_lst (a_cons e_int (a_cons e_int (a_cons e_int a_nil))))) a_nil))) a_nil))))))) (blkOk_by (N := (["_law_heap_here", "_law_sort_here", "_law_turn", "_law_some"] : List Str)) (sc := defScope (top 12)) (by decide +kernel)) (by decide) (fun _ _ _ _ _ => (g_name (pg_name sc__law_piece.nd rfl (by first | exact Or.inl rfl | exact Or.inr rfl)))) (fun _ _ _ _ _ => t_nil) (fun _ _ _ _ _ => (e_ix (r_of (e_str [97, 98, 99, 120, 121, 122, 110, 111, 114, 117])) (r_of (e_callS D__law_draw rfl hgu hr rfl g__law_draw k__law_draw b__law_draw takes0 (a_cons (e_var (pv 0)) (a_cons e_int a_nil)))))))))))) s_nil) (s_cons (s_if (q_cmp c_lt (r_var (pv 1)) (r_of e_int) rfl) (s_one (s_ret (e_join (r_of (e_str [])) (r_of (e_of (o_lc (own := [("_law_turn", 2)]) rfl sc__law_piece.nd (i_rng1 rfl n_range (r_of (e_add (r_of e_int) (r_of (e_callS D__law_draw rfl hgu hr rfl g__law_draw k__law_draw b__law_draw (takes_of rfl rfl rfl rfl) (a_cons (e_var (pv 0)) (a_cons (e_callS D__law_pick rfl hgu hr rfl g__law_pick k__law_pick b__law_pick (takes_of rfl rfl rfl rfl) (a_cons (e_var (pv 0)) (a_cons (e_of (o_lst (a_cons e_int (a_cons e_int (a_cons e_int a_nil))))) a_nil))) a_nil))))))) (blkOk_by (N := (["_law_heap_here", "_law_sort_here", "_law_turn", "_law_some"] : List Str)) (sc := defScope (top 12)) (by decide +kernel)) (by decide) (fun _ _ _ _ _ => (g_name (pg_name sc__law_piece.nd rfl (by first | exact Or.inl rfl | exact Or.inr rfl)))) (fun _ _ _ _ _ => t_nil) (fun _ _ _ _ _ => (e_ix (r_of (e_str [48, 49, 50, 51, 52, 53, 54, 55, 56, 57])) (r_of (e_callS D__law_draw rfl hgu hr rfl g__law_draw k__law_draw b__law_draw takes0 (a_cons (e_var (pv 0)) (a_cons e_int a_nil)))))))))))) s_nil) (s_cons (s_if (q_cmp (c_eq hu) (r_var (pv 1)) (r_of e_int) rfl) (s_one (s_ret (e_mulA (r_of (e_str [32])) (r_of (e_add (r_of e_int) (r_of (e_callS D__law_draw rfl hgu hr rfl g__law_draw k__law_draw b__law_draw (takes_of rfl rfl rfl rfl) (a_cons (e_var (pv 0)) (a_cons e_int a_nil))))))))) s_nil) (s_cons (s_set sc__law_piece.nd rfl (by first | exact Or.inl rfl | exact Or.inr rfl) (e_of (o_lst (a_cons (e_str [10]) (a_cons (e_str [61]) (a_cons (e_str [47]) (a_cons (e_str [45]) (a_cons (e_str [44]) (a_cons (e_str [59]) (a_cons (e_str [58]) (a_cons (e_str [33]) (a_cons (e_str [38]) (a_cons (e_str [124]) (a_cons (e_str [40]) (a_cons (e_str [41]) (a_cons (e_str [65]) (a_cons (e_str [90]) (a_cons (e_str [126]) (a_cons (e_str [95]) (a_cons (e_str [64]) (a_cons (e_str [123]) (a_cons (e_str [91]) (a_cons (e_str [63]) (a_cons (e_str [10]) (a_cons (e_str [46]) (a_cons (e_str [36]) a_nil)))))))))))))))))))))))))) (s_one (s_ret (e_callS D__law_pick rfl hgu hr rfl g__law_pick k__law_pick b__law_pick (takes_of rfl rfl rfl rfl) (a_cons (e_var (pv 0)) (a_cons (e_add (r_var (pv 3)) (r_of (e_of (o_lst (a_cons (e_str [92]) (a_cons (e_str [35]) (a_cons (e_str [42]) (a_cons (e_str [96]) (a_cons (e_str [43]) (a_cons (e_str [45]) (a_cons (e_str [61]) a_nil))))))))))) a_nil))))))))))
theorem d_law {P : Program} {w : World} {K : PySem.W.Frag} {mg : Str → Option Value} {h : Heap} (hK : K.In h) (hG : h.Ns mainGlobals mg) (c : He.SaysD fa fn K) : LawOk P w K mg 63 (He.ga K "law") := by
  have g__law_heap : mg "_law_heap" = some (.ref (He.ga K "_law_heap")) := He.glo_ok hK hG (c.fact 3 (f := .glo "_law_heap") rfl)
  refine law_fn (k := 3) (cl := clT) (xc := xcT) (N := (["_law_script", "_law_heap_here", "_law_turn", "_law_text", "_law_again", "_law_due", "_law_told", "_law_joined", "_law_line", "_law_at", "_law_mark"] : List Str)) (F_law c) sc_law (b := m_law) (fun s u => (FunD.bindsA (ps := ["_law_script"]) (F_law c) fun _ _ _ _ _ _ us hl => match us, hl with | [_], _ => rfl) s [u] rfl) ⟨rfl, by decide, by decide⟩ (by decide) (fun cdv base s H hr => ?_) (fun cdv base s H hp hc hgu hr => ?_) law_math
  · exact ps_set sc_law.nd rfl (by first | exact Or.inl rfl | exact Or.inr rfl) (pe_call ((d__law_heap (P := P) (w := w) (base := base) hK hG c).mono (show 1 ≤ 3 by decide)) hr rfl g__law_heap (F__law_heap c).kp (b__law_heap c) .nil pass0 (pa_cons (pv 0) pa_nil))
  · have hu : (callerA.deeper (envOfC "law" (defScope (top 13)) s.heap.objs.size (He.ga K "law") cdv)).units + 66 < cLine := by have := hr.un; omega
    have g__law_draw : mg "_law_draw" = some (.ref (He.ga K "_law_draw")) := He.glo_ok hK hG (c.fact 4 (f := .glo "_law_draw") rfl)
    have k__law_draw := (F__law_draw c).kp
    have D__law_draw := (d__law_draw (P := P) (w := w) (base := base) hK hG c).mono (show 1 ≤ 3 by decide)
    have b__law_draw := b__law_draw c
    have g__law_marks : mg "_law_marks" = some (.ref (He.ga K "_law_marks")) := He.glo_ok hK hG (c.fact 7 (f := .glo "_law_marks") rfl)
    have k__law_marks := (F__law_marks c).kp
    have D__law_marks := (d__law_marks (P := P) (w := w) (base := base) hK hG c).mono (show 2 ≤ 3 by decide)
    have b__law_marks := b__law_marks c
    have g__law_pick : mg "_law_pick" = some (.ref (He.ga K "_law_pick")) := He.glo_ok hK hG (c.fact 5 (f := .glo "_law_pick") rfl)
    have k__law_pick := (F__law_pick c).kp
    have D__law_pick := (d__law_pick (P := P) (w := w) (base := base) hK hG c).mono (show 2 ≤ 3 by decide)
    have b__law_pick := b__law_pick c
    have g__law_piece : mg "_law_piece" = some (.ref (He.ga K "_law_piece")) := He.glo_ok hK hG (c.fact 8 (f := .glo "_law_piece") rfl)
    have k__law_piece := (F__law_piece c).kp
    have D__law_piece := (d__law_piece (P := P) (w := w) (base := base) hK hG c).mono (show 3 ≤ 3 by decide)
    have b__law_piece := b__law_piece c
    have g_marks_of : mg "marks_of" = some (.ref (He.ga K "marks_of")) := He.glo_ok hK hG (c.fact 2 (f := .glo "marks_of") rfl)
    have k_marks_of := (F_marks_of c).kp
    have D_marks_of := (d_marks_of (P := P) (w := w) (base := base) hK hG c).mono (show 3 ≤ 3 by decide)
    have b_marks_of := b_marks_of c
    have b_marks_of_text := b_marks_of_text c
    have n_int : mg "int" = none := He.free_ok hK hG (c.fact 13 (f := .free "int") rfl)
    have n_len : mg "len" = none := He.free_ok hK hG (c.fact 10 (f := .free "len") rfl)
    have n_range : mg "range" = none := He.free_ok hK hG (c.fact 14 (f := .free "range") rfl)
    have n_repr : mg "repr" = none := He.free_ok hK hG (c.fact 15 (f := .free "repr") rfl)
    have n_tuple : mg "tuple" = none := He.free_ok hK hG (c.fact 11 (f := .free "tuple") rfl)
    exact (s_cons (s_for (passes_of rfl) rfl (i_rng1 rfl n_range (r_of (e_add (r_of e_int) (r_of (e_mulA (r_of e_int) (r_of (e_toInt rfl n_int (r_of (e_cmp c_gt (r_of (e_len rfl n_len (r_var (pv 0)))) (r_of e_int) rfl))))))))) (g_name (pg_name sc_law.nd rfl (by first | exact Or.inl rfl | exact Or.inr rfl))) (s_cons (s_set sc_law.nd rfl (by first | exact Or.inl rfl | exact Or.inr rfl) (e_join (r_of (e_str [])) (r_of (e_of (o_lc (own := [("_law_again", 4)]) rfl sc_law.nd (i_rng1 rfl n_range (r_of (e_callS D__law_pick rfl hgu hr rfl g__law_pick k__law_pick b__law_pick (takes_of rfl rfl rfl rfl) (a_cons (e_var (pv 1)) (a_cons (e_of (o_lst (a_cons e_int (a_cons e_int (a_cons e_int (a_cons e_int (a_cons e_int a_nil))))))) a_nil))))) (blkOk_by (N := (["_law_script", "_law_heap_here", "_law_turn", "_law_text", "_law_again", "_law_due", "_law_told", "_law_joined", "_law_line", "_law_at", "_law_mark"] : List Str)) (sc := defScope (top 13)) (by decide +kernel)) (by decide) (fun _ _ _ _ _ => (g_name (pg_name sc_law.nd rfl (by first | exact Or.inl rfl | exact Or.inr rfl)))) (fun _ _ _ _ _ => t_nil) (fun _ _ _ _ _ => (e_callS D__law_piece rfl hgu hr rfl g__law_piece k__law_piece b__law_piece takes0 (a_cons (e_var (pv 1)) a_nil)))))))) (s_cons (s_set sc_law.nd rfl (by first | exact Or.inl rfl | exact Or.inr rfl) (e_if (q_cmp (c_eq hu) (r_of (e_callS D__law_draw rfl hgu hr rfl g__law_draw k__law_draw b__law_draw (takes_of rfl rfl rfl rfl) (a_cons (e_var (pv 1)) (a_cons e_int a_nil)))) (r_of e_int) rfl) (e_add (r_of (e_add (r_of (e_add (r_of (e_add (r_of (e_mulA (r_of (e_str [55])) (r_of e_int))) (r_of (e_str [32])))) (r_var (pv 3)))) (r_of (e_str [61])))) (r_of (e_mulA (r_of (e_str [49, 50])) (r_of e_int)))) (e_var (pv 3)))) (s_cons (s_set sc_law.nd rfl (by first | exact Or.inl rfl | exact Or.inr rfl) (e_toTup rfl n_tuple (r_of (e_callP D__law_marks hgu hr rfl g__law_marks k__law_marks b__law_marks (takes_of rfl rfl rfl rfl) (a_cons (e_var (pv 3)) a_nil))))) (s_cons (s_set sc_law.nd rfl (by first | exact Or.inl rfl | exact Or.inr rfl) (e_callP D_marks_of hgu hr rfl g_marks_of k_marks_of b_marks_of (takes_of rfl rfl rfl rfl) (a_cons (e_var (pv 3)) a_nil))) (s_cons (s_if (PW.pt (w_or (q_cmp (c_ne hu) (r_of (e_repr hgu hu rfl n_repr (r_var (pv 6)))) (r_of (e_repr hgu hu rfl n_repr (r_var (pv 5)))) rfl) (pw_or1 (q_cmp (c_ne hu) (r_of (e_kwP D_marks_of hgu hr rfl g_marks_of k_marks_of b_marks_of_text (takes_of rfl rfl rfl rfl) (k_cons (e_var (pv 3)) k_nil))) (r_var (pv 6)) rfl)))) (s_one (s_ret e_bl)) s_nil) (s_cons (s_set sc_law.nd rfl (by first | exact Or.inl rfl | exact Or.inr rfl) (e_join (r_of (e_str [32])) (r_of (e_of (o_lc (own := [("_law_line", 8), ("_law_at", 9), ("_law_mark", 10)]) rfl sc_law.nd (i_seq (e_var (pv 5))) (blkOk_by (N := (["_law_script", "_law_heap_here", "_law_turn", "_law_text", "_law_again", "_law_due", "_law_told", "_law_joined", "_law_line", "_law_at", "_law_mark"] : List Str)) (sc := defScope (top 13)) (by decide +kernel)) (by decide) (fun _ _ _ _ _ => (g_tup rfl (g_cons (g_name (pg_name sc_law.nd rfl (by first | exact Or.inl rfl | exact Or.inr rfl))) (g_cons (g_name (pg_name sc_law.nd rfl (by first | exact Or.inl rfl | exact Or.inr rfl))) (g_cons (g_name (pg_name sc_law.nd rfl (by first | exact Or.inl rfl | exact Or.inr rfl))) g_nil))) (l_cons (l_cons (l_cons l_nil))))) (fun _ _ _ _ _ => t_nil) (fun _ _ _ _ _ => (e_var (pv 10)))))))) (s_one (s_if (q_cmp (c_ne hu) (r_of (e_of (o_lc (own := [("_law_line", 8), ("_law_at", 9), ("_law_mark", 10)]) rfl sc_law.nd (i_seq (e_callP D_marks_of hgu hr rfl g_marks_of k_marks_of b_marks_of (takes_of rfl rfl rfl rfl) (a_cons (e_var (pv 7)) a_nil))) (blkOk_by (N := (["_law_script", "_law_heap_here", "_law_turn", "_law_text", "_law_again", "_law_due", "_law_told", "_law_joined", "_law_line", "_law_at", "_law_mark"] : List Str)) (sc := defScope (top 13)) (by decide +kernel)) (by decide) (fun _ _ _ _ _ => (g_tup rfl (g_cons (g_name (pg_name sc_law.nd rfl (by first | exact Or.inl rfl | exact Or.inr rfl))) (g_cons (g_name (pg_name sc_law.nd rfl (by first | exact Or.inl rfl | exact Or.inr rfl))) (g_cons (g_name (pg_name sc_law.nd rfl (by first | exact Or.inl rfl | exact Or.inr rfl))) g_nil))) (l_cons (l_cons (l_cons l_nil))))) (fun _ _ _ _ _ => t_nil) (fun _ _ _ _ _ => (e_var (pv 10)))))) (r_of (e_of (o_lc (own := [("_law_line", 8), ("_law_at", 9), ("_law_mark", 10)]) rfl sc_law.nd (i_seq (e_var (pv 5))) (blkOk_by (N := (["_law_script", "_law_heap_here", "_law_turn", "_law_text", "_law_again", "_law_due", "_law_told", "_law_joined", "_law_line", "_law_at", "_law_mark"] : List Str)) (sc := defScope (top 13)) (by decide +kernel)) (by decide) (fun _ _ _ _ _ => (g_tup rfl (g_cons (g_name (pg_name sc_law.nd rfl (by first | exact Or.inl rfl | exact Or.inr rfl))) (g_cons (g_name (pg_name sc_law.nd rfl (by first | exact Or.inl rfl | exact Or.inr rfl))) (g_cons (g_name (pg_name sc_law.nd rfl (by first | exact Or.inl rfl | exact Or.inr rfl))) g_nil))) (l_cons (l_cons (l_cons l_nil))))) (fun _ _ _ _ _ => t_nil) (fun _ _ _ _ _ => (e_var (pv 10)))))) rfl) (s_one (s_ret e_bl)) s_nil))))))))) (s_cons (s_if (PW.pt (w_or (q_cmp (c_ne hu) (r_of (e_callP D_marks_of hgu hr rfl g_marks_of k_marks_of b_marks_of (takes_of rfl rfl rfl rfl) (a_cons (e_str []) a_nil))) (r_of (e_tup a_nil)) rfl) (w_or (q_cmp (c_ne hu) (r_of (e_callP D_marks_of hgu hr rfl g_marks_of k_marks_of b_marks_of (takes_of rfl rfl rfl rfl) (a_cons (e_str [32, 32]) a_nil))) (r_of (e_tup a_nil)) rfl) (pw_or1 (q_cmp (c_ne hu) (r_of (e_callP D_marks_of hgu hr rfl g_marks_of k_marks_of b_marks_of (takes_of rfl rfl rfl rfl) (a_cons (e_str [32, 10]) a_nil))) (r_of (e_tup (a_cons (e_tup (a_cons e_int (a_cons e_int (a_cons (e_str [10]) a_nil)))) a_nil))) rfl))))) (s_one (s_ret e_bl)) s_nil) (s_one (s_ret (e_cmp (c_eq hu) (r_of (e_callP D_marks_of hgu hr rfl g_marks_of k_marks_of b_marks_of (takes_of rfl rfl rfl rfl) (a_cons (e_str [116, 101, 97, 32, 45, 55, 47, 50, 61, 32, 52, 10, 10, 32, 55, 120]) a_nil))) (r_of (e_tup (a_cons (e_tup (a_cons e_int (a_cons e_int (a_cons (e_str [116, 101, 97]) a_nil)))) (a_cons (e_tup (a_cons e_int (a_cons e_int (a_cons (e_str [45]) a_nil)))) (a_cons (e_tup (a_cons e_int (a_cons e_int (a_cons (e_str [55]) a_nil)))) (a_cons (e_tup (a_cons e_int (a_cons e_int (a_cons (e_str [47]) a_nil)))) (a_cons (e_tup (a_cons e_int (a_cons e_int (a_cons (e_str [50]) a_nil)))) (a_cons (e_tup (a_cons e_int (a_cons e_int (a_cons (e_str [61]) a_nil)))) (a_cons (e_tup (a_cons e_int (a_cons e_int (a_cons (e_str [52]) a_nil)))) (a_cons (e_tup (a_cons e_int (a_cons e_int (a_cons (e_str [10]) a_nil)))) (a_cons (e_tup (a_cons e_int (a_cons e_int (a_cons (e_str [10]) a_nil)))) (a_cons (e_tup (a_cons e_int (a_cons e_int (a_cons (e_str [55]) a_nil)))) (a_cons (e_tup (a_cons e_int (a_cons e_int (a_cons (e_str [120]) a_nil)))) a_nil))))))))))))) rfl)))))
end Dl
-- E5
namespace Dl
open PySem PySem.Spec PyProof.Rows L2

abbrev R : PySem.W.OpenRow := PySem.W.OpenLaw.row PySem.Challenge.rw_centsatonce_k05_marks_cut_and_joined
abbrev hk : PySem.W.Hook := He.hookD 4 fa fn
def ob (s : PySem.W.SharedT) : He.AlD := He.obsDG 4 fa fn (HandSHeadRun.getT s)
theorem ob_eq (s : PySem.W.SharedT) : ob s = hk.obs s.abs := He.obsDG_eq (HandSHeadRun.getT_eq s)
theorem run (w : World) : HandSHeadRun.RunEq R (PySem.W.view R.prog [13]) hk ob 2000 ["run_end", "mark_at", "marks_of", "_law_heap", "_law_draw", "_law_pick", "_law_sort", "_law_marks", "_law_piece", "LETTERS", "DIGITS"] w := by
  intro os
  kernel_rfl
end Dl
open PySem PySem.W PySem.Calls PyProof.Rows
theorem PySem.Challenge.cw_centsatonce_k05_marks_cut_and_joined_holds : PySem.Challenge.rw_centsatonce_k05_marks_cut_and_joined.Holds := by
  w_on; o_law
  refine HandSHeadRun.head_any (r := OpenLaw.row PySem.Challenge.rw_centsatonce_k05_marks_cut_and_joined) (q := view (OpenLaw.row PySem.Challenge.rw_centsatonce_k05_marks_cut_and_joined).prog [13]) (H := Dl.hk) (ob := Dl.ob) (M := 2000) (loose := ["run_end", "mark_at", "marks_of", "_law_heap", "_law_draw", "_law_pick", "_law_sort", "_law_marks", "_law_piece", "LETTERS", "DIGITS"]) (d := HandSHeadRun.topDef (OpenLaw.row PySem.Challenge.rw_centsatonce_k05_marks_cut_and_joined).prog 13) (kwd := []) Dl.ob_eq
    (by kernel_rfl) (fun s => by kernel_rfl) Dl.run (by kernel_rfl) (by kernel_rfl) (by kernel_rfl) (by rfl) (by first | assumption | decide +kernel) (by decide +kernel) ⟨rfl, rfl, rfl, rfl, rfl, by decide +kernel⟩ ?hw ?hc
  case hw => w_witness2
  case hc =>
    refine Dl.walkD (l := PySem.Challenge.rw_centsatonce_k05_marks_cut_and_joined) (n := 63) rfl (by decide) (by kernel_rfl) ?F
    intro w mg fa h Y G hmg0
    obtain ⟨K, KX, c⟩ := Y
    have hmg : mg ("law" : PySem.Str) = some (.ref fa) := by
      have e : (HandSHeadRun.topDef (OpenLaw.row PySem.Challenge.rw_centsatonce_k05_marks_cut_and_joined).prog 13).name = ("law" : PySem.Str) := by kernel_rfl
      rw [← e]
      exact hmg0
    have e := hmg.symm.trans (He.glo_ok KX G (c.fact 9 (f := .glo "law") rfl))
    cases e
    exact ⟨K, KX, Dl.d_law KX G c⟩
