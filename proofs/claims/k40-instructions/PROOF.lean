import PyProof.Rows.All
import Wide.All
import OpenK.AllK
import Wide.FinOn
import HandS.ForMost
import HandS.ForExc
import HandS.Deep
import HandS.IsInst
import HandS.TupAny
import HandS.Style
import KE.GoesRaise
import HandS.TryOnly
import HandS.ExcField
import HandS.ExcIs
import KE.KExcIs
import KE.KExcSuper
import KE.KExcLine
import KE.RegKSuper
import HandS.Star
import HandS.More
import KE.GoesMore
import KE.GoesZip
import HandS.Zip
import HandS.TupMul
import PySem.Challenge.RW_headrace_k40_instructions
section -- PdCore
/-! PdCore: a plain semantics of the part of Python that the laws use: values, a store of lists, expressions, statements as functions. No kit in sight. -/
set_option linter.all false
set_option autoImplicit false
namespace Pd

/-- pure data: tuples and frozen lists hold data -/
inductive P where
  | non | bl (b : Bool) | int (i : Int) | str (s : List Nat) | tup (xs : List P) | lst (xs : List P) | ro (xs : List P)
  deriving Inhabited
mutual
def P.same : P → P → Bool
  | .non, .non => true
  | .bl a, .bl b => a == b
  | .int i, .int j => i == j
  | .str x, .str y => x == y
  | .tup xs, .tup ys => P.sames xs ys
  | .lst xs, .lst ys => P.sames xs ys
  | .ro xs, .ro ys => P.sames xs ys
  | _, _ => false
def P.sames : List P → List P → Bool
  | [], [] => true
  | x :: xs, y :: ys => P.same x y && P.sames xs ys
  | _, _ => false
end
mutual
theorem P.same_eq : ∀ {x y : P}, P.same x y = true → x = y
  | .non, y, h => by cases y <;> simp [P.same] at h <;> rfl
  | .bl a, y, h => by cases y <;> simp [P.same] at h; rw [h]
  | .int a, y, h => by cases y <;> simp [P.same] at h; rw [h]
  | .str a, y, h => by cases y <;> simp [P.same] at h; rw [h]
  | .tup a, y, h => by cases y <;> simp [P.same] at h; rw [P.sames_eq h]
  | .lst a, y, h => by cases y <;> simp [P.same] at h; rw [P.sames_eq h]
  | .ro a, y, h => by cases y <;> simp [P.same] at h; rw [P.sames_eq h]
theorem P.sames_eq : ∀ {x y : List P}, P.sames x y = true → x = y
  | [], y, h => by cases y <;> simp [P.sames] at h <;> rfl
  | a :: r, y, h => by
    cases y with
    | nil => simp [P.sames] at h
    | cons b t =>
      simp [P.sames] at h
      rw [P.same_eq h.1, P.sames_eq h.2]
end
mutual
theorem P.same_rfl : ∀ x : P, P.same x x = true
  | .non => rfl
  | .bl a => by simp [P.same]
  | .int a => by simp [P.same]
  | .str a => by simp [P.same]
  | .tup a => by simp [P.same, P.sames_rfl a]
  | .lst a => by simp [P.same, P.sames_rfl a]
  | .ro a => by simp [P.same, P.sames_rfl a]
theorem P.sames_rfl : ∀ x : List P, P.sames x x = true
  | [] => rfl
  | a :: r => by simp [P.sames, P.same_rfl a, P.sames_rfl r]
end
/-- a value: data, or the mutable object with this number -/
inductive D where
  | p (x : P) | r (i : Nat)
  deriving Inhabited
/-- a mutable object; gone: one that nobody asks any more -/
inductive O where
  | lst (xs : List P) | gone
  deriving Inhabited
/-- an exception: the number of its class, its own field if it has one -/
structure Exn where
  cls : Nat
  val : Option P

abbrev Loc := List (Option D)
abbrev Sto := List O
inductive Res (α : Type) where
  | ok (a : α) (st : Sto) | exc (x : Exn) (st : Sto) | bad
inductive RS where
  | next (ρ : Loc) (st : Sto) | ret (d : D) (st : Sto) | brk (ρ : Loc) (st : Sto) | cont (ρ : Loc) (st : Sto) | exc (x : Exn) (ρ : Loc) (st : Sto) | bad
def Res.bind {α β : Type} (r : Res α) (k : α → Sto → Res β) : Res β := match r with
  | .ok a st => k a st
  | .exc x st => .exc x st
  | .bad => .bad
@[simp] theorem Res.bind_ok {α β : Type} (a : α) (st : Sto) (k : α → Sto → Res β) : (Res.ok a st).bind k = k a st := rfl
@[simp] theorem Res.bind_exc {α β : Type} (x : Exn) (st : Sto) (k : α → Sto → Res β) : (Res.exc x st : Res α).bind k = .exc x st := rfl
@[simp] theorem Res.bind_bad {α β : Type} (k : α → Sto → Res β) : (Res.bad : Res α).bind k = .bad := rfl

abbrev line : Nat := 16777216
/-- a guard: bad if it does not hold -/
def gd {α : Type} (c : Prop) [Decidable c] (r : Option α) : Option α := if c then r else none
theorem gd_pos {α : Type} {c : Prop} [Decidable c] {r : Option α} (h : c) : gd c r = r := if_pos h
theorem gd_some {α : Type} {c : Prop} [Decidable c] {r : Option α} {x : α} (h : gd c r = some x) : c ∧ r = some x := by
  unfold gd at h
  split at h
  · exact ⟨by assumption, h⟩
  · cases h

/-! ### data -/
mutual
def P.eqv : P → P → Bool
  | .non, .non => true
  | .bl a, .bl b => a == b
  | .bl a, .int j => (if a then 1 else 0) == j
  | .int i, .bl b => i == (if b then 1 else 0)
  | .int i, .int j => i == j
  | .str x, .str y => x == y
  | .lst xs, .lst ys => P.eqvs xs ys
  | .ro xs, .ro ys => P.eqvs xs ys
  | .ro xs, .lst ys => P.eqvs xs ys
  | .lst xs, .ro ys => P.eqvs xs ys
  | .tup xs, .tup ys => P.eqvs xs ys
  | _, _ => false
def P.eqvs : List P → List P → Bool
  | [], [] => true
  | x :: xs, y :: ys => P.eqv x y && P.eqvs xs ys
  | _, _ => false
end
mutual
def P.dep : P → Nat
  | .lst xs => P.deps xs + 1
  | .tup xs => P.deps xs + 1
  | .ro xs => P.deps xs + 1
  | _ => 0
def P.deps : List P → Nat
  | [] => 0
  | x :: xs => max (P.dep x) (P.deps xs)
end
def asP (d : D) (st : Sto) : Option P := match d with
  | .p x => some x
  | .r i => match st[i]? with
    | some (.lst xs) => some (.lst xs)
    | _ => none

/-- a result is brought to its normal form: data, or one new object at n -/
def norm (n : Nat) (d : D) (st : Sto) : D × Sto := match d with
  | .p x => (.p x, st.take n)
  | .r i => if i < n then (.r i, st.take n) else match st[i]? with
    | some o => (.r n, st.take n ++ [o])
    | none => (.r i, st)
def nrm (n : Nat) (r : Res D) : Res D := match r with
  | .ok d st => .ok (norm n d st).1 (norm n d st).2
  | .exc x st => .exc x (st.take n)
  | .bad => .bad
/-- a result as data: a new list is frozen -/
def frz (n : Nat) (r : Res D) : Res P := match r with
  | .ok (.p x) st => .ok x (st.take n)
  | .ok (.r i) st => if i + 1 = st.length ∧ n ≤ i then match st[i]? with
      | some (.lst xs) => .ok (.lst xs) (st.take n)
      | _ => .bad
    else .bad
  | .exc x st => .exc x (st.take n)
  | .bad => .bad
/-- a new value -/
inductive NV where
  | p (x : P) | l (xs : List P)
def NV.put (v : NV) (st : Sto) : Res D := match v with
  | .p x => .ok (.p x) st
  | .l xs => .ok (.r st.length) (st ++ [.lst xs])
def putO (o : Option NV) (st : Sto) : Res D := match o with
  | some v => v.put st
  | none => .bad

abbrev FE := Loc → Sto → Res D
abbrev FT := Loc → Sto → Res Bool
abbrev FP := Loc → Sto → Res P
abbrev FS := Loc → Sto → RS

/-! ### expressions -/
def eLit (x : P) : FE := fun _ st => .ok (.p x) st
def eVar (i : Nat) : FE := fun ρ st => match ρ[i]? with
  | some (some d) => .ok d st
  | _ => .bad
/-- two values, then an operation on what they are now -/
def e2 (g : P → P → Option NV) (fa fb : FE) : FE := fun ρ st => nrm st.length ((fa ρ st).bind fun d1 s1 => (fb ρ s1).bind fun d2 s2 => match asP d1 s2, asP d2 s2 with
  | some x, some y => putO (g x y) s2
  | _, _ => .bad)
def e1 (g : P → Option NV) (fa : FE) : FE := fun ρ st => nrm st.length ((fa ρ st).bind fun d1 s1 => match asP d1 s1 with
  | some x => putO (g x) s1
  | none => .bad)
def fAll (fs : List FE) : Loc → Sto → Res (List D) := fun ρ st => match fs with
  | [] => .ok [] st
  | f :: r => (f ρ st).bind fun d s1 => (fAll r ρ s1).bind fun ds s2 => .ok (d :: ds) s2
def fPure (f : FE) : FP := fun ρ st => frz st.length (f ρ st)
/-- items of a display; true: a star -/
def fItems (fs : List (Bool × FE)) : Loc → Sto → Res (List P) := fun ρ st => match fs with
  | [] => .ok [] st
  | (false, f) :: r => (fPure f ρ st).bind fun x s1 => (fItems r ρ s1).bind fun xs s2 => .ok (x :: xs) s2
  | (true, f) :: r => (f ρ st).bind fun d s1 => match asP d s1 with
    | some (.lst ys) => (fItems r ρ (s1.take st.length)).bind fun xs s2 => .ok (ys ++ xs) s2
    | some (.tup ys) => (fItems r ρ (s1.take st.length)).bind fun xs s2 => .ok (ys ++ xs) s2
    | _ => .bad
def eTup (fs : List (Bool × FE)) : FE := fun ρ st => (fItems fs ρ st).bind fun xs s1 => putO (gd (xs.length ≤ line) (some (.p (.tup xs)))) s1
def eLst (fs : List (Bool × FE)) : FE := fun ρ st => (fItems fs ρ st).bind fun xs s1 => putO (gd (xs.length ≤ line) (some (.l xs))) s1
def asPs : List D → Sto → Option (List P)
  | [], _ => some []
  | d :: ds, st => match asP d st, asPs ds st with
    | some x, some xs => some (x :: xs)
    | _, _ => none
/-- a builtin's call on what its arguments are now -/
def eBi (g : List P → Option NV) (fs : List FE) : FE := fun ρ st => nrm st.length ((fAll fs ρ st).bind fun ds s1 => match asPs ds s1 with
  | some xs => putO (g xs) s1
  | none => .bad)
/-- a text's method -/
def eM0 (g : List Nat → Option NV) (f : FE) : FE := fun ρ st => nrm st.length ((f ρ st).bind fun d s1 => match d with
  | .p (.str a) => putO (g a) s1
  | _ => .bad)
def eM1 (g : List Nat → P → Option NV) (f f' : FE) : FE := fun ρ st => nrm st.length ((f ρ st).bind fun d s1 => match d with
  | .p (.str a) => (f' ρ s1).bind fun d2 s2 => match asP d2 s2 with
    | some y => putO (g a y) s2
    | none => .bad
  | _ => .bad)
def isL (d : D) (st : Sto) : Bool := match d with
  | .r i => match st[i]? with
    | some (.lst _) => true
    | _ => false
  | _ => false
/-- a method that changes its list -/
def chg (g : List P → List P → Option (List P × P)) (d : D) (xs : List P) (st : Sto) : Res D := match d with
  | .r i => match st[i]? with
    | some (.lst ys) => match g ys xs with
      | some (ys', v) => .ok (.p v) (st.set i (.lst ys'))
      | none => .bad
    | _ => .bad
  | _ => .bad
def eMut (g : List P → List P → Option (List P × P)) (f : FE) (fs : List FE) : FE := fun ρ st => nrm st.length ((f ρ st).bind fun d s1 => if isL d s1 = true then (fAll fs ρ s1).bind fun ds s2 => match asPs ds s2 with
    | some xs => chg g d xs s2
    | none => .bad
  else .bad)
/-- .. one that takes the value into the list -/
def eApp (g : List P → List P → Option (List P × P)) (f : FE) (f' : FE) : FE := fun ρ st => nrm st.length ((f ρ st).bind fun d s1 => if isL d s1 = true then (fItems [(false, f')] ρ s1).bind fun xs s2 => chg g d xs s2
  else .bad)

/-! ### operations -/
def oAdd : P → P → Option NV
  | .int i, .int j => some (.p (.int (i + j)))
  | .str a, .str b => gd (a.length + b.length ≤ line) (some (.p (.str (a ++ b))))
  | .tup a, .tup b => gd (a.length + b.length ≤ line) (some (.p (.tup (a ++ b))))
  | .lst a, .lst b => gd (a.length + b.length ≤ line) (some (.l (a ++ b)))
  | _, _ => none
def oAddI : P → P → Option NV
  | .int i, .int j => some (.p (.int (i + j)))
  | _, _ => none
def oSub : P → P → Option NV
  | .int i, .int j => some (.p (.int (i - j)))
  | _, _ => none
def oMul : P → P → Option NV
  | .int i, .int j => gd ((-(2 ^ 64) < i ∧ i < 2 ^ 64) ∨ (-(2 ^ 64) < j ∧ j < 2 ^ 64)) (some (.p (.int (i * j))))
  | _, _ => none
def oDiv : P → P → Option NV
  | .int i, .int j => gd (0 < j ∧ j < 1073741824) (some (.p (.int (i / j))))
  | _, _ => none
def oMod : P → P → Option NV
  | .int i, .int j => gd (0 < j) (some (.p (.int (i % j))))
  | _, _ => none
def oPow : P → P → Option NV
  | .int i, .int j => gd (0 ≤ j ∧ j ≤ 1000000 ∧ i.natAbs < 2 ^ 64) (some (.p (.int (i ^ j.toNat))))
  | _, _ => none
def deepOk (a b : P) : Prop := min a.dep b.dep ≤ 100
instance (a b : P) : Decidable (deepOk a b) := by unfold deepOk; infer_instance
def oEq (a b : P) : Option NV := gd (deepOk a b) (some (.p (.bl (a.eqv b))))
def oNe (a b : P) : Option NV := gd (deepOk a b) (some (.p (.bl (!a.eqv b))))
def oLt : P → P → Option NV
  | .int i, .int j => some (.p (.bl (decide (i < j))))
  | _, _ => none
def oLe : P → P → Option NV
  | .int i, .int j => some (.p (.bl (decide (i ≤ j))))
  | _, _ => none
def oGt : P → P → Option NV
  | .int i, .int j => some (.p (.bl (decide (j < i))))
  | _, _ => none
def oGe : P → P → Option NV
  | .int i, .int j => some (.p (.bl (decide (j ≤ i))))
  | _, _ => none
/-- s stands in t at its beginning -/
def preB : List Nat → List Nat → Bool
  | [], _ => true
  | _ :: _, [] => false
  | a :: r, b :: t => a == b && preB r t
def subB (s : List Nat) : List Nat → Bool
  | [] => preB s []
  | b :: t => preB s (b :: t) || subB s t
def oIn : P → P → Option NV
  | .str [c], .str t => some (.p (.bl (decide (c ∈ t))))
  | x, .tup xs => gd (x.dep ≤ 100) (some (.p (.bl (xs.any fun z => z.eqv x))))
  | x, .lst xs => gd (x.dep ≤ 100) (some (.p (.bl (xs.any fun z => z.eqv x))))
  | _, _ => none
def NV.not : NV → Option NV
  | .p (.bl b) => some (.p (.bl (!b)))
  | _ => none
def oNotIn (x y : P) : Option NV := (oIn x y).bind NV.not
def oIsN (x : P) : Option NV := match x with
  | .non => some (.p (.bl true))
  | _ => some (.p (.bl false))
def oIsNotN (x : P) : Option NV := match x with
  | .non => some (.p (.bl false))
  | _ => some (.p (.bl true))
def oIs : P → P → Option NV
  | x, .non => oIsN x
  | .bl a, .bl b => some (.p (.bl (decide (a = b))))
  | _, _ => none
def oIsNot (x y : P) : Option NV := (oIs x y).bind NV.not
def oNeg (x : P) : Option NV := match x with
  | .int i => some (.p (.int (-i)))
  | _ => none
def ixN (n : Nat) (i : Int) : Option Nat := if 0 ≤ i then (if i < n then some i.toNat else none) else if -(n : Int) ≤ i then some (i + n).toNat else none
def atI {α : Type} (xs : List α) (i : Int) : Option α := (ixN xs.length i).bind fun j => xs[j]?
def oIdx : P → P → Option NV
  | .tup xs, .int i => (atI xs i).map .p
  | .lst xs, .int i => (atI xs i).map .p
  | .ro xs, .int i => (atI xs i).map .p
  | .str s, .int i => gd (s.length ≤ line) ((atI s i).map fun c => .p (.str [c]))
  | _, _ => none
def sIx (n d : Nat) : Option Int → Nat
  | none => d
  | some v => if v < 0 then (v + n).toNat else min v.toNat n
def cut {α : Type} (xs : List α) (lo hi : Option Int) : List α := (xs.drop (sIx xs.length 0 lo)).take (sIx xs.length xs.length hi - sIx xs.length 0 lo)
def oSl (x : P) (l h : Option Int) : Option NV := match x with
  | .str s => gd (s.length ≤ line) (some (.p (.str (cut s l h))))
  | .tup xs => some (.p (.tup (cut xs l h)))
  | .lst xs => some (.l (cut xs l h))
  | _ => none
def fPart (f : Option FE) : Loc → Sto → Res (Option Int) := fun ρ st => match f with
  | none => .ok none st
  | some f => (f ρ st).bind fun d s1 => match d with
    | .p (.int i) => .ok (some i) s1
    | _ => .bad
/-- e[lo:hi] -/
def eSl (fa : FE) (fl fh : Option FE) : FE := fun ρ st => nrm st.length ((fa ρ st).bind fun d1 s1 => (fPart fl ρ s1).bind fun l s2 => (fPart fh ρ s2).bind fun h s3 => match asP d1 s3 with
  | some x => putO (oSl x l h) s3
  | none => .bad)

/-! ### builtins -/
def bLen : List P → Option NV
  | [.ro xs] => some (.p (.int xs.length))
  | [.str s] => gd (s.length ≤ line) (some (.p (.int s.length)))
  | [.tup xs] => some (.p (.int xs.length))
  | [.lst xs] => some (.p (.int xs.length))
  | _ => none
def bAbs : List P → Option NV
  | [.int i] => some (.p (.int (if i < 0 then -i else i)))
  | _ => none
def bMax2 : List P → Option NV
  | [.int i, .int j] => some (.p (.int (if j > i then j else i)))
  | _ => none
def bMin2 : List P → Option NV
  | [.int i, .int j] => some (.p (.int (if j < i then j else i)))
  | _ => none
/-- the signs of a number -/
def numL (n : Nat) : List Nat := (Nat.toDigits 10 n).map Char.toNat
def intL (i : Int) : List Nat := if i < 0 then 45 :: numL i.natAbs else numL i.natAbs
def dig (c : Nat) : Bool := decide (48 ≤ c) && decide (c ≤ 57)
def valL (l : List Nat) : Nat := l.foldl (fun a c => a * 10 + (c - 48)) 0
def bInt : List P → Option NV
  | [.int i] => some (.p (.int i))
  | [.bl b] => some (.p (.int (if b then 1 else 0)))
  | [.str s] => gd (s ≠ [] ∧ s.all dig = true ∧ s.length ≤ 640) (some (.p (.int (valL s))))
  | _ => none
def bStr : List P → Option NV
  | [.int i] => gd (i.natAbs.log2 < 1920) (some (.p (.str (intL i))))
  | _ => none
def bTuple : List P → Option NV
  | [.lst xs] => some (.p (.tup xs))
  | [.tup xs] => some (.p (.tup xs))
  | _ => none
def bList : List P → Option NV
  | [.lst xs] => some (.l xs)
  | [.tup xs] => some (.l xs)
  | _ => none
def asBl : P → Option Bool
  | .bl b => some b
  | _ => none
def asBls : List P → Option (List Bool)
  | [] => some []
  | x :: xs => match asBl x, asBls xs with
    | some b, some bs => some (b :: bs)
    | _, _ => none
def bAll : List P → Option NV
  | [.lst xs] => (asBls xs).map fun bs => .p (.bl (bs.all id))
  | _ => none
def bAny : List P → Option NV
  | [.lst xs] => (asBls xs).map fun bs => .p (.bl (bs.any id))
  | _ => none
def asI : P → Option Int
  | .int i => some i
  | _ => none
def asIs : List P → Option (List Int)
  | [] => some []
  | x :: xs => match asI x, asIs xs with
    | some b, some bs => some (b :: bs)
    | _, _ => none
def bSum : List P → Option NV
  | [.lst xs] => (asIs xs).map fun ns => .p (.int ns.sum)
  | _ => none
inductive Ty where | int | str | tuple | list | bool deriving DecidableEq
def isT : Ty → P → Bool
  | .int, .int _ => true
  | .int, .bl _ => true
  | .bool, .bl _ => true
  | .str, .str _ => true
  | .tuple, .tup _ => true
  | .list, .lst _ => true
  | .list, .ro _ => true
  | _, _ => false
def oIsT (t : Ty) (x : P) : Option NV := some (.p (.bl (isT t x)))
/-! texts -/
def asS : P → Option (List Nat)
  | .str s => some s
  | _ => none
def asSs : List P → Option (List (List Nat))
  | [] => some []
  | x :: xs => match asS x, asSs xs with
    | some b, some bs => some (b :: bs)
    | _, _ => none
def joinL (S : List Nat) : List (List Nat) → List Nat
  | [] => []
  | [p] => p
  | p :: q :: r => p ++ S ++ joinL S (q :: r)
/-- by one sign -/
def splL (c : Nat) : List Nat → List (List Nat)
  | [] => [[]]
  | d :: r => if d = c then [] :: splL c r else match splL c r with
    | [] => [[d]]
    | p :: ps => (d :: p) :: ps
def oJoin (s : List Nat) (y : P) : Option NV := match y with
  | .lst ys => (asSs ys).bind fun ps => gd ((ps.map (·.length)).sum + ps.length * s.length ≤ line) (some (.p (.str (joinL s ps))))
  | .tup ys => (asSs ys).bind fun ps => gd ((ps.map (·.length)).sum + ps.length * s.length ≤ line) (some (.p (.str (joinL s ps))))
  | _ => none
def oSplit (s : List Nat) (y : P) : Option NV := match y with
  | .str [c] => gd (s.length + 2 ≤ line) (some (.l ((splL c s).map .str)))
  | _ => none
/-- by the first c: what stands ahead, and behind -/
def parL (c : Nat) : List Nat → Option (List Nat × List Nat)
  | [] => none
  | d :: r => if d = c then some ([], r) else (parL c r).map fun q => (d :: q.1, q.2)
def oPartition (s : List Nat) (y : P) : Option NV := match y with
  | .str [c] => gd (s.length ≤ line) (some (.p (.tup (match parL c s with
    | some (a, b) => [.str a, .str [c], .str b]
    | none => [.str s, .str [], .str []]))))
  | _ => none
def upC (c : Nat) : Nat := if 97 ≤ c ∧ c ≤ 122 then c - 32 else c
def oUpper (s : List Nat) : Option NV := gd (s.length ≤ 5592405) (some (.p (.str (s.map upC))))
/-! list methods that change -/
def mAppend (ys : List P) (xs : List P) : Option (List P × P) := match xs with
  | [x] => gd (ys.length < line) (some (ys ++ [x], .non))
  | _ => none
def mExtend (ys : List P) (xs : List P) : Option (List P × P) := match xs with
  | [.lst zs] => gd (ys.length + zs.length ≤ line) (some (ys ++ zs, .non))
  | _ => none
def mPop (ys : List P) (xs : List P) : Option (List P × P) := match xs with
  | [] => (ys[ys.length - 1]?).map fun y => (ys.dropLast, y)
  | [.int i] => (ixN ys.length i).bind fun k => (ys[k]?).map fun y => (ys.eraseIdx k, y)
  | _ => none
def mReverse (ys : List P) (xs : List P) : Option (List P × P) := match xs with
  | [] => some (ys.reverse, .non)
  | _ => none

/-! ### tests -/
def tOf (f : FE) : FT := fun ρ st => (nrm st.length (f ρ st)).bind fun d s1 => match d with
  | .p (.bl b) => .ok b s1
  | _ => .bad
def tAnd (f g : FT) : FT := fun ρ st => (f ρ st).bind fun b s1 => if b = true then g ρ s1 else .ok false s1
def tOr (f g : FT) : FT := fun ρ st => (f ρ st).bind fun b s1 => if b = true then .ok true s1 else g ρ s1
def tNot (f : FT) : FT := fun ρ st => (f ρ st).bind fun b s1 => .ok (!b) s1
/-- and, or, not as values: of bools -/
def eAnd (f g : FE) : FE := fun ρ st => (f ρ st).bind fun d s1 => match d with
  | .p (.bl b) => if b = true then g ρ s1 else .ok (.p (.bl false)) s1
  | _ => .bad
def eOr (f g : FE) : FE := fun ρ st => (f ρ st).bind fun d s1 => match d with
  | .p (.bl b) => if b = true then .ok (.p (.bl true)) s1 else g ρ s1
  | _ => .bad
def eNot (f : FE) : FE := fun ρ st => (f ρ st).bind fun d s1 => match d with
  | .p (.bl b) => .ok (.p (.bl (!b))) s1
  | _ => .bad
def eIf (c : FT) (f g : FE) : FE := fun ρ st => (c ρ st).bind fun b s1 => if b = true then f ρ s1 else g ρ s1
/-- a < b < c -/
def eChain (g h : P → P → Option NV) (fa fb fc : FE) : FE := fun ρ st => nrm st.length ((fa ρ st).bind fun d1 s1 => (fb ρ s1).bind fun d2 s2 => match asP d1 s2, asP d2 s2 with
  | some x, some y => match g x y with
    | some (.p (.bl true)) => (fc ρ s2).bind fun d3 s3 => match asP d2 s3, asP d3 s3 with
      | some y', some z => putO (h y' z) s3
      | _, _ => .bad
    | some (.p (.bl false)) => .ok (.p (.bl false)) s2
    | _ => .bad
  | _, _ => .bad)

/-! ### targets, what is walked -/
/-- a target: a name, or names in a tuple -/
inductive Tg where | one (i : Nat) | tup (is : List Nat)
def sets : List Nat → List P → Loc → Option Loc
  | [], [], ρ => some ρ
  | i :: is, x :: xs, ρ => sets is xs (ρ.set i (some (.p x)))
  | _, _, _ => none
def Tg.put (t : Tg) (x : P) (ρ : Loc) : Option Loc := match t, x with
  | .one i, x => some (ρ.set i (some (.p x)))
  | .tup is, .tup xs => sets is xs ρ
  | .tup _, _ => none
/-- what is walked: its items, and the value whose items they are, which must stay as it is -/
abbrev FW := Loc → Sto → Res (List P × D)
def still (xs : List P) (d : D) (st : Sto) : Bool := match d with
  | .p _ => true
  | .r i => match st[i]? with
    | some (.lst ys) => P.sames ys xs
    | _ => false
def seqOf : P → Option (List P)
  | .lst xs => some xs
  | .tup xs => some xs
  | .ro xs => some xs
  | .str s => some (s.map fun c => .str [c])
  | _ => none
/-- a new list is walked frozen -/
def fro (n : Nat) (r : Res D) : Res D := match r with
  | .ok (.r i) st => if i + 1 = st.length ∧ n ≤ i then match st[i]? with
      | some (.lst xs) => .ok (.p (.lst xs)) (st.take n)
      | _ => .bad
    else if i < n then .ok (.r i) (st.take n) else .bad
  | .ok (.p x) st => .ok (.p x) (st.take n)
  | .exc x st => .exc x (st.take n)
  | .bad => .bad
def wSeq (f : FE) : FW := fun ρ st => (fro st.length (nrm st.length (f ρ st))).bind fun d s1 => match (asP d s1).bind seqOf with
  | some xs => .ok (xs, d) s1
  | none => .bad
def rng (lo : Int) (n : Nat) : List P := (List.range n).map fun (k : Nat) => P.int (lo + (k : Nat))
abbrev big : Int := 4611686018427387904
def bRange : List P → Option (List P)
  | [.int j] => gd (-big ≤ j ∧ j < big) (some (rng 0 j.toNat))
  | [.int i, .int j] => gd (-big ≤ i ∧ i < big ∧ -big ≤ j ∧ j < big) (some (rng i (j - i).toNat))
  | _ => none
def wRange (fs : List FE) : FW := fun ρ st => (fAll fs ρ st).bind fun ds s1 => match (asPs ds s1).bind bRange with
  | some xs => .ok (xs, .p .non) (s1.take st.length)
  | none => .bad

/-! ### comprehensions -/
def wipe (ρ : Loc) : List Nat → Loc
  | [] => ρ
  | v :: vs => (wipe ρ vs).set v none
def compL (elt : FE) (tg : Tg) (cond : FT) (ρ : Loc) (all : List P) (d : D) : List P → Sto → Res (List P)
  | [], st => if still all d st then .ok [] st else .bad
  | x :: r, st => if still all d st then match tg.put x ρ with
      | none => .bad
      | some ρ' => (cond ρ' st).bind fun b s1 => if b = true then (fPure elt ρ' s1).bind fun y s2 => (compL elt tg cond ρ all d r s2).bind fun ys s3 => .ok (y :: ys) s3
        else compL elt tg cond ρ all d r s1
    else .bad
def tTrue : FT := fun _ st => .ok true st
def eComp (elt : FE) (tg : Tg) (w : FW) (cond : FT) (own : List Nat) : FE := fun ρ st => nrm st.length ((w ρ st).bind fun q s1 => if q.1.length ≤ line then (compL elt tg cond (wipe ρ own) q.1 q.2 q.1 s1).bind fun ys s2 => putO (some (.l ys)) s2 else .bad)

/-! ### calls -/
/-- the objects among some values, each once -/
def refs : List D → List Nat
  | [] => []
  | .p _ :: r => refs r
  | .r i :: r => let l := refs r; if i ∈ l then l else i :: l
def ren (l : List Nat) : D → D
  | .p x => .p x
  | .r i => .r (l.idxOf i)
def back (l : List Nat) (new st : Sto) : Sto := match l, new with
  | i :: l, o :: new => back l new (st.set i o)
  | _, _ => st
abbrev FF := List D → Sto → Res D
/-- a call: the callee has a store of its own, with the objects of its arguments; behind it they are laid back, a new list is taken over -/
def iso (F : FF) (ds : List D) (st : Sto) : Res D :=
  let l := refs ds
  if l.all (· < st.length) then match F (ds.map (ren l)) (l.map fun i => st.getD i .gone) with
    | .ok (.p x) s => .ok (.p x) (back l s st)
    | .ok (.r j) s => if j < l.length then .ok (.r (l.getD j 0)) (back l s st) else match s[j]? with
      | some o => .ok (.r st.length) (back l s st ++ [o])
      | none => .bad
    | .exc x s => .exc x (back l s st)
    | .bad => .bad
  else .bad
def eCall (F : FF) (fs : List FE) : FE := fun ρ st => nrm st.length ((fAll fs ρ st).bind fun ds s1 => iso F ds s1)

/-! ### statements -/
def FS.seq (f g : FS) : FS := fun ρ st => match f ρ st with
  | .next ρ' st' => g ρ' st'
  | r => r
def blk : List FS → FS
  | [] => fun ρ st => .next ρ st
  | [f] => f
  | f :: r => FS.seq f (blk r)
def RS.of (ρ : Loc) {α : Type} (r : Res α) (k : α → Sto → RS) : RS := match r with
  | .ok a st => k a st
  | .exc x st => .exc x ρ st
  | .bad => .bad
@[simp] theorem RS.of_ok (ρ : Loc) {α : Type} (a : α) (st : Sto) (k : α → Sto → RS) : RS.of ρ (.ok a st) k = k a st := rfl
@[simp] theorem RS.of_exc (ρ : Loc) {α : Type} (x : Exn) (st : Sto) (k : α → Sto → RS) : RS.of ρ (.exc x st) k = .exc x ρ st := rfl
@[simp] theorem RS.of_bad (ρ : Loc) {α : Type} (k : α → Sto → RS) : RS.of ρ .bad k = .bad := rfl
def sPass : FS := fun ρ st => .next ρ st
def sBrk : FS := fun ρ st => .brk ρ st
def sCont : FS := fun ρ st => .cont ρ st
def sAsg (i : Nat) (f : FE) : FS := fun ρ st => RS.of ρ (f ρ st) fun d s1 => .next (ρ.set i (some d)) s1
/-- a, b = e: e a tuple -/
def sAsgT (is : List Nat) (f : FE) : FS := fun ρ st => RS.of ρ (frz st.length (f ρ st)) fun x s1 => match x with
  | .tup xs => match sets is xs ρ with
    | some ρ' => .next ρ' s1
    | none => .bad
  | _ => .bad
def sExpr (f : FE) : FS := fun ρ st => RS.of ρ (f ρ st) fun _ s1 => .next ρ (s1.take st.length)
def sRet (f : FE) : FS := fun ρ st => RS.of ρ (f ρ st) fun d s1 => .ret d s1
def sRetN : FS := fun _ st => .ret (.p .non) st
def sIf (c : FT) (a b : FS) : FS := fun ρ st => RS.of ρ (c ρ st) fun k s1 => if k = true then a ρ s1 else b ρ s1
def sAug (g : P → P → Option NV) (i : Nat) (f : FE) : FS := fun ρ st => match ρ[i]? with
  | some (some (.p x)) => RS.of ρ (nrm st.length (f ρ st)) fun d s1 => match asP d s1 with
    | some y => match g x y with
      | some (.p z) => .next (ρ.set i (some (.p z))) (s1.take st.length)
      | _ => .bad
    | none => .bad
  | _ => .bad
/-- xs[i] = e -/
def sSet (fo fi f : FE) : FS := fun ρ st => RS.of ρ (fPure f ρ st) fun x s1 => RS.of ρ (fo ρ s1) fun d s2 => RS.of ρ (nrm s2.length (fi ρ s2)) fun k s3 => match d, k with
  | .r i, .p (.int j) => match s3[i]? with
    | some (.lst ys) => match ixN ys.length j with
      | some m => .next ρ (s3.set i (.lst (ys.set m x)))
      | none => .bad
    | _ => .bad
  | _, _ => .bad
/-- the names vs are dead: their objects go, if they are younger than n and nobody else has them -/
def hasR (i : Nat) : Option D → Bool
  | some (.r j) => i == j
  | _ => false
def kill1 (n v : Nat) (ρ : Loc) (st : Sto) : Loc × Sto := match ρ[v]? with
  | some (some (.r i)) => (ρ.set v none, if i < n || (ρ.set v none).any (hasR i) then st else st.set i .gone)
  | _ => (ρ.set v none, st)
def killL (n : Nat) : List Nat → Loc → Sto → Loc × Sto
  | [], ρ, st => (ρ, st)
  | v :: vs, ρ, st => killL n vs (kill1 n v ρ st).1 (kill1 n v ρ st).2
def live : Sto → Nat
  | [] => 0
  | o :: r => match live r with
    | 0 => match o with
      | .gone => 0
      | _ => 1
    | k + 1 => k + 2
def bel (k : Nat) : Option D → Bool
  | some (.r i) => decide (i < k)
  | _ => true
def clean (n : Nat) (vs : List Nat) (ρ : Loc) (st : Sto) : Loc × Sto :=
  if (killL n vs ρ st).1.all (bel (n + live ((killL n vs ρ st).2.drop n))) then ((killL n vs ρ st).1, (killL n vs ρ st).2.take (n + live ((killL n vs ρ st).2.drop n))) else killL n vs ρ st
def forL (tg : Tg) (body : FS) (vs : List Nat) (n : Nat) (all : List P) (d : D) : List P → Loc → Sto → RS
  | [], ρ, st => if still all d st then .next ρ st else .bad
  | x :: r, ρ, st => if still all d st then match tg.put x ρ with
      | none => .bad
      | some ρ' => match body ρ' st with
        | .next ρ2 s2 => forL tg body vs n all d r (clean n vs ρ2 s2).1 (clean n vs ρ2 s2).2
        | .cont ρ2 s2 => forL tg body vs n all d r (clean n vs ρ2 s2).1 (clean n vs ρ2 s2).2
        | .brk ρ2 s2 => .next (clean n vs ρ2 s2).1 (clean n vs ρ2 s2).2
        | q => q
    else .bad
def sFor (tg : Tg) (w : FW) (body : FS) (vs : List Nat) : FS := fun ρ st => RS.of ρ (w ρ st) fun q s1 => forL tg body vs s1.length q.1 q.2 q.1 ρ s1
def whL (c : FT) (body : FS) (vs : List Nat) (n : Nat) : Nat → Loc → Sto → RS
  | 0, _, _ => .bad
  | k + 1, ρ, st => RS.of ρ (c ρ st) fun b s1 => if b = true then match body ρ s1 with
      | .next ρ2 s2 => whL c body vs n k (clean n vs ρ2 s2).1 (clean n vs ρ2 s2).2
      | .cont ρ2 s2 => whL c body vs n k (clean n vs ρ2 s2).1 (clean n vs ρ2 s2).2
      | .brk ρ2 s2 => .next (clean n vs ρ2 s2).1 (clean n vs ρ2 s2).2
      | q => q
    else .next ρ s1
def sWh (k : Nat) (c : FT) (body : FS) (vs : List Nat) : FS := fun ρ st => whL c body vs st.length k ρ st
/-- raise of a class without, with a field -/
def sRaise (c : Nat) : FS := fun ρ st => .exc ⟨c, none⟩ ρ st
def sRaiseF (c : Nat) (f : FE) : FS := fun ρ st => RS.of ρ (fPure f ρ st) fun x s1 => .exc ⟨c, some x⟩ ρ s1
/-- a clause's name goes behind its suite -/
def clr (i : Option Nat) (ρ : Loc) : Loc := match i with
  | some i => ρ.set i none
  | none => ρ
def inb (i : Option Nat) (ρ : Loc) : Bool := match i with
  | some i => decide (i < ρ.length)
  | none => true
/-- a suite raises nothing -/
def RS.tame (i : Option Nat) : RS → RS
  | .next ρ st => .next (clr i ρ) st
  | .brk ρ st => .brk (clr i ρ) st
  | .cont ρ st => .cont (clr i ρ) st
  | .ret d st => .ret d st
  | _ => .bad
/-- try: body except the class c (sub: c and those under it) as the name i: suite. In the suite the exception is at hand -/
def sTry (i : Option Nat) (body : FS) (sub : Nat → Bool) (suite : Exn → FS) : FS := fun ρ st => match body ρ st with
  | .exc x ρ' st' => if sub x.cls = true then (if inb i ρ' = true then (suite x (clr i ρ') st').tame i else .bad) else .exc x ρ' st'
  | r => r
/-- what a suite asks of its exception -/
def wEqI (c : Nat) (k : Int) (x : Exn) : Option Bool := if x.cls = c then match x.val with
    | some (.int j) => some (j == k)
    | _ => none
  else none
def wIs (sub : Nat → Bool) (x : Exn) : Option Bool := some (sub x.cls)
def wAnd (q r : Exn → Option Bool) (x : Exn) : Option Bool := (q x).bind fun b => if b = true then r x else some false
def wNot (q : Exn → Option Bool) (x : Exn) : Option Bool := (q x).map fun b => !b
def sRetW (q : Exn → Option Bool) (x : Exn) : FS := fun _ st => match q x with
  | some b => .ret (.p (.bl b)) st
  | none => .bad
/-- a new list as data -/
def eFrz (f : FE) : FE := fun ρ st => (frz st.length (f ρ st)).bind fun x s1 => .ok (.p x) s1
/-- a name's new list takes the place of its old one, if that stands at b or above and nobody else has it -/
def sAsgM (b i : Nat) (f : FE) : FS := fun ρ st => RS.of ρ (f ρ st) fun d s1 => match ρ[i]?, d with
  | some (some (.r j)), .r k => if (decide (b ≤ j) && decide (k + 1 = s1.length) && decide (j < k) && decide (st.length ≤ k) && !((ρ.set i none).any (hasR j))) = true then match s1[k]? with
      | some o => .next (ρ.set i (some (.r j))) ((s1.set j o).take k)
      | none => .bad
    else .next (ρ.set i (some d)) s1
  | _, _ => .next (ρ.set i (some d)) s1
/-- loops that keep what stands below b -/
def sWhB (b k : Nat) (c : FT) (body : FS) (vs : List Nat) : FS := fun ρ st => if b ≤ st.length then whL c body vs b k ρ st else .bad
/-- a def of n names, the parameters first -/
def fDef (n : Nat) (body : FS) : FF := fun ds st => match body (ds.map some ++ List.replicate (n - ds.length) none) st with
  | .next _ s => .ok (.p .non) s
  | .ret d s => .ok d s
  | .exc x _ s => .exc x s
  | _ => .bad
/-- a dict of the module with text keys: what stands at z -/
def tget (tb : List (List Nat × P)) (z : List Nat) : Option P := (tb.find? (·.1 == z)).map (·.2)
def oInK (tb : List (List Nat × P)) (x : P) : Option NV := match x with
  | .str z => some (.p (.bl (tget tb z).isSome))
  | _ => none
def oNotInK (tb : List (List Nat × P)) (x : P) : Option NV := match x with
  | .str z => some (.p (.bl (!(tget tb z).isSome)))
  | _ => none
def oGetK (tb : List (List Nat × P)) (x : P) : Option NV := match x with
  | .str z => (tget tb z).map .p
  | _ => none
/-- a tuple, a list times an int -/
def oMulX : P → P → Option NV
  | .tup xs, .int k => gd (¬ xs.isEmpty = true ∧ xs.length ≤ 1000 ∧ -1000000 ≤ k ∧ k ≤ 1000) (some (.p (.tup (List.replicate k.toNat xs).flatten)))
  | .lst xs, .int k => gd (xs.length * k.toNat ≤ line ∧ -1000000 ≤ k ∧ k ≤ 1000000) (some (.l (List.replicate k.toNat xs).flatten))
  | _, _ => none
/-- zip of a text and a sequence of data: pairs -/
def pairS (s : List Nat) (xs : List P) : List P := (s.zip xs).map fun q => .tup [.str [q.1], q.2]
def zipQ (s : List Nat) (d2 : D) (s2 : Sto) : Res (List P × D) := match d2 with
    | .p (.lst xs) => .ok (pairS s xs, .p (.lst xs)) s2
    | .p (.tup xs) => .ok (pairS s xs, .p (.tup xs)) s2
    | _ => .bad
def zipD (n : Nat) (ds : List D) (s1 : Sto) : Res (List P × D) := match ds with
  | [.p (.str s), d2] => (fro n (nrm n (.ok d2 s1))).bind (zipQ s)
  | _ => .bad
def wZipS (fs : List FE) : FW := fun ρ st => (fAll fs ρ st).bind (zipD st.length)
/-- .. that knows how many lists it was handed -/
def fDefB (n : Nat) (body : Nat → FS) : FF := fun ds st => fDef n (body st.length) ds st
end Pd
end

section -- PdRep
set_option Elab.async false
set_option linter.all false
set_option maxRecDepth 100000
set_option maxHeartbeats 4000000
/-! PdRep: how the plain semantics' data lie in the hand layer's heap; what an expression's and a statement's reading is. -/
namespace Pd
open PySem PySem.Spec PyProof.Rows L2

def okS (s : List Nat) : Bool := s.all (· < 128)
abbrev sS (s : List Nat) : Str := ⟨s.toArray⟩
/-- the class table: addresses of the exception classes, the names of their fields -/
structure Ct where
  K : PySem.W.Frag
  C : Nat → Addr
  fn : Nat → Str

def Tf (K : PySem.W.Frag) (H : Hp) (F : Addr → Prop) (a : Addr) (vs : List V) : Prop := (Rd H a (.tup vs) ∧ ¬ F a) ∨ SqT K (fun _ => none) a vs
def Lf (K : PySem.W.Frag) (H : Hp) (F : Addr → Prop) (a : Addr) (vs : List V) : Prop := (Rd H a (.lst vs) ∧ ¬ F a) ∨ SqL K (fun _ => none) a vs
mutual
inductive Fz (K : PySem.W.Frag) (H : Hp) (F : Addr → Prop) : V → P → Prop
  | non : Fz K H F .non .non
  | bl (b : Bool) : Fz K H F (.bl b) (.bl b)
  | int (i : Int) : Fz K H F (.int i) (.int i)
  | str {s : List Nat} : okS s = true → Fz K H F (.str (sS s)) (.str s)
  | tup {a : Addr} {vs : List V} {xs : List P} : Tf K H F a vs → FzL K H F vs xs → Fz K H F (.ref a) (.tup xs)
  | lst {a : Addr} {vs : List V} {xs : List P} : H a = some (.lst vs) → ¬ F a → FzL K H F vs xs → Fz K H F (.ref a) (.lst xs)
  | ro {a : Addr} {vs : List V} {xs : List P} : Lf K H F a vs → FzL K H F vs xs → Fz K H F (.ref a) (.ro xs)
inductive FzL (K : PySem.W.Frag) (H : Hp) (F : Addr → Prop) : List V → List P → Prop
  | nil : FzL K H F [] []
  | cons {v : V} {vs : List V} {x : P} {xs : List P} : Fz K H F v x → FzL K H F vs xs → FzL K H F (v :: vs) (x :: xs)
end
structure Ext (H : Hp) (μ : List Addr) (F : Addr → Prop) (H' : Hp) (μ' : List Addr) (F' : Addr → Prop) : Prop where
  keep : ∀ a o, H a = some o → a ∉ μ → H' a = some o
  fr : ∀ a, F a → F' a
  old : ∀ a, F' a → F a ∨ H a = none
  new : ∀ a ∈ μ', a ∈ μ ∨ H a = none
def RD (K : PySem.W.Frag) (H : Hp) (μ : List Addr) (F : Addr → Prop) (v : V) : D → Prop
  | .p x => Fz K H F v x
  | .r i => ∃ a, μ[i]? = some a ∧ v = .ref a
def RO (K : PySem.W.Frag) (H : Hp) (F : Addr → Prop) (a : Addr) : O → Prop
  | .lst xs => ∃ vs, H a = some (.lst vs) ∧ FzL K H F vs xs
  | .gone => True
structure RSt (K : PySem.W.Frag) (H : Hp) (μ : List Addr) (F : Addr → Prop) (st : Sto) : Prop where
  len : μ.length = st.length
  nd : μ.Nodup
  sub : ∀ a ∈ μ, F a
  live : ∀ a, F a → H a ≠ none
  obj : ∀ (i : Nat) (a : Addr) (o : O), μ[i]? = some a → st[i]? = some o → RO K H F a o
structure RL (K : PySem.W.Frag) (H : Hp) (μ : List Addr) (F : Addr → Prop) (σ : L2.St) (ρ : Loc) : Prop where
  len : ρ.length = σ.length
  val : ∀ (i : Nat) (d : D), ρ[i]? = some (some d) → ∃ v, σ[i]? = some (some v) ∧ RD K H μ F v d
def RX (T : Ct) (H : Hp) (F : Addr → Prop) (x : Exn) (cls : Value) (da : Option Addr) : Prop :=
  cls = .ref (T.C x.cls) ∧ match x.val with
    | none => da = none
    | some p => ∃ a v, da = some a ∧ H a = some (.xd [(T.fn x.cls, v)]) ∧ Fz T.K H F v p

section
variable {K : PySem.W.Frag} {H H' H1 : Hp} {μ μ' μ1 : List Addr} {F F' F1 : Addr → Prop} {st : Sto} {σ : L2.St} {ρ : Loc} {v : V} {d : D} {x : P}
theorem rd_some {H : Hp} {a : Addr} {u : HO} (h : Rd H a u) : ∃ o, H a = some o := by
  rcases h with h | ⟨o, h⟩ <;> exact ⟨_, h⟩
theorem rd_keep {a : Addr} {u : HO} (h : Rd H a u) (e : ∀ o, H a = some o → H' a = some o) : Rd H' a u := by
  rcases h with h | ⟨o, h⟩
  · exact .inl (e _ h)
  · exact .inr ⟨o, e _ h⟩
theorem Tf.sq {a : Addr} {vs : List V} (h : Tf K H F a vs) : SqT K H a vs := by
  rcases h with ⟨h, _⟩ | h
  · exact .inl h
  · rcases h with h | h
    · obtain ⟨o, h⟩ := rd_some h; cases h
    · exact .inr h
theorem Lf.sq {a : Addr} {vs : List V} (h : Lf K H F a vs) : SqL K H a vs := by
  rcases h with ⟨h, _⟩ | h
  · exact .inl h
  · rcases h with h | h
    · obtain ⟨o, h⟩ := rd_some h; cases h
    · exact .inr h
/-- what stands and may not change stays -/
theorem Ext.stay (e : Ext H μ F H' μ' F') (sub : ∀ a ∈ μ, F a) {a : Addr} {o : HO} (h : H a = some o) (n : ¬ F a) : H' a = some o ∧ ¬ F' a :=
  ⟨e.keep a o h fun m => n (sub a m), fun f => (e.old a f).elim n fun z => by rw [h] at z; cases z⟩
/-- what stands and may not change stays as it is -/
def Keeps (H : Hp) (F : Addr → Prop) (H' : Hp) (F' : Addr → Prop) : Prop := ∀ a o, H a = some o → ¬ F a → H' a = some o ∧ ¬ F' a
mutual
theorem Fz.map (c : Keeps H F H' F') : ∀ {v : V} {x : P}, Fz K H F v x → Fz K H' F' v x
  | _, _, .non => .non
  | _, _, .bl b => .bl b
  | _, _, .int i => .int i
  | _, _, .str h => .str h
  | _, _, .tup (a := a) h t => .tup (by
      rcases h with ⟨h, n⟩ | h
      · obtain ⟨o, ho⟩ := rd_some h
        exact .inl ⟨rd_keep h fun o q => (c a o q n).1, (c a o ho n).2⟩
      · exact .inr h) (FzL.map c t)
  | _, _, .lst h n t => .lst (c _ _ h n).1 (c _ _ h n).2 (FzL.map c t)
  | _, _, .ro (a := a) h t => .ro (by
      rcases h with ⟨h, n⟩ | h
      · obtain ⟨o, ho⟩ := rd_some h
        exact .inl ⟨rd_keep h fun o q => (c a o q n).1, (c a o ho n).2⟩
      · exact .inr h) (FzL.map c t)
theorem FzL.map (c : Keeps H F H' F') : ∀ {vs : List V} {xs : List P}, FzL K H F vs xs → FzL K H' F' vs xs
  | _, _, .nil => .nil
  | _, _, .cons h t => .cons (Fz.map c h) (FzL.map c t)
end
theorem Ext.keeps (e : Ext H μ F H' μ' F') (sub : ∀ a ∈ μ, F a) : Keeps H F H' F' := fun _ _ h n => e.stay sub h n
theorem Fz.mono (e : Ext H μ F H' μ' F') (sub : ∀ a ∈ μ, F a) {v : V} {x : P} (h : Fz K H F v x) : Fz K H' F' v x := h.map (e.keeps sub)
theorem FzL.mono (e : Ext H μ F H' μ' F') (sub : ∀ a ∈ μ, F a) {v : List V} {x : List P} (h : FzL K H F v x) : FzL K H' F' v x := h.map (e.keeps sub)
mutual
theorem Fz.less (f : ∀ a, F' a → F a) : ∀ {v : V} {x : P}, Fz K H F v x → Fz K H F' v x
  | _, _, .non => .non
  | _, _, .bl b => .bl b
  | _, _, .int i => .int i
  | _, _, .str h => .str h
  | _, _, .tup h t => .tup (h.imp (fun h => ⟨h.1, fun z => h.2 (f _ z)⟩) id) (FzL.less f t)
  | _, _, .lst h n t => .lst h (fun z => n (f _ z)) (FzL.less f t)
  | _, _, .ro h t => .ro (h.imp (fun h => ⟨h.1, fun z => h.2 (f _ z)⟩) id) (FzL.less f t)
theorem FzL.less (f : ∀ a, F' a → F a) : ∀ {vs : List V} {xs : List P}, FzL K H F vs xs → FzL K H F' vs xs
  | _, _, .nil => .nil
  | _, _, .cons h t => .cons (Fz.less f h) (FzL.less f t)
end
theorem FzL.length : ∀ {vs : List V} {xs : List P}, FzL K H F vs xs → vs.length = xs.length
  | _, _, .nil => rfl
  | _, _, .cons _ t => by simp [FzL.length t]
theorem FzL.get : ∀ {vs : List V} {xs : List P}, FzL K H F vs xs → ∀ {i : Nat} {x : P}, xs[i]? = some x → ∃ v, vs[i]? = some v ∧ Fz K H F v x
  | _, _, .nil, _, _, h => by simp at h
  | _, _, .cons h t, 0, x, e => by simp at e; subst e; exact ⟨_, rfl, h⟩
  | _, _, .cons h t, i + 1, x, e => by
    obtain ⟨v, h1, h2⟩ := FzL.get t (i := i) (x := x) (by simpa using e)
    exact ⟨v, by simpa using h1, h2⟩
theorem FzL.getV : ∀ {vs : List V} {xs : List P}, FzL K H F vs xs → ∀ {i : Nat} {v : V}, vs[i]? = some v → ∃ x, xs[i]? = some x ∧ Fz K H F v x
  | _, _, .nil, _, _, h => by simp at h
  | _, _, .cons h t, 0, x, e => by simp at e; subst e; exact ⟨_, rfl, h⟩
  | _, _, .cons h t, i + 1, x, e => by
    obtain ⟨v, h1, h2⟩ := FzL.getV t (i := i) (v := x) (by simpa using e)
    exact ⟨v, by simpa using h1, h2⟩
theorem FzL.append : ∀ {vs ws : List V} {xs ys : List P}, FzL K H F vs xs → FzL K H F ws ys → FzL K H F (vs ++ ws) (xs ++ ys)
  | _, _, _, _, .nil, s => s
  | _, _, _, _, .cons h t, s => .cons h (FzL.append t s)
theorem FzL.take : ∀ {vs : List V} {xs : List P} (n : Nat), FzL K H F vs xs → FzL K H F (vs.take n) (xs.take n)
  | _, _, 0, _ => by simp; exact .nil
  | _, _, _ + 1, .nil => by simp; exact .nil
  | _, _, n + 1, .cons h t => by simp only [List.take_succ_cons]; exact .cons h (FzL.take n t)
theorem FzL.drop : ∀ {vs : List V} {xs : List P} (n : Nat), FzL K H F vs xs → FzL K H F (vs.drop n) (xs.drop n)
  | _, _, 0, h => h
  | _, _, _ + 1, .nil => by simp; exact .nil
  | _, _, n + 1, .cons h t => by simp only [List.drop_succ_cons]; exact FzL.drop n t
theorem FzL.set {v : V} {x : P} (r : Fz K H F v x) : ∀ {vs : List V} {xs : List P} (n : Nat), FzL K H F vs xs → FzL K H F (vs.set n v) (xs.set n x)
  | _, _, _, .nil => .nil
  | _, _, 0, .cons h t => .cons r t
  | _, _, n + 1, .cons h t => .cons h (FzL.set r n t)
theorem FzL.reverse {vs : List V} {xs : List P} (h : FzL K H F vs xs) : FzL K H F vs.reverse xs.reverse := by
  induction vs generalizing xs with
  | nil => cases h; exact .nil
  | cons v vs ih => cases h with | cons a t => rw [List.reverse_cons, List.reverse_cons]; exact (ih t).append (.cons a .nil)
theorem FzL.eraseIdx : ∀ {vs : List V} {xs : List P} (n : Nat), FzL K H F vs xs → FzL K H F (vs.eraseIdx n) (xs.eraseIdx n)
  | _, _, _, .nil => .nil
  | _, _, 0, .cons h t => t
  | _, _, n + 1, .cons h t => .cons h (FzL.eraseIdx n t)
theorem FzL.dropLast {vs : List V} {xs : List P} (h : FzL K H F vs xs) : FzL K H F vs.dropLast xs.dropLast := by
  rw [List.dropLast_eq_take, List.dropLast_eq_take, h.length]
  exact h.take _

theorem Ext.refl (H : Hp) (μ : List Addr) (F : Addr → Prop) : Ext H μ F H μ F := ⟨fun _ _ h _ => h, fun _ h => h, fun _ h => .inl h, fun _ h => .inl h⟩
theorem Ext.trans (sub : ∀ a ∈ μ, F a) (a : Ext H μ F H1 μ1 F1) (b : Ext H1 μ1 F1 H' μ' F') : Ext H μ F H' μ' F' := by
  have back : ∀ c, H1 c = none → F c ∨ H c = none := fun c h => by
    cases q : H c with
    | none => exact .inr rfl
    | some o =>
      by_cases m : c ∈ μ
      · exact .inl (sub c m)
      · rw [a.keep c o q m] at h; cases h
  refine ⟨fun c o h n => b.keep c o (a.keep c o h n) fun m => ?_, fun c h => b.fr c (a.fr c h), fun c h => ?_, fun c h => ?_⟩
  · rcases a.new c m with z | z
    · exact n z
    · rw [h] at z; cases z
  · rcases b.old c h with z | z
    · exact a.old c z
    · exact back c z
  · by_cases m : c ∈ μ
    · exact .inl m
    · refine .inr ?_
      rcases b.new c h with z | z
      · exact (a.new c z).resolve_left m
      · cases q : H c with
        | none => rfl
        | some o => rw [a.keep c o q m] at z; cases z
theorem RD.mono (e : Ext H μ F H' μ' F') (sub : ∀ a ∈ μ, F a) (pre : μ <+: μ') {v : V} : ∀ {d : D}, RD K H μ F v d → RD K H' μ' F' v d
  | .p x, h => Fz.mono e sub h
  | .r i, ⟨a, h, r⟩ => by
    obtain ⟨t, rfl⟩ := pre
    exact ⟨a, by rw [List.getElem?_append_left (List.getElem?_eq_some_iff.mp h).1]; exact h, r⟩
theorem RL.mono (e : Ext H μ F H' μ' F') (sub : ∀ a ∈ μ, F a) (pre : μ <+: μ') (r : RL K H μ F σ ρ) : RL K H' μ' F' σ ρ :=
  ⟨r.len, fun i d h => let ⟨v, h1, h2⟩ := r.val i d h; ⟨v, h1, h2.mono e sub pre⟩⟩
/-- lists of values -/
inductive RDs (K : PySem.W.Frag) (H : Hp) (μ : List Addr) (F : Addr → Prop) : List V → List D → Prop
  | nil : RDs K H μ F [] []
  | cons {v : V} {vs : List V} {d : D} {ds : List D} : RD K H μ F v d → RDs K H μ F vs ds → RDs K H μ F (v :: vs) (d :: ds)
theorem RDs.mono (e : Ext H μ F H' μ' F') (sub : ∀ a ∈ μ, F a) (pre : μ <+: μ') : ∀ {vs : List V} {ds : List D}, RDs K H μ F vs ds → RDs K H' μ' F' vs ds
  | _, _, .nil => .nil
  | _, _, .cons h t => .cons (h.mono e sub pre) (t.mono e sub pre)
theorem RDs.length : ∀ {vs : List V} {ds : List D}, RDs K H μ F vs ds → vs.length = ds.length
  | _, _, .nil => rfl
  | _, _, .cons _ t => by simp [t.length]

/-- what it is now -/
def Nw (K : PySem.W.Frag) (H : Hp) (F : Addr → Prop) (v : V) (x : P) : Prop := Fz K H F v x ∨ ∃ a vs xs, v = .ref a ∧ x = .lst xs ∧ H a = some (.lst vs) ∧ FzL K H F vs xs
theorem now_of (s : RSt K H μ F st) {v : V} {x : P} : ∀ {d : D}, RD K H μ F v d → asP d st = some x → Nw K H F v x
  | .p y, r, e => by
    have e : y = x := Option.some.inj e
    subst e; exact .inl r
  | .r i, ⟨a, h, r⟩, e => by
    unfold asP at e
    cases q : st[i]? with
    | none => simp [q] at e
    | some o =>
      cases o with
      | gone => simp [q] at e
      | lst xs =>
        simp [q] at e
        obtain ⟨vs, h1, h2⟩ := s.obj i a _ h q
        exact .inr ⟨a, vs, xs, r, e.symm, h1, h2⟩

/-! ### a result's reading -/
variable {α β γ : Type}
/-- how a result lies -/
abbrev Rel (α β : Type) := Hp → List Addr → (Addr → Prop) → β → α → Prop
def Post (T : Ct) (W : WX) (R : Rel α β) (σ : L2.St) (H : Hp) (μ : List Addr) (F : Addr → Prop) (Q : β → Hp → Prop) : Res α → Prop
  | .ok a st' => ∀ b H' μ' F', R H' μ' F' b a → RSt T.K H' μ' F' st' → Ext H μ F H' μ' F' → μ <+: μ' → Q b H'
  | .exc x st' => ∀ cls da H' μ' F', RX T H' F' x cls da → RSt T.K H' μ' F' st' → Ext H μ F H' μ' F' → μ <+: μ' → W cls da σ H'
  | .bad => False
abbrev rD (K : PySem.W.Frag) : Rel D V := fun H μ F v d => RD K H μ F v d
abbrev rDs (K : PySem.W.Frag) : Rel (List D) (List V) := fun H μ F v d => RDs K H μ F v d
abbrev rP (K : PySem.W.Frag) : Rel P V := fun H _ F v x => Fz K H F v x
abbrev rPs (K : PySem.W.Frag) : Rel (List P) (List V) := fun H _ F v x => FzL K H F v x
abbrev rB : Rel Bool Bool := fun _ _ _ b a => b = a
/-- the reading of a piece of an expression -/
def tX (T : Ct) (W : WX) (R : Rel α β) (f : Loc → Sto → Res α) : L2.St → Hp → (β → Hp → Prop) → Prop := fun σ H Q => ∃ ρ st μ F, RL T.K H μ F σ ρ ∧ RSt T.K H μ F st ∧ Post T W R σ H μ F Q (f ρ st)
variable {T : Ct} {W : WX} {R : Rel α β} {R' : Rel γ β}
theorem Post.ext {Q : β → Hp → Prop} (sub : ∀ a ∈ μ, F a) (e : Ext H μ F H1 μ1 F1) (pre : μ <+: μ1) : ∀ {r : Res α}, Post T W R σ H μ F Q r → Post T W R σ H1 μ1 F1 Q r
  | .ok a st', h => fun b H' μ' F' h1 h2 h3 h4 => h b H' μ' F' h1 h2 (e.trans sub h3) (pre.trans h4)
  | .exc x st', h => fun b d H' μ' F' h1 h2 h3 h4 => h b d H' μ' F' h1 h2 (e.trans sub h3) (pre.trans h4)
  | .bad, h => h
theorem Post.mono {Q Q' : β → Hp → Prop} (q : ∀ b H, Q b H → Q' b H) : ∀ {r : Res α}, Post T W R σ H μ F Q r → Post T W R σ H μ F Q' r
  | .ok a st', h => fun b H' μ' F' h1 h2 h3 h4 => q _ _ (h b H' μ' F' h1 h2 h3 h4)
  | .exc x st', h => h
  | .bad, h => h
/-- the next piece, behind a first one -/
theorem Post.bind {ι κ : Type} {R1 : Rel ι κ} {f : Res ι} {k : ι → Sto → Res α} {Q : β → Hp → Prop} {Q1 : κ → Hp → Prop} (sub : ∀ a ∈ μ, F a) (h : Post T W R σ H μ F Q (f.bind k))
    (n : ∀ b1 H1 μ1 F1 a1 s1, f = .ok a1 s1 → R1 H1 μ1 F1 b1 a1 → RSt T.K H1 μ1 F1 s1 → Ext H μ F H1 μ1 F1 → μ <+: μ1 → Post T W R σ H1 μ1 F1 Q (k a1 s1) → Q1 b1 H1) : Post T W R1 σ H μ F Q1 f := by
  cases f with
  | ok a1 s1 => exact fun b H' μ' F' h1 h2 h3 h4 => n b H' μ' F' a1 s1 rfl h1 h2 h3 h4 (h.ext sub h3 h4)
  | exc x s1 => exact h
  | bad => exact h
/-- .. from an older state H₀ on, that of the whole -/
theorem Post.bind0 {ι κ : Type} {R1 : Rel ι κ} {f : Res ι} {k : ι → Sto → Res α} {Q : β → Hp → Prop} {Q1 : κ → Hp → Prop} {H₀ : Hp} {μ₀ : List Addr} {F₀ : Addr → Prop} {W' : WX} {σ' : L2.St} (sub : ∀ a ∈ μ₀, F₀ a) (e : Ext H₀ μ₀ F₀ H μ F) (pre : μ₀ <+: μ) (hw : ∀ c d H, W c d σ H → W' c d σ' H)
    (h : Post T W R σ H₀ μ₀ F₀ Q (f.bind k))
    (n : ∀ b1 H1 μ1 F1 a1 s1, f = .ok a1 s1 → R1 H1 μ1 F1 b1 a1 → RSt T.K H1 μ1 F1 s1 → Ext H μ F H1 μ1 F1 → μ <+: μ1 → Post T W R σ H₀ μ₀ F₀ Q (k a1 s1) → Q1 b1 H1) : Post T W' R1 σ' H μ F Q1 f := by
  cases f with
  | ok a1 s1 => exact fun b H' μ' F' h1 h2 h3 h4 => n b H' μ' F' a1 s1 rfl h1 h2 h3 h4 h
  | exc x s1 => exact fun c d H' μ' F' h1 h2 h3 h4 => hw _ _ _ (h c d H' μ' F' h1 h2 (e.trans sub h3) (pre.trans h4))
  | bad => exact h
theorem pre_len {μ μ' : List Addr} (p : μ <+: μ') : μ'.take μ.length = μ := by
  obtain ⟨t, rfl⟩ := p
  simp
theorem RSt.take (s : RSt K H μ F st) (n : Nat) : RSt K H (μ.take n) F (st.take n) := by
  refine ⟨by simp [s.len], s.nd.sublist (List.take_sublist _ _), fun a h => s.sub a (List.mem_of_mem_take h), s.live, fun i a o h1 h2 => ?_⟩
  rw [List.getElem?_take] at h1 h2
  split at h1
  · rw [if_pos (by assumption)] at h2
    exact s.obj i a o h1 h2
  · cases h1
theorem RSt.less (s : RSt K H μ F st) (f : ∀ a, F' a → F a) (g : ∀ a ∈ μ, F' a) : RSt K H μ F' st := by
  refine ⟨s.len, s.nd, g, fun a h => s.live a (f a h), fun i a o h1 h2 => ?_⟩
  have := s.obj i a o h1 h2
  cases o with
  | lst xs => obtain ⟨vs, q1, q2⟩ := this; exact ⟨vs, q1, FzL.less f q2⟩
  | gone => trivial
theorem RSt.new (s : RSt K H μ F st) {a : Addr} {o : O} (n : a ∉ μ) (f : F a) (r : RO K H F a o) : RSt K H (μ ++ [a]) F (st ++ [o]) := by
  refine ⟨by simp [s.len], ?_, fun b h => ?_, s.live, fun i b u h1 h2 => ?_⟩
  · rw [List.nodup_append]
    exact ⟨s.nd, by simp, fun x hx y hy e => by
      have hy : y = a := by simpa using hy
      subst e hy
      exact n hx⟩
  · rcases List.mem_append.mp h with h | h
    · exact s.sub b h
    · have : b = a := by simpa using h
      subst this; exact f
  · by_cases hi : i < μ.length
    · rw [List.getElem?_append_left hi] at h1
      rw [List.getElem?_append_left (by rw [← s.len]; exact hi)] at h2
      exact s.obj i b u h1 h2
    · rw [List.getElem?_append_right (by omega)] at h1
      rw [List.getElem?_append_right (by rw [← s.len]; omega)] at h2
      have e1 : i - μ.length = 0 := by
        have := (List.getElem?_eq_some_iff.mp h1).1
        simp at this; omega
      rw [e1] at h1
      rw [← s.len, e1] at h2
      simp at h1 h2
      subst h1 h2
      exact r
theorem nrm_post {Q : V → Hp → Prop} {r : Res D} (s0 : RSt T.K H μ F st) (h : Post T W (rD T.K) σ H μ F Q (nrm st.length r)) : Post T W (rD T.K) σ H μ F Q r := by
  cases r with
  | bad => exact h
  | exc x s' =>
    intro cls da H' μ' F' h1 h2 h3 h4
    have h : ∀ cls da H' μ' F', RX T H' F' x cls da → RSt T.K H' μ' F' (s'.take st.length) → Ext H μ F H' μ' F' → μ <+: μ' → W cls da σ H' := h
    have t := h2.take st.length
    rw [← s0.len, pre_len h4, s0.len] at t
    exact h cls da H' μ F' h1 t ⟨h3.keep, h3.fr, h3.old, fun a m => .inl m⟩ (List.prefix_refl _)
  | ok d s' =>
    intro v H' μ' F' h1 h2 h3 h4
    have t := h2.take st.length
    rw [← s0.len, pre_len h4, s0.len] at t
    have e0 : Ext H μ F H' μ F' := ⟨h3.keep, h3.fr, h3.old, fun a m => .inl m⟩
    cases d with
    | p x => exact (h : ∀ b H' μ' F', rD T.K H' μ' F' b (.p x) → RSt T.K H' μ' F' (s'.take st.length) → Ext H μ F H' μ' F' → μ <+: μ' → Q b H') v H' μ F' h1 t e0 (List.prefix_refl _)
    | r i =>
      obtain ⟨a, ha, rfl⟩ := h1
      unfold nrm norm at h
      by_cases hi : i < st.length
      · simp only [if_pos hi] at h
        refine h _ H' μ F' ⟨a, ?_, rfl⟩ t e0 (List.prefix_refl _)
        obtain ⟨w, rfl⟩ := h4
        rw [List.getElem?_append_left (by rw [s0.len]; exact hi)] at ha
        exact ha
      · simp only [if_neg hi] at h
        have hl := (List.getElem?_eq_some_iff.mp ha).1
        rw [h2.len] at hl
        rw [List.getElem?_eq_getElem hl] at h
        simp only at h
        have na : a ∉ μ := fun m => by
          obtain ⟨j, hj, e⟩ := List.mem_iff_getElem.mp m
          obtain ⟨w, rfl⟩ := h4
          have e2 : (μ ++ w)[j]? = some a := by rw [List.getElem?_append_left hj, List.getElem?_eq_getElem hj, e]
          have := nd_ix h2.nd ha e2
          rw [s0.len] at hj
          omega
        have hd : μ[μ.length]? = none := List.getElem?_eq_none (Nat.le_refl _)
        refine h _ H' (μ ++ [a]) F' ⟨a, ?_, rfl⟩ (t.new na (h2.sub a (List.mem_of_getElem? ha)) (h2.obj i a _ ha (List.getElem?_eq_getElem hl))) ⟨h3.keep, h3.fr, h3.old, fun b m => ?_⟩ (List.prefix_append _ _)
        · rw [← s0.len]; simp
        · rcases List.mem_append.mp m with m | m
          · exact .inl m
          · have : b = a := by simpa using m
            subst this
            exact h3.new b (List.mem_of_getElem? ha)
theorem frz_post {Q : V → Hp → Prop} {r : Res D} (s0 : RSt T.K H μ F st) (h : Post T W (rP T.K) σ H μ F Q (frz st.length r)) : Post T W (rD T.K) σ H μ F Q r := by
  cases r with
  | bad => exact h
  | exc x s' =>
    intro cls da H' μ' F' h1 h2 h3 h4
    have h : ∀ cls da H' μ' F', RX T H' F' x cls da → RSt T.K H' μ' F' (s'.take st.length) → Ext H μ F H' μ' F' → μ <+: μ' → W cls da σ H' := h
    have t := h2.take st.length
    rw [← s0.len, pre_len h4, s0.len] at t
    exact h cls da H' μ F' h1 t ⟨h3.keep, h3.fr, h3.old, fun a m => .inl m⟩ (List.prefix_refl _)
  | ok d s' =>
    intro v H' μ' F' h1 h2 h3 h4
    have t := h2.take st.length
    rw [← s0.len, pre_len h4, s0.len] at t
    cases d with
    | p x =>
      have h : ∀ b H' μ' F', rP T.K H' μ' F' b x → RSt T.K H' μ' F' (s'.take st.length) → Ext H μ F H' μ' F' → μ <+: μ' → Q b H' := h
      exact h v H' μ F' h1 t ⟨h3.keep, h3.fr, h3.old, fun a m => .inl m⟩ (List.prefix_refl _)
    | r i =>
      obtain ⟨a, ha, rfl⟩ := h1
      unfold frz at h
      by_cases hi : i + 1 = s'.length ∧ st.length ≤ i
      · simp only [if_pos hi] at h
        have hl : i < s'.length := by omega
        rw [List.getElem?_eq_getElem hl] at h
        have ro := h2.obj i a _ ha (List.getElem?_eq_getElem hl)
        cases q : s'[i] with
        | gone => rw [q] at h; exact h.elim
        | lst xs =>
          rw [q] at h ro
          simp only at h
          obtain ⟨vs, r1, r2⟩ := ro
          have na : a ∉ μ := fun m => by
            obtain ⟨j, hj, e⟩ := List.mem_iff_getElem.mp m
            obtain ⟨w, rfl⟩ := h4
            have e2 : (μ ++ w)[j]? = some a := by rw [List.getElem?_append_left hj, List.getElem?_eq_getElem hj, e]
            have := nd_ix h2.nd ha e2
            rw [s0.len] at hj
            omega
          have ha0 : H a = none := (h3.new a (List.mem_of_getElem? ha)).resolve_left na
          refine h _ H' μ (fun b => F' b ∧ b ≠ a) (.lst r1 (fun z => z.2 rfl) (FzL.less (fun b z => z.1) r2)) (t.less (fun b z => z.1) fun b m => ⟨t.sub b m, fun z => na (z ▸ m)⟩) ⟨h3.keep, fun b f => ⟨h3.fr b f, fun z => ?_⟩, fun b z => h3.old b z.1, fun b m => .inl m⟩ (List.prefix_refl _)
          subst z
          exact s0.live b f ha0
      · simp only [if_neg hi] at h
        exact h.elim
theorem fro_post {Q : V → Hp → Prop} {r : Res D} (s0 : RSt T.K H μ F st) (h : Post T W (rD T.K) σ H μ F Q (fro st.length r)) : Post T W (rD T.K) σ H μ F Q r := by
  cases r with
  | bad => exact h
  | exc x s' =>
    intro cls da H' μ' F' h1 h2 h3 h4
    have h : ∀ cls da H' μ' F', RX T H' F' x cls da → RSt T.K H' μ' F' (s'.take st.length) → Ext H μ F H' μ' F' → μ <+: μ' → W cls da σ H' := h
    have t := h2.take st.length
    rw [← s0.len, pre_len h4, s0.len] at t
    exact h cls da H' μ F' h1 t ⟨h3.keep, h3.fr, h3.old, fun a m => .inl m⟩ (List.prefix_refl _)
  | ok d s' =>
    by_cases hi : ∃ i, d = .r i ∧ i + 1 = s'.length ∧ st.length ≤ i
    · obtain ⟨i, rfl, hi⟩ := hi
      have h5 : Post T W (rP T.K) σ H μ F Q (frz st.length (.ok (.r i) s')) := by
        unfold fro at h
        unfold frz
        simp only [if_pos hi] at h ⊢
        cases e : s'[i]? with
        | none => rw [e] at h; exact h
        | some o =>
          rw [e] at h
          cases o with
          | gone => exact h
          | lst xs => exact h
      exact frz_post s0 h5
    · intro v H' μ' F' h1 h2 h3 h4
      have t := h2.take st.length
      rw [← s0.len, pre_len h4, s0.len] at t
      have e0 : Ext H μ F H' μ F' := ⟨h3.keep, h3.fr, h3.old, fun a m => .inl m⟩
      cases d with
      | p x => exact (h : ∀ b H' μ' F', rD T.K H' μ' F' b (.p x) → RSt T.K H' μ' F' (s'.take st.length) → Ext H μ F H' μ' F' → μ <+: μ' → Q b H') v H' μ F' h1 t e0 (List.prefix_refl _)
      | r i =>
        have hn : ¬ (i + 1 = s'.length ∧ st.length ≤ i) := fun z => hi ⟨i, rfl, z⟩
        unfold fro at h
        simp only [if_neg hn] at h
        obtain ⟨a, ha, rfl⟩ := h1
        by_cases hl : i < st.length
        · rw [if_pos hl] at h
          refine h _ H' μ F' ⟨a, ?_, rfl⟩ t e0 (List.prefix_refl _)
          obtain ⟨w, rfl⟩ := h4
          rw [List.getElem?_append_left (by rw [s0.len]; exact hl)] at ha
          exact ha
        · rw [if_neg hl] at h
          exact h.elim
end
end Pd
end

section -- PdRules
set_option Elab.async false
set_option linter.all false
set_option maxRecDepth 100000
set_option maxHeartbeats 4000000
/-! PdRules: expressions keep the plain semantics. -/
namespace Pd
open PySem PySem.Spec PyProof.Rows L2
theorem PE.imp {X : Cx} {e : Expr} {t t' : TE} (h : PE X e t) (i : ∀ σ H Q, t' σ H Q → t σ H Q) : PE X e t' := ⟨fun pins s σ H Q I q => h.run pins s σ H Q I (i _ _ _ q)⟩
theorem PT.imp {X : Cx} {e : Expr} {t t' : TT} (h : PT X e t) (i : ∀ σ H Q, t' σ H Q → t σ H Q) : PT X e t' := ⟨fun pins s σ H Q I q => h.run pins s σ H Q I (i _ _ _ q)⟩
theorem PA.imp {X : Cx} {e : List Expr} {t t' : TA} (h : PA X e t) (i : ∀ σ H Q, t' σ H Q → t σ H Q) : PA X e t' := ⟨fun pos pins s σ H Q I q => h.run pos pins s σ H Q I (i _ _ _ q)⟩
theorem PS.imp {X : Cx} {e : Stmt} {t t' : TS} (h : PS X e t) (i : ∀ D σ H, t' D σ H → t D σ H) : PS X e t' := ⟨fun pins s σ H Q I q => h.run pins s σ H Q I (i _ _ _ q)⟩
theorem PSs.imp {X : Cx} {e : List Stmt} {t t' : TS} (h : PSs X e t) (i : ∀ D σ H, t' D σ H → t D σ H) : PSs X e t' := ⟨fun pins s σ H Q I q => h.run pins s σ H Q I (i _ _ _ q)⟩

section
variable {T : Ct} {W : WX} {σ : L2.St} {H : Hp} {μ : List Addr} {F : Addr → Prop} {st : Sto} {v : V} {Q : VK}
/-! ### a new value is laid -/
theorem RSt.alloc {K : PySem.W.Frag} (s : RSt K H μ F st) {p : Addr} (hp : H p = none) (o : HO) : RSt K (upd H p o) μ F st ∧ Ext H μ F (upd H p o) μ F := by
  have np : ∀ a, F a → a ≠ p := fun a f z => s.live a f (z ▸ hp)
  have e : Ext H μ F (upd H p o) μ F := ⟨fun a u h _ => by rw [upd_ne (ne_of_none h hp)]; exact h, fun _ h => h, fun _ h => .inl h, fun _ h => .inl h⟩
  refine ⟨⟨s.len, s.nd, s.sub, fun a f => by rw [upd_ne (np a f)]; exact s.live a f, fun i a u h1 h2 => ?_⟩, e⟩
  have q := s.obj i a u h1 h2
  cases u with
  | gone => trivial
  | lst xs =>
    obtain ⟨vs, q1, q2⟩ := q
    exact ⟨vs, by rw [upd_ne (ne_of_none q1 hp)]; exact q1, q2.mono e s.sub⟩
theorem RSt.more {K : PySem.W.Frag} (s : RSt K H μ F st) {p : Addr} (hp : H p = none) (o : HO) : RSt K (upd H p o) μ (fun a => F a ∨ a = p) st ∧ Ext H μ F (upd H p o) μ (fun a => F a ∨ a = p) := by
  obtain ⟨t, e⟩ := s.alloc hp o
  have e' : Ext H μ F (upd H p o) μ (fun a => F a ∨ a = p) := ⟨e.keep, fun a h => .inl h, fun a h => by
    rcases h with h | h
    · exact .inl h
    · exact .inr (by rw [h]; exact hp), e.new⟩
  refine ⟨⟨s.len, s.nd, fun a h => .inl (s.sub a h), fun a f => ?_, fun i a u h1 h2 => ?_⟩, e'⟩
  · rcases f with f | f
    · exact t.live a f
    · rw [f, upd_same]; simp
  · have q := s.obj i a u h1 h2
    cases u with
    | gone => trivial
    | lst xs =>
      obtain ⟨vs, q1, q2⟩ := q
      exact ⟨vs, by rw [upd_ne (ne_of_none q1 hp)]; exact q1, q2.mono e' s.sub⟩
theorem fresh_no {K : PySem.W.Frag} (s : RSt K H μ F st) {p : Addr} (hp : H p = none) : p ∉ μ ∧ ¬ F p := ⟨fun m => s.live p (s.sub p m) hp, fun f => s.live p f hp⟩
/-- data that is there -/
theorem put_p {z : P} (s : RSt T.K H μ F st) (h : Post T W (rD T.K) σ H μ F Q (putO (some (.p z)) st)) (r : Fz T.K H F v z) : Q v H := h v H μ F r s (Ext.refl _ _ _) (List.prefix_refl _)
theorem put_tup {xs : List P} {vs : List V} (s : RSt T.K H μ F st) (h : Post T W (rD T.K) σ H μ F Q (putO (some (.p (.tup xs))) st)) (r : FzL T.K H F vs xs) {p : Addr} (hp : H p = none) : Q (.ref p) (upd H p (.tup vs)) := by
  obtain ⟨t, e⟩ := s.alloc hp (.tup vs)
  exact h _ _ μ F (.tup (.inl ⟨.inl upd_same, (fresh_no s hp).2⟩) (r.mono e s.sub)) t e (List.prefix_refl _)
theorem put_l {xs : List P} {vs : List V} (s : RSt T.K H μ F st) (h : Post T W (rD T.K) σ H μ F Q (putO (some (.l xs)) st)) (r : FzL T.K H F vs xs) {p : Addr} (hp : H p = none) : Q (.ref p) (upd H p (.lst vs)) := by
  obtain ⟨t, e⟩ := s.more hp (.lst vs)
  refine h _ _ (μ ++ [p]) (fun a => F a ∨ a = p) ⟨p, ?_, rfl⟩ (t.new (fresh_no s hp).1 (.inr rfl) ⟨vs, upd_same, r.mono e s.sub⟩) ⟨e.keep, e.fr, e.old, fun a m => ?_⟩ (List.prefix_append _ _)
  · rw [← s.len]; simp
  · rcases List.mem_append.mp m with m | m
    · exact .inl m
    · have : a = p := by simpa using m
      exact .inr (this ▸ hp)
theorem put_gd {c : Prop} [Decidable c] {o : Option NV} (h : Post T W (rD T.K) σ H μ F Q (putO (gd c o) st)) : c ∧ Post T W (rD T.K) σ H μ F Q (putO o st) := by
  unfold gd at h
  split at h
  · exact ⟨by assumption, h⟩
  · exact h.elim
/-! ### what a value is, by its data -/
theorem nw_int {K : PySem.W.Frag} {i : Int} (h : Nw K H F v (.int i)) : v = .int i := by
  rcases h with h | ⟨a, vs, xs, _, e, _⟩
  · cases h; rfl
  · cases e
theorem nw_non {K : PySem.W.Frag} (h : Nw K H F v .non) : v = .non := by
  rcases h with h | ⟨a, vs, xs, _, e, _⟩
  · cases h; rfl
  · cases e
theorem nw_bl {K : PySem.W.Frag} {i : Bool} (h : Nw K H F v (.bl i)) : v = .bl i := by
  rcases h with h | ⟨a, vs, xs, _, e, _⟩
  · cases h; rfl
  · cases e
theorem nw_str {K : PySem.W.Frag} {s : List Nat} (h : Nw K H F v (.str s)) : v = .str (sS s) ∧ okS s = true := by
  rcases h with h | ⟨a, vs, xs, _, e, _⟩
  · cases h with | str h => exact ⟨rfl, h⟩
  · cases e
theorem nw_tup {K : PySem.W.Frag} {xs : List P} (h : Nw K H F v (.tup xs)) : ∃ a vs, v = .ref a ∧ Tf K H F a vs ∧ FzL K H F vs xs := by
  rcases h with h | ⟨a, vs, xs, _, e, _⟩
  · cases h with | tup h t => exact ⟨_, _, rfl, h, t⟩
  · cases e
theorem nw_ro {K : PySem.W.Frag} {xs : List P} (h : Nw K H F v (.ro xs)) : ∃ a vs, v = .ref a ∧ Lf K H F a vs ∧ FzL K H F vs xs := by
  rcases h with h | ⟨a, vs, xs, _, e, _⟩
  · cases h with | ro h t => exact ⟨_, _, rfl, h, t⟩
  · cases e
theorem nw_lst {K : PySem.W.Frag} {xs : List P} (h : Nw K H F v (.lst xs)) : ∃ a vs, v = .ref a ∧ H a = some (.lst vs) ∧ FzL K H F vs xs := by
  rcases h with h | ⟨a, vs, xs, e1, e, h1, h2⟩
  · cases h with | lst h n t => exact ⟨_, _, rfl, h, t⟩
  · cases e; exact ⟨a, vs, e1, h1, h2⟩
theorem Nw.mono {K : PySem.W.Frag} {H' : Hp} {μ' : List Addr} {F' : Addr → Prop} (e : Ext H μ F H' μ' F') (sub : ∀ a ∈ μ, F a) {x : P} (h : Fz K H F v x) : Nw K H' F' v x := .inl (h.mono e sub)
theorem line_eq : (sizeLine : Nat) = line := by rw [sizeLine_eq]

/-! ### two values -/
abbrev R2D := L2.R2
/-- what a rule of two values is handed -/
def r2 (T : Ct) (W : WX) (g : P → P → Option NV) : R2D := fun v1 v2 H Q => ∃ σ st μ F x y, RSt T.K H μ F st ∧ Nw T.K H F v1 x ∧ Nw T.K H F v2 y ∧ Post T W (rD T.K) σ H μ F Q (putO (g x y) st)
def r1 (T : Ct) (W : WX) (g : P → Option NV) : V → Hp → VK → Prop := fun v1 H Q => ∃ σ st μ F x, RSt T.K H μ F st ∧ Nw T.K H F v1 x ∧ Post T W (rD T.K) σ H μ F Q (putO (g x) st)
theorem e2_reads {g : P → P → Option NV} {fa fb : FE} {Q : VK} (h : tX T W (rD T.K) (e2 g fa fb) σ H Q) : tOp (r2 T W g) (tX T W (rD T.K) fa) (tX T W (rD T.K) fb) σ H Q := by
  obtain ⟨ρ, st, μ, F, L, S, h⟩ := h
  have h := nrm_post S h
  refine ⟨ρ, st, μ, F, L, S, Post.bind S.sub h fun v1 H1 μ1 F1 d1 s1 _ a1 a2 a3 a4 h => ?_⟩
  refine ⟨ρ, s1, μ1, F1, L.mono a3 S.sub a4, a2, Post.bind a2.sub h fun v2 H2 μ2 F2 d2 s2 _ b1 b2 b3 b4 h => ?_⟩
  have a1 := RD.mono b3 a2.sub b4 a1
  cases e1 : asP d1 s2 with
  | none => rw [e1] at h; exact h.elim
  | some x =>
    cases e2 : asP d2 s2 with
    | none => rw [e1, e2] at h; exact h.elim
    | some y =>
      rw [e1, e2] at h
      exact ⟨σ, s2, μ2, F2, x, y, b2, now_of b2 a1 e1, now_of b2 b1 e2, h⟩
theorem e1_reads {g : P → Option NV} {fa : FE} {Q : VK} (h : tX T W (rD T.K) (e1 g fa) σ H Q) : tUn (r1 T W g) (tX T W (rD T.K) fa) σ H Q := by
  obtain ⟨ρ, st, μ, F, L, S, h⟩ := h
  have h := nrm_post S h
  refine ⟨ρ, st, μ, F, L, S, Post.bind S.sub h fun v1 H1 μ1 F1 d1 s1 _ a1 a2 a3 a4 h => ?_⟩
  cases e1 : asP d1 s1 with
  | none => rw [e1] at h; exact h.elim
  | some x =>
    rw [e1] at h
    exact ⟨σ, s1, μ1, F1, x, a2, now_of a2 a1 e1, h⟩
end

/-! ### constants, names -/
section
variable {X : Cx} {T : Ct} {W : WX} {pos : Pos} {j : Nat}
theorem lit_reads {x : P} {v : V} {σ : L2.St} {H : Hp} {Q : VK} (r : ∀ K H F, Fz K H F v x) (h : tX T W (rD T.K) (eLit x) σ H Q) : tC v σ H Q := by
  obtain ⟨ρ, st, μ, F, L, S, h⟩ := h
  exact h v H μ F (r _ _ _) S (Ext.refl _ _ _) (List.prefix_refl _)
theorem se_int {i : Int} : PE X (.Constant (.int i) j pos) (tX T W (rD T.K) (eLit (.int i))) := PE.imp pe_int fun _ _ _ => lit_reads fun _ _ _ => .int i
theorem se_bl {b : Bool} : PE X (.Constant (.bool b) j pos) (tX T W (rD T.K) (eLit (.bl b))) := PE.imp pe_bl fun _ _ _ => lit_reads fun _ _ _ => .bl b
theorem se_non : PE X (.Constant .none j pos) (tX T W (rD T.K) (eLit .non)) := PE.imp pe_non fun _ _ _ => lit_reads fun _ _ _ => .non
theorem se_str {x : Str} (s : List Nat) (e : x = sS s := by decide +kernel) (o : okS s = true := by decide +kernel) : PE X (.Constant (.str x) j pos) (tX T W (rD T.K) (eLit (.str s))) := by
  subst e
  exact PE.imp pe_str fun _ _ _ => lit_reads fun _ _ _ => .str o
theorem se_var (i : Nat) {x : Str} (hN : X.N[i]? = some x := by rfl) (hv : Vis X.env.scope x := by first | exact Or.inl rfl | exact Or.inr (Or.inl rfl) | exact Or.inr (Or.inr rfl)) (hd : (x == ("__debug__" : Str)) = false := by decide)
    (hcd : (x == ("__classdict__" : Str)) = false := by decide) : PE X (.Name x pos) (tX T W (rD T.K) (eVar i)) := PE.imp (pe_var hN hv hd hcd) fun σ H Q h => by
  obtain ⟨ρ, st, μ, F, L, S, h⟩ := h
  unfold eVar at h
  cases e : ρ[i]? with
  | none => rw [e] at h; exact h.elim
  | some o =>
    cases o with
    | none => rw [e] at h; exact h.elim
    | some d =>
      rw [e] at h
      obtain ⟨v, h1, h2⟩ := L.val i d e
      exact ⟨v, h1, h v H μ F h2 S (Ext.refl _ _ _) (List.prefix_refl _)⟩
/-- a module's constant -/
theorem se_glob {x : Str} {v : V} {u : Value} (p : P) (hm : X.mg x = some u) (r : RelV v u) (f : ∀ H F, Fz T.K H F v p) (hg : Gl X x := by rfl) (hd : (x == ("__debug__" : Str)) = false := by decide) : PE X (.Name x pos) (tX T W (rD T.K) (eLit p)) :=
  PE.imp (pe_glob hg hm r hd) fun σ H Q h => by
    obtain ⟨ρ, st, μ, F, L, S, h⟩ := h
    exact h v H μ F (f _ _) S (Ext.refl _ _ _) (List.prefix_refl _)
variable {a b c : Expr} {fa fb fc : FE} {op : Operator} {cop cop' : CmpOp} {g g' : P → P → Option NV} {g1 : P → Option NV}
theorem se_bin (ho : OpR X (binaryOp op) (r2 T W g)) (ha : PE X a (tX T W (rD T.K) fa)) (hb : PE X b (tX T W (rD T.K) fb)) : PE X (.BinOp a op b pos) (tX T W (rD T.K) (e2 g fa fb)) :=
  PE.imp (pe_op ho ha hb) fun _ _ _ => e2_reads
theorem se_un {op : UnaryOp} (ho : UnR X (unaryOp op) (r1 T W g1)) (ha : PE X a (tX T W (rD T.K) fa)) : PE X (.UnaryOp op a pos) (tX T W (rD T.K) (e1 g1 fa)) := PE.imp (pe_un ho ha) fun _ _ _ => e1_reads
theorem se_cmp (ho : OpR X (compareOp cop) (r2 T W g)) (ha : PE X a (tX T W (rD T.K) fa)) (hb : PE X b (tX T W (rD T.K) fb)) (hm : behindInMarks cop b = false := by first | exact nomark _ | rfl) : PE X (.Compare a [cop] [b] pos) (tX T W (rD T.K) (e2 g fa fb)) :=
  PE.imp (pe_cmpR ho ha hb hm) fun _ _ _ => e2_reads
theorem se_ix (ho : IxR X (r2 T W g)) (ha : PE X a (tX T W (rD T.K) fa)) (hb : PE X b (tX T W (rD T.K) fb)) (hs : PlainIx b := by exact fun _ _ => rfl) : PE X (.Subscript a b pos) (tX T W (rD T.K) (e2 g fa fb)) :=
  PE.imp (pe_ix ho ha hb hs) fun _ _ _ => e2_reads

/-! ### the operators -/
section
variable {pins : List (Addr × Obj)} {s : Shared} {σ : L2.St} {H : Hp}
theorem so_add (hK : X.K = T.K) : OpR X (binaryOp .Add) (r2 T W oAdd) := by
  intro pins s σ H x y v u Q I rx ry h
  obtain ⟨σ', st, μ, F, p, q, S, n1, n2, h⟩ := h
  unfold oAdd at h
  split at h
  · cases nw_int n1; cases nw_int n2
    exact op_add pins s σ H _ _ v u Q I rx ry ⟨_, _, rfl, rfl, put_p S h (.int _)⟩
  · rename_i a b
    obtain ⟨hc, h⟩ := put_gd h
    obtain ⟨rfl, o1⟩ := nw_str n1
    obtain ⟨rfl, o2⟩ := nw_str n2
    have e : (sS a ++ sS b : Str) = sS (a ++ b) := by
      show (⟨a.toArray ++ b.toArray⟩ : Str) = _
      simp
    refine op_add_str pins s σ H _ _ v u Q I rx ry ⟨_, _, rfl, rfl, by simpa [Str.length, line_eq] using hc, ?_⟩
    rw [e]
    exact put_p S h (.str (by unfold okS at *; rw [List.all_append, o1, o2]; rfl))
  · rename_i a b
    obtain ⟨hc, h⟩ := put_gd h
    obtain ⟨p1, vs, rfl, t1, l1⟩ := nw_tup n1
    obtain ⟨p2, ws, rfl, t2, l2⟩ := nw_tup n2
    refine op_catA pins s σ H _ _ v u Q I rx ry ⟨p1, p2, vs, ws, rfl, rfl, by rw [hK]; exact t1.sq, by rw [hK]; exact t2.sq, by rw [l1.length, l2.length, line_eq]; exact hc, fun e => ?_, fun _ e => ?_, fun _ _ p hp => put_tup S h (l1.append l2) hp⟩
    · subst e; cases l1
      exact put_p S h (.tup t2 l2)
    · subst e; cases l2
      rw [List.append_nil] at h
      exact put_p S h (.tup t1 l1)
  · rename_i a b
    obtain ⟨hc, h⟩ := put_gd h
    obtain ⟨p1, vs, rfl, t1, l1⟩ := nw_lst n1
    obtain ⟨p2, ws, rfl, t2, l2⟩ := nw_lst n2
    exact op_cat pins s σ H _ _ v u Q I rx ry ⟨p1, p2, vs, ws, rfl, rfl, t1, t2, by rw [l1.length, l2.length, line_eq]; exact hc, fun p hp => put_l S h (l1.append l2) hp⟩
  · exact h.elim
theorem so_sub : OpR X (binaryOp .Sub) (r2 T W oSub) := by
  intro pins s σ H x y v u Q I rx ry h
  obtain ⟨σ', st, μ, F, p, q, S, n1, n2, h⟩ := h
  unfold oSub at h
  split at h
  · cases nw_int n1; cases nw_int n2
    exact op_sub pins s σ H _ _ v u Q I rx ry ⟨_, _, rfl, rfl, put_p S h (.int _)⟩
  · exact h.elim
theorem so_mul : OpR X (binaryOp .Mult) (r2 T W oMul) := by
  intro pins s σ H x y v u Q I rx ry h
  obtain ⟨σ', st, μ, F, p, q, S, n1, n2, h⟩ := h
  unfold oMul at h
  split at h
  · cases nw_int n1; cases nw_int n2
    obtain ⟨hc, h⟩ := put_gd h
    exact op_mul pins s σ H _ _ v u Q I rx ry ⟨_, _, rfl, rfl, hc, put_p S h (.int _)⟩
  · exact h.elim
theorem so_div : OpR X (binaryOp .FloorDiv) (r2 T W oDiv) := by
  intro pins s σ H x y v u Q I rx ry h
  obtain ⟨σ', st, μ, F, p, q, S, n1, n2, h⟩ := h
  unfold oDiv at h
  split at h
  · cases nw_int n1; cases nw_int n2
    obtain ⟨hc, h⟩ := put_gd h
    exact op_fdiv pins s σ H _ _ v u Q I rx ry ⟨_, _, rfl, rfl, hc, put_p S h (.int _)⟩
  · exact h.elim
theorem so_mod : OpR X (binaryOp .Mod) (r2 T W oMod) := by
  intro pins s σ H x y v u Q I rx ry h
  obtain ⟨σ', st, μ, F, p, q, S, n1, n2, h⟩ := h
  unfold oMod at h
  split at h
  · cases nw_int n1; cases nw_int n2
    obtain ⟨hc, h⟩ := put_gd h
    exact op_mod pins s σ H _ _ v u Q I rx ry ⟨_, _, rfl, rfl, hc, put_p S h (.int _)⟩
  · exact h.elim
theorem so_pow : OpR X (binaryOp .Pow) (r2 T W oPow) := by
  intro pins s σ H x y v u Q I rx ry h
  obtain ⟨σ', st, μ, F, p, q, S, n1, n2, h⟩ := h
  unfold oPow at h
  split at h
  · cases nw_int n1; cases nw_int n2
    obtain ⟨hc, h⟩ := put_gd h
    exact op_pow pins s σ H _ _ v u Q I rx ry ⟨_, _, rfl, rfl, hc, put_p S h (.int _)⟩
  · exact h.elim
theorem so_neg : UnR X (unaryOp .USub) (r1 T W oNeg) := by
  intro pins s σ H x v Q I rx h
  obtain ⟨σ', st, μ, F, p, S, n1, h⟩ := h
  unfold oNeg at h
  split at h
  · cases nw_int n1
    exact un_neg pins s σ H _ v Q I rx ⟨_, rfl, put_p S h (.int _)⟩
  · exact h.elim
theorem so_lt : OpR X (compareOp .Lt) (r2 T W oLt) := by
  intro pins s σ H x y v u Q I rx ry h
  obtain ⟨σ', st, μ, F, p, q, S, n1, n2, h⟩ := h
  unfold oLt at h
  split at h
  · cases nw_int n1; cases nw_int n2
    exact op_lt pins s σ H _ _ v u Q I rx ry ⟨_, _, rfl, rfl, put_p S h (.bl _)⟩
  · exact h.elim
theorem so_le : OpR X (compareOp .LtE) (r2 T W oLe) := by
  intro pins s σ H x y v u Q I rx ry h
  obtain ⟨σ', st, μ, F, p, q, S, n1, n2, h⟩ := h
  unfold oLe at h
  split at h
  · cases nw_int n1; cases nw_int n2
    exact op_le pins s σ H _ _ v u Q I rx ry ⟨_, _, rfl, rfl, put_p S h (.bl _)⟩
  · exact h.elim
theorem so_gt : OpR X (compareOp .Gt) (r2 T W oGt) := by
  intro pins s σ H x y v u Q I rx ry h
  obtain ⟨σ', st, μ, F, p, q, S, n1, n2, h⟩ := h
  unfold oGt at h
  split at h
  · cases nw_int n1; cases nw_int n2
    exact op_gt pins s σ H _ _ v u Q I rx ry ⟨_, _, rfl, rfl, put_p S h (.bl _)⟩
  · exact h.elim
theorem so_ge : OpR X (compareOp .GtE) (r2 T W oGe) := by
  intro pins s σ H x y v u Q I rx ry h
  obtain ⟨σ', st, μ, F, p, q, S, n1, n2, h⟩ := h
  unfold oGe at h
  split at h
  · cases nw_int n1; cases nw_int n2
    exact op_ge pins s σ H _ _ v u Q I rx ry ⟨_, _, rfl, rfl, put_p S h (.bl _)⟩
  · exact h.elim

/-! ### == of data -/
mutual
def P.pd : P → PyData
  | .non => .none
  | .bl b => .bool b
  | .int i => .int i
  | .str s => .str (sS s)
  | .tup xs => .tuple (P.pds xs)
  | .lst xs => .list (P.pds xs)
  | .ro xs => .list (P.pds xs)
def P.pds : List P → List PyData
  | [] => []
  | x :: xs => P.pd x :: P.pds xs
end
theorem sS_inj {a b : List Nat} : (sS a == sS b) = (a == b) := by
  by_cases e : a = b
  · subst e; simp
  · have : sS a ≠ sS b := fun z => e (by
      have := congrArg (fun s : Str => s.cps.toList) z
      simpa using this)
    rw [beq_eq_false_iff_ne.mpr e, beq_eq_false_iff_ne.mpr this]
mutual
theorem pd_eqv : ∀ x y : P, PyData.eqv x.pd y.pd = P.eqv x y
  | .non, y => by cases y <;> simp [P.pd, PyData.eqv, P.eqv]
  | .bl b, y => by cases y <;> simp [P.pd, PyData.eqv, P.eqv]
  | .int i, y => by cases y <;> simp [P.pd, PyData.eqv, P.eqv]
  | .str s, y => by cases y <;> simp [P.pd, PyData.eqv, P.eqv, sS_inj]
  | .tup xs, y => by cases y <;> simp [P.pd, PyData.eqv, P.eqv, pds_eqv xs]
  | .lst xs, y => by cases y <;> simp [P.pd, PyData.eqv, P.eqv, pds_eqv xs]
  | .ro xs, y => by cases y <;> simp [P.pd, PyData.eqv, P.eqv, pds_eqv xs]
theorem pds_eqv : ∀ x y : List P, PyData.eqvAll (P.pds x) (P.pds y) = P.eqvs x y
  | [], y => by cases y <;> simp [P.pds, PyData.eqvAll, P.eqvs]
  | x :: xs, y => by cases y <;> simp [P.pds, PyData.eqvAll, P.eqvs, pd_eqv x, pds_eqv xs]
end
mutual
theorem pd_depth : ∀ x : P, x.pd.depth = x.dep
  | .non => by simp [P.pd, PyData.depth, P.dep]
  | .bl b => by simp [P.pd, PyData.depth, P.dep]
  | .int i => by simp [P.pd, PyData.depth, P.dep]
  | .str s => by simp [P.pd, PyData.depth, P.dep]
  | .tup xs => by simp [P.pd, PyData.depth, P.dep, pds_depth xs]
  | .lst xs => by simp [P.pd, PyData.depth, P.dep, pds_depth xs]
  | .ro xs => by simp [P.pd, PyData.depth, P.dep, pds_depth xs]
theorem pds_depth : ∀ x : List P, PyData.depthAll (P.pds x) = P.deps x
  | [] => by simp [P.pds, PyData.depthAll, P.deps]
  | x :: xs => by simp [P.pds, PyData.depthAll, P.deps, pd_depth x, pds_depth xs]
end
theorem okS_strOk {s : List Nat} (h : okS s = true) : PyData.strOk (sS s) = true := by
  unfold okS at h
  unfold PyData.strOk
  simp only [List.all_toArray, List.all_eq_true, decide_eq_true_eq] at *
  exact fun x m => Nat.lt_trans (h x m) (by decide)
mutual
theorem fz_dp {K : PySem.W.Frag} {H : Hp} {F : Addr → Prop} : ∀ {v : V} {x : P}, Fz K H F v x → Dp K H v x.pd ∧ x.pd.canLay0 = true
  | _, _, .non => by simp only [P.pd, PyData.canLay0]; exact ⟨.non, trivial⟩
  | _, _, .bl b => by simp only [P.pd, PyData.canLay0]; exact ⟨.bl b, trivial⟩
  | _, _, .int i => by simp only [P.pd, PyData.canLay0]; exact ⟨.int i, trivial⟩
  | _, _, .str h => by simp only [P.pd, PyData.canLay0]; exact ⟨.str _, okS_strOk h⟩
  | _, _, .tup h t => by simp only [P.pd, PyData.canLay0]; exact ⟨.tup h.sq (fzl_dp t).1, (fzl_dp t).2⟩
  | _, _, .lst h n t => by simp only [P.pd, PyData.canLay0]; exact ⟨.lst (.of h) (fzl_dp t).1, (fzl_dp t).2⟩
  | _, _, .ro h t => by simp only [P.pd, PyData.canLay0]; exact ⟨.lst h.sq (fzl_dp t).1, (fzl_dp t).2⟩
theorem fzl_dp {K : PySem.W.Frag} {H : Hp} {F : Addr → Prop} : ∀ {vs : List V} {xs : List P}, FzL K H F vs xs → DpAll K H vs (P.pds xs) ∧ PyData.canLayAll0 (P.pds xs) = true
  | _, _, .nil => by simp only [P.pds, PyData.canLayAll0]; exact ⟨.nil, trivial⟩
  | _, _, .cons h t => by simp only [P.pds, PyData.canLayAll0, (fz_dp h).2, (fzl_dp t).2]; exact ⟨.cons (fz_dp h).1 (fzl_dp t).1, rfl⟩
end
theorem nw_dp {K : PySem.W.Frag} {H : Hp} {F : Addr → Prop} {v : V} {x : P} (h : Nw K H F v x) : Dp K H v x.pd ∧ x.pd.canLay0 = true := by
  rcases h with h | ⟨a, vs, xs, rfl, rfl, h1, h2⟩
  · exact fz_dp h
  · simp only [P.pd, PyData.canLay0]; exact ⟨.lst (.of h1) (fzl_dp h2).1, (fzl_dp h2).2⟩
theorem so_eq (hK : X.K = T.K) (hu : X.A.units + 100 < cLine) : OpR X (compareOp .Eq) (r2 T W oEq) := by
  intro pins s σ H x y v u Q I rx ry h
  obtain ⟨σ', st, μ, F, p, q, S, n1, n2, h⟩ := h
  obtain ⟨hc, h⟩ := put_gd h
  obtain ⟨d1, c1⟩ := nw_dp n1
  obtain ⟨d2, c2⟩ := nw_dp n2
  rw [← hK] at d1 d2
  obtain ⟨as, r1⟩ := Dp.reads I _ x v d1 rx
  obtain ⟨bs, r2⟩ := Dp.reads I _ y u d2 ry
  refine SeqAt.compareEq_reads r1 r2 c1 c2 (by rw [pd_depth, pd_depth]; unfold deepOk at hc; omega) ⟨.bl _, H, I, rfl, ?_⟩
  rw [pd_eqv]
  exact put_p S h (.bl _)
theorem so_ne (hK : X.K = T.K) (hu : X.A.units + 100 < cLine) : OpR X (compareOp .NotEq) (r2 T W oNe) := by
  intro pins s σ H x y v u Q I rx ry h
  obtain ⟨σ', st, μ, F, p, q, S, n1, n2, h⟩ := h
  obtain ⟨hc, h⟩ := put_gd h
  obtain ⟨d1, c1⟩ := nw_dp n1
  obtain ⟨d2, c2⟩ := nw_dp n2
  rw [← hK] at d1 d2
  obtain ⟨as, r1⟩ := Dp.reads I _ x v d1 rx
  obtain ⟨bs, r2⟩ := Dp.reads I _ y u d2 ry
  refine SeqAt.compareNe_reads r1 r2 c1 c2 (by rw [pd_depth, pd_depth]; unfold deepOk at hc; omega) ⟨.bl _, H, I, rfl, ?_⟩
  rw [pd_eqv]
  exact put_p S h (.bl _)
theorem pds_any {x : P} : ∀ xs : List P, (P.pds xs).any (fun z => PyData.eqv z x.pd) = xs.any fun z => z.eqv x
  | [] => rfl
  | y :: ys => by simp [P.pds, pd_eqv, pds_any ys]
theorem nw_seq_dp {K : PySem.W.Frag} {H : Hp} {F : Addr → Prop} {v : V} {xs : List P} (h : Nw K H F v (.lst xs)) : Dp K H v (.list (P.pds xs)) ∧ PyData.canLayAll0 (P.pds xs) = true := by
  have q := nw_dp h
  simpa only [P.pd, PyData.canLay0] using q
theorem nw_seq_dpt {K : PySem.W.Frag} {H : Hp} {F : Addr → Prop} {v : V} {xs : List P} (h : Nw K H F v (.tup xs)) : Dp K H v (.tuple (P.pds xs)) ∧ PyData.canLayAll0 (P.pds xs) = true := by
  have q := nw_dp h
  simpa only [P.pd, PyData.canLay0] using q
theorem so_in (hK : X.K = T.K) (hu : X.A.units + 102 < cLine) : OpR X (compareOp .In) (r2 T W oIn) := by
  intro pins s σ H x y v u Q I rx ry h
  obtain ⟨σ', st, μ, F, p, q, S, n1, n2, h⟩ := h
  unfold oIn at h
  split at h
  · obtain ⟨rfl, o1⟩ := nw_str n1
    obtain ⟨rfl, o2⟩ := nw_str n2
    rename_i c t
    refine op_in_sign pins s σ H _ _ v u Q I rx ry ⟨c, sS t, rfl, rfl, ?_⟩
    exact put_p S h (.bl _)
  · obtain ⟨hc, h⟩ := put_gd h
    obtain ⟨d1, c1⟩ := nw_dp n1
    obtain ⟨d2, c2⟩ := nw_seq_dpt n2
    rw [← hK] at d1 d2
    obtain ⟨as, r1⟩ := Dp.reads I _ x v d1 rx
    obtain ⟨bs, r2⟩ := Dp.reads I _ y u d2 ry
    refine SeqAt.in_tuple_reads r2 r1 c2 c1 (by rw [pd_depth]; omega) ⟨.bl _, H, I, rfl, ?_⟩
    rw [pds_any]
    exact put_p S h (.bl _)
  · obtain ⟨hc, h⟩ := put_gd h
    obtain ⟨d1, c1⟩ := nw_dp n1
    obtain ⟨d2, c2⟩ := nw_seq_dp n2
    rw [← hK] at d1 d2
    obtain ⟨as, r1⟩ := Dp.reads I _ x v d1 rx
    obtain ⟨bs, r2⟩ := Dp.reads I _ y u d2 ry
    refine SeqAt.in_list_reads r2 r1 c2 c1 (by rw [pd_depth]; omega) ⟨.bl _, H, I, rfl, ?_⟩
    rw [pds_any]
    exact put_p S h (.bl _)
  · exact h.elim
theorem so_notIn (hK : X.K = T.K) (hu : X.A.units + 102 < cLine) : OpR X (compareOp .NotIn) (r2 T W oNotIn) := by
  intro pins s σ H x y v u Q I rx ry h
  obtain ⟨σ', st, μ, F, p, q, S, n1, n2, h⟩ := h
  unfold oNotIn oIn at h
  split at h
  · obtain ⟨rfl, o1⟩ := nw_str n1
    obtain ⟨rfl, o2⟩ := nw_str n2
    rename_i c t
    refine op_notIn_sign pins s σ H _ _ v u Q I rx ry ⟨c, sS t, rfl, rfl, ?_⟩
    exact put_p S h (.bl _)
  · unfold gd at h
    split at h
    · rename_i hc
      obtain ⟨d1, c1⟩ := nw_dp n1
      obtain ⟨d2, c2⟩ := nw_seq_dpt n2
      rw [← hK] at d1 d2
      obtain ⟨as, r1⟩ := Dp.reads I _ x v d1 rx
      obtain ⟨bs, r2⟩ := Dp.reads I _ y u d2 ry
      refine SeqAt.notIn_tuple_reads r2 r1 c2 c1 (by rw [pd_depth]; omega) ⟨.bl _, H, I, rfl, ?_⟩
      rw [pds_any]
      exact put_p S h (.bl _)
    · exact h.elim
  · unfold gd at h
    split at h
    · rename_i hc
      obtain ⟨d1, c1⟩ := nw_dp n1
      obtain ⟨d2, c2⟩ := nw_seq_dp n2
      rw [← hK] at d1 d2
      obtain ⟨as, r1⟩ := Dp.reads I _ x v d1 rx
      obtain ⟨bs, r2⟩ := Dp.reads I _ y u d2 ry
      refine SeqAt.notIn_list_reads r2 r1 c2 c1 (by rw [pd_depth]; omega) ⟨.bl _, H, I, rfl, ?_⟩
      rw [pds_any]
      exact put_p S h (.bl _)
    · exact h.elim
  · exact h.elim
theorem nw_ne_non {K : PySem.W.Frag} {H : Hp} {F : Addr → Prop} {v : V} {x : P} (h : Nw K H F v x) (n : x ≠ .non) : v ≠ .non := fun e => by
  subst e
  rcases h with h | ⟨a, vs, xs, e, _⟩
  · cases h; exact n rfl
  · cases e
theorem so_is : OpR X (compareOp .Is) (r2 T W oIs) := by
  intro pins s σ H x y v u Q I rx ry h
  obtain ⟨σ', st, μ, F, p, q, S, n1, n2, h⟩ := h
  unfold oIs at h
  split at h
  · cases nw_non n2
    refine op_isN pins s σ H _ _ v u Q I rx ry ⟨rfl, ?_⟩
    unfold oIsN at h
    split at h
    · cases nw_non n1
      exact put_p S h (.bl _)
    · rename_i hn
      rw [decide_eq_false (nw_ne_non n1 hn)]
      exact put_p S h (.bl _)
  · cases nw_bl n1; cases nw_bl n2
    exact op_isBl pins s σ H _ _ v u Q I rx ry ⟨_, _, rfl, rfl, put_p S h (.bl _)⟩
  · exact h.elim
theorem so_isNot : OpR X (compareOp .IsNot) (r2 T W oIsNot) := by
  intro pins s σ H x y v u Q I rx ry h
  obtain ⟨σ', st, μ, F, p, q, S, n1, n2, h⟩ := h
  unfold oIsNot oIs at h
  split at h
  · cases nw_non n2
    refine op_notN pins s σ H _ _ v u Q I rx ry ⟨rfl, ?_⟩
    unfold oIsN at h
    split at h
    · cases nw_non n1
      exact put_p S h (.bl _)
    · rename_i hn
      rw [decide_eq_false (nw_ne_non n1 hn)]
      exact put_p S h (.bl _)
  · cases nw_bl n1; cases nw_bl n2
    exact op_notBl pins s σ H _ _ v u Q I rx ry ⟨_, _, rfl, rfl, put_p S h (.bl _)⟩
  · exact h.elim

/-! ### subscripts -/
theorem atI_nw {K : PySem.W.Frag} {H : Hp} {F : Addr → Prop} {vs : List V} {xs : List P} (l : FzL K H F vs xs) {i : Int} {x : P} (h : Pd.atI xs i = some x) : ∃ v, L2.atI vs i = some v ∧ Fz K H F v x := by
  unfold Pd.atI at h
  unfold L2.atI
  rw [l.length]
  show ∃ v, (Option.bind (Pd.ixN xs.length i) fun j => vs[j]?) = some v ∧ _
  cases e : Pd.ixN xs.length i with
  | none => rw [e] at h; cases h
  | some j =>
    rw [e] at h
    exact l.get h
theorem so_idx (hK : X.K = T.K) : IxR X (r2 T W oIdx) := by
  intro e1 e2 pins s σ H x y v u Q I rx ry h hs
  obtain ⟨σ', st, μ, F, p, q, S, n1, n2, h⟩ := h
  unfold oIdx at h
  split at h
  · obtain ⟨a, vs, rfl, t, l⟩ := nw_tup n1
    cases nw_int n2
    rename_i xs i
    cases e : Pd.atI xs i with
    | none => rw [e] at h; exact h.elim
    | some z =>
      rw [e] at h
      obtain ⟨w, h1, h2⟩ := atI_nw l e
      exact ix_tup e1 e2 pins s σ H _ _ v u Q I rx ry ⟨a, vs, i, w, rfl, rfl, by rw [hK]; exact t.sq, h1, put_p S h h2⟩ hs
  · obtain ⟨a, vs, rfl, t, l⟩ := nw_lst n1
    cases nw_int n2
    rename_i xs i
    cases e : Pd.atI xs i with
    | none => rw [e] at h; exact h.elim
    | some z =>
      rw [e] at h
      obtain ⟨w, h1, h2⟩ := atI_nw l e
      exact ix_list e1 e2 pins s σ H _ _ v u Q I rx ry ⟨a, vs, i, w, rfl, rfl, .of t, h1, put_p S h h2⟩ hs
  · obtain ⟨a, vs, rfl, t, l⟩ := nw_ro n1
    cases nw_int n2
    rename_i xs i
    cases e : Pd.atI xs i with
    | none => rw [e] at h; exact h.elim
    | some z =>
      rw [e] at h
      obtain ⟨w, h1, h2⟩ := atI_nw l e
      exact ix_list e1 e2 pins s σ H _ _ v u Q I rx ry ⟨a, vs, i, w, rfl, rfl, by rw [hK]; exact t.sq, h1, put_p S h h2⟩ hs
  · rename_i xs i
    obtain ⟨hc, h⟩ := put_gd h
    obtain ⟨rfl, o1⟩ := nw_str n1
    cases nw_int n2
    cases e : Pd.atI xs i with
    | none => rw [e] at h; exact h.elim
    | some z =>
      rw [e] at h
      refine ix_str e1 e2 pins s σ H _ _ v u Q I rx ry ⟨sS xs, i, z, rfl, rfl, by simpa [Str.length, line_eq] using hc, e, put_p S h (.str (s := [z]) ?_)⟩ hs
      unfold okS at o1 ⊢
      have m : z ∈ xs := by
        unfold Pd.atI at e
        cases e2 : Pd.ixN xs.length i with
        | none => rw [e2] at e; cases e
        | some j => rw [e2] at e; exact List.mem_of_getElem? e
      simpa using List.all_eq_true.mp o1 z m
  · exact h.elim
def rSl (T : Ct) (W : WX) : V → Option Int → Option Int → Hp → VK → Prop := fun v l h H Q => ∃ σ st μ F x, RSt T.K H μ F st ∧ Nw T.K H F v x ∧ Post T W (rD T.K) σ H μ F Q (putO (oSl x l h) st)
theorem okS_cut {s : List Nat} (h : okS s = true) (l u : Option Int) : okS (cut s l u) = true := by
  unfold okS cut at *
  rw [List.all_eq_true] at *
  exact fun x m => h x (List.mem_of_mem_drop (List.mem_of_mem_take m))
theorem so_sl (hK : X.K = T.K) : SlR X (rSl T W) := by
  intro pins s σ H x v vl vu lo hi sl Q I rx hs pl pu h
  obtain ⟨σ', st, μ, F, p, S, n1, h⟩ := h
  unfold oSl at h
  split at h
  · rename_i z
    obtain ⟨hc, h⟩ := put_gd h
    obtain ⟨rfl, o1⟩ := nw_str n1
    refine sl_str pins s σ H _ v vl vu lo hi sl Q I rx hs pl pu ⟨sS z, rfl, by simpa [Str.length, line_eq] using hc, ?_⟩
    have e : cutS (sS z) lo hi = sS (cut z lo hi) := by
      unfold cutS cut
      simp [Str.length]
      rfl
    rw [e]
    exact put_p S h (.str (okS_cut o1 _ _))
  · obtain ⟨a, vs, rfl, t, l⟩ := nw_tup n1
    rename_i xs
    have ec : FzL T.K H F (cutV vs lo hi) (cut xs lo hi) := by
      unfold cutV cut
      rw [l.length]
      exact (l.drop _).take _
    refine sl_tupA pins s σ H _ v vl vu lo hi sl Q I rx hs pl pu ⟨a, vs, rfl, by rw [hK]; exact t.sq, fun hw => ?_, fun hw p hp => put_tup S h ec hp⟩
    have e : cut xs lo hi = xs := by
      rw [l.length] at hw
      unfold cut
      show (List.take (HT.sIx xs.length xs.length hi - HT.sIx xs.length 0 lo) (List.drop (HT.sIx xs.length 0 lo) xs)) = xs
      rw [hw.1, hw.2]
      simp
    rw [e] at h
    exact put_p S h (.tup t l)
  · obtain ⟨a, vs, rfl, t, l⟩ := nw_lst n1
    rename_i xs
    have ec : FzL T.K H F (cutV vs lo hi) (cut xs lo hi) := by
      unfold cutV cut
      rw [l.length]
      exact (l.drop _).take _
    exact sl_list pins s σ H _ v vl vu lo hi sl Q I rx hs pl pu ⟨a, vs, rfl, .of t, fun p hp => put_l S h ec hp⟩
  · exact h.elim
/-! ### sequences of pieces -/
abbrev rO : Rel (Option Int) (Option Int) := fun _ _ _ b a => b = a
theorem po_no : PO X none (tX T W rO (fPart none)) := by
  refine ⟨fun pins s σ H Q I h => po_none.run pins s σ H Q I ?_⟩
  obtain ⟨ρ, st, μ, F, L, S, h⟩ := h
  exact h none H μ F rfl S (Ext.refl _ _ _) (List.prefix_refl _)
theorem po_so {e : Expr} {f : FE} (h : PE X e (tX T W (rD T.K) f)) : PO X (some e) (tX T W rO (fPart (some f))) := by
  refine ⟨fun pins s σ H Q I q => (po_some h).run pins s σ H Q I ?_⟩
  obtain ⟨ρ, st, μ, F, L, S, q⟩ := q
  refine ⟨ρ, st, μ, F, L, S, Post.bind (R1 := rD T.K) (f := f ρ st) S.sub q fun v1 H1 μ1 F1 d1 s1 _ a1 a2 a3 a4 h => ?_⟩
  split at h
  · rename_i i _
    cases (show Fz T.K H1 F1 v1 (.int i) from a1)
    exact ⟨i, rfl, h (some i) H1 μ1 F1 rfl a2 (Ext.refl _ _ _) (List.prefix_refl _)⟩
  · exact h.elim
theorem se_sl {fl fh : Option FE} {e : Expr} {lo hi : Option Expr} {p2 : Pos} (hK : X.K = T.K) (he : PE X e (tX T W (rD T.K) fa)) (hl : PO X lo (tX T W rO (fPart fl))) (hh : PO X hi (tX T W rO (fPart fh))) :
    PE X (.Subscript e (.Slice lo hi none p2) pos) (tX T W (rD T.K) (eSl fa fl fh)) := PE.imp (pe_slice (so_sl (W := W) hK) he hl hh) fun σ H Q h => by
  obtain ⟨ρ, st, μ, F, L, S, h⟩ := h
  have h := nrm_post S h
  refine ⟨ρ, st, μ, F, L, S, Post.bind S.sub h fun v1 H1 μ1 F1 d1 s1 _ a1 a2 a3 a4 h => ?_⟩
  have L1 := L.mono a3 S.sub a4
  refine ⟨ρ, s1, μ1, F1, L1, a2, Post.bind a2.sub h fun l H2 μ2 F2 l' s2 _ b1 b2 b3 b4 h => ?_⟩
  have L2 := L1.mono b3 a2.sub b4
  refine ⟨ρ, s2, μ2, F2, L2, b2, Post.bind b2.sub h fun u H3 μ3 F3 u' s3 _ c1 c2 c3 c4 h => ?_⟩
  have a1 := RD.mono (b3.trans a2.sub c3) a2.sub (b4.trans c4) a1
  cases b1; cases c1
  cases e1 : asP d1 s3 with
  | none => rw [e1] at h; exact h.elim
  | some x =>
    rw [e1] at h
    exact ⟨σ, s3, μ3, F3, x, c2, now_of c2 a1 e1, h⟩
/-- arguments -/
theorem sa_nil : PA X [] (tX T W (rDs T.K) (fAll [])) := PA.imp pa_nil fun σ H Q h => by
  obtain ⟨ρ, st, μ, F, L, S, h⟩ := h
  exact h [] H μ F .nil S (Ext.refl _ _ _) (List.prefix_refl _)
theorem sa_cons {e : Expr} {es : List Expr} {f : FE} {fs : List FE} (ha : PE X e (tX T W (rD T.K) f)) (hr : PA X es (tX T W (rDs T.K) (fAll fs))) (hs : starEach (e :: es) X.env = (false, eval e X.env) :: starEach es X.env := by rfl) :
    PA X (e :: es) (tX T W (rDs T.K) (fAll (f :: fs))) := PA.imp (pa_cons ha hr hs) fun σ H Q h => by
  obtain ⟨ρ, st, μ, F, L, S, h⟩ := h
  refine ⟨ρ, st, μ, F, L, S, Post.bind S.sub h fun v1 H1 μ1 F1 d1 s1 _ a1 a2 a3 a4 h => ?_⟩
  refine ⟨ρ, s1, μ1, F1, L.mono a3 S.sub a4, a2, Post.bind a2.sub h fun vs H2 μ2 F2 ds s2 _ b1 b2 b3 b4 h => ?_⟩
  exact h _ _ _ _ (.cons (RD.mono b3 a2.sub b4 a1) b1) b2 (Ext.refl _ _ _) (List.prefix_refl _)
/-- items of a display, without a star -/
theorem si_nil : PA X [] (tX T W (rPs T.K) (fItems [])) := PA.imp pa_nil fun σ H Q h => by
  obtain ⟨ρ, st, μ, F, L, S, h⟩ := h
  exact h [] H μ F .nil S (Ext.refl _ _ _) (List.prefix_refl _)
theorem si_cons {e : Expr} {es : List Expr} {f : FE} {fs : List (Bool × FE)} (ha : PE X e (tX T W (rD T.K) f)) (hr : PA X es (tX T W (rPs T.K) (fItems fs))) (hs : starEach (e :: es) X.env = (false, eval e X.env) :: starEach es X.env := by rfl) :
    PA X (e :: es) (tX T W (rPs T.K) (fItems ((false, f) :: fs))) := PA.imp (pa_cons ha hr hs) fun σ H Q h => by
  obtain ⟨ρ, st, μ, F, L, S, h⟩ := h
  refine ⟨ρ, st, μ, F, L, S, frz_post S (Post.bind S.sub h fun v1 H1 μ1 F1 d1 s1 _ a1 a2 a3 a4 h => ?_)⟩
  refine ⟨ρ, s1, μ1, F1, L.mono a3 S.sub a4, a2, Post.bind a2.sub h fun vs H2 μ2 F2 ds s2 _ b1 b2 b3 b4 h => ?_⟩
  exact h _ _ _ _ (.cons (Fz.mono b3 a2.sub a1) b1) b2 (Ext.refl _ _ _) (List.prefix_refl _)
theorem se_tup {es : List Expr} {fs : List (Bool × FE)} {x1} (h : PA X es (tX T W (rPs T.K) (fItems fs))) : PE X (.Tuple es x1 pos) (tX T W (rD T.K) (eTup fs)) := PE.imp (pe_tup h) fun σ H Q h => by
  obtain ⟨ρ, st, μ, F, L, S, h⟩ := h
  refine ⟨ρ, st, μ, F, L, S, Post.bind S.sub h fun vs H1 μ1 F1 xs s1 _ a1 a2 a3 a4 h => ?_⟩
  obtain ⟨hc, h⟩ := put_gd h
  exact ⟨by rw [a1.length, line_eq]; exact hc, fun p hp => put_tup a2 h a1 hp⟩
theorem se_lst {es : List Expr} {fs : List (Bool × FE)} (h : PA X es (tX T W (rPs T.K) (fItems fs))) : PE X (.List es pos) (tX T W (rD T.K) (eLst fs)) := PE.imp (pe_lst h) fun σ H Q h => by
  obtain ⟨ρ, st, μ, F, L, S, h⟩ := h
  refine ⟨ρ, st, μ, F, L, S, Post.bind S.sub h fun vs H1 μ1 F1 xs s1 _ a1 a2 a3 a4 h => ?_⟩
  obtain ⟨hc, h⟩ := put_gd h
  exact ⟨by rw [a1.length, line_eq]; exact hc, fun p hp => put_l a2 h a1 hp⟩
end
end
end Pd
end

section -- PdBi
set_option Elab.async false
set_option linter.all false
set_option maxRecDepth 100000
set_option maxHeartbeats 4000000
/-! PdBi: builtins and methods keep the plain semantics. -/
namespace Pd
open PySem PySem.Spec PyProof.Rows L2 TL
inductive NwL (K : PySem.W.Frag) (H : Hp) (F : Addr → Prop) : List V → List P → Prop
  | nil : NwL K H F [] []
  | cons {v : V} {vs : List V} {x : P} {xs : List P} : Nw K H F v x → NwL K H F vs xs → NwL K H F (v :: vs) (x :: xs)
section
variable {X : Cx} {T : Ct} {W : WX} {σ : L2.St} {H : Hp} {μ : List Addr} {F : Addr → Prop} {st : Sto} {pos : Pos}
theorem nows_of {K : PySem.W.Frag} (s : RSt K H μ F st) : ∀ {vs : List V} {ds : List D} {xs : List P}, RDs K H μ F vs ds → asPs ds st = some xs → NwL K H F vs xs
  | _, _, xs, .nil, e => by
    cases (Option.some.inj e : [] = xs); exact .nil
  | _, _, xs, .cons (d := d) (ds := ds) h t, e => by
    unfold asPs at e
    cases e1 : asP d st with
    | none => rw [e1] at e; cases e
    | some x =>
      cases e2 : asPs ds st with
      | none => rw [e1, e2] at e; cases e
      | some ys =>
        rw [e1, e2] at e
        cases (Option.some.inj e : x :: ys = xs)
        exact .cons (now_of s h e1) (nows_of s t e2)
/-- what a builtin's rule is handed -/
def rN (T : Ct) (W : WX) (g : List P → Option NV) : List V → Hp → VK → Prop := fun vs H Q => ∃ σ st μ F xs, RSt T.K H μ F st ∧ NwL T.K H F vs xs ∧ Post T W (rD T.K) σ H μ F Q (putO (g xs) st)
theorem eBi_reads {g : List P → Option NV} {fs : List FE} {Q : VK} (h : tX T W (rD T.K) (eBi g fs) σ H Q) : tCB (rN T W g) (tX T W (rDs T.K) (fAll fs)) σ H Q := by
  obtain ⟨ρ, st, μ, F, L, S, h⟩ := h
  have h := nrm_post S h
  refine ⟨ρ, st, μ, F, L, S, Post.bind S.sub h fun vs H1 μ1 F1 ds s1 _ a1 a2 a3 a4 h => ?_⟩
  cases e : asPs ds s1 with
  | none => rw [e] at h; exact h.elim
  | some xs =>
    rw [e] at h
    exact ⟨σ, s1, μ1, F1, xs, a2, nows_of a2 a1 e, h⟩
theorem se_bi {id : String} {x : Str} {p : Pos} {e : Expr} {es : List Expr} {fs : List FE} {g : List P → Option NV} (hc : CallR X (.builtin id) (rN T W g)) (hm : X.mg x = none) (hv : bootBuiltins x = some (.builtin id)) (ha : PA X (e :: es) (tX T W (rDs T.K) (fAll fs))) (hg : Gl X x := by rfl)
    (hn : x ≠ "__name__" := by decide) (hdb : (x == ("__debug__" : Str)) = false := by decide) (hs : starEach (e :: es) X.env = (false, eval e X.env) :: starEach es X.env := by rfl) (hplain : (backTo pos (starEach es X.env)).any (·.1) = false := by rfl) :
    PE X (.Call (.Name x p) (e :: es) [] pos) (tX T W (rD T.K) (eBi g fs)) := PE.imp (pe_callB hc hg hm hv ha hn hdb hs hplain) fun _ _ _ => eBi_reads
theorem se_ty {t : String} {x : Str} {p : Pos} {e : Expr} {es : List Expr} {fs : List FE} {g : List P → Option NV} (hc : CallR X (.type t) (rN T W g)) (hm : X.mg x = none) (hv : bootBuiltins x = some (.type t)) (ha : PA X (e :: es) (tX T W (rDs T.K) (fAll fs))) (hg : Gl X x := by rfl)
    (hn : x ≠ "__name__" := by decide) (hdb : (x == ("__debug__" : Str)) = false := by decide) (hs : starEach (e :: es) X.env = (false, eval e X.env) :: starEach es X.env := by rfl) (hplain : (backTo pos (starEach es X.env)).any (·.1) = false := by rfl) :
    PE X (.Call (.Name x p) (e :: es) [] pos) (tX T W (rD T.K) (eBi g fs)) := PE.imp (pe_callTy hc hg hm hv ha hn hdb hs hplain) fun _ _ _ => eBi_reads
theorem nwl1 {K : PySem.W.Frag} {vs : List V} {x : P} (h : NwL K H F vs [x]) : ∃ v, vs = [v] ∧ Nw K H F v x := by
  cases h with | cons h t => cases t; exact ⟨_, rfl, h⟩
theorem nwl2 {K : PySem.W.Frag} {vs : List V} {x y : P} (h : NwL K H F vs [x, y]) : ∃ v u, vs = [v, u] ∧ Nw K H F v x ∧ Nw K H F u y := by
  cases h with | cons h t => cases t with | cons h2 t => cases t; exact ⟨_, _, rfl, h, h2⟩
theorem sb_len (hK : X.K = T.K) : CallR X (.builtin "len") (rN T W bLen) := by
  intro pins s σ H vs us Q I r h
  obtain ⟨σ', st, μ, F, xs, S, n, h⟩ := h
  unfold bLen at h
  split at h
  · obtain ⟨v, rfl, n'⟩ := nwl1 n
    obtain ⟨a, ws, rfl, t, l⟩ := nw_ro n'
    exact call_len pins s σ H _ us Q I r ⟨_, _, rfl, .inl ⟨ws, by rw [hK]; exact t.sq, rfl⟩, by rw [l.length]; exact put_p S h (.int _)⟩
  · rename_i z
    obtain ⟨v, rfl, n'⟩ := nwl1 n
    obtain ⟨rfl, o⟩ := nw_str n'
    obtain ⟨hc, h⟩ := put_gd h
    exact call_len pins s σ H _ us Q I r ⟨_, z.length, rfl, ⟨by simpa [Str.length, line_eq] using hc, by simp [Str.length]⟩, put_p S h (.int _)⟩
  · obtain ⟨v, rfl, n'⟩ := nwl1 n
    obtain ⟨a, ws, rfl, t, l⟩ := nw_tup n'
    exact call_len pins s σ H _ us Q I r ⟨_, _, rfl, .inr ⟨ws, by rw [hK]; exact t.sq, rfl⟩, by rw [l.length]; exact put_p S h (.int _)⟩
  · obtain ⟨v, rfl, n'⟩ := nwl1 n
    obtain ⟨a, ws, rfl, t, l⟩ := nw_lst n'
    exact call_len pins s σ H _ us Q I r ⟨_, _, rfl, .inl ⟨ws, .of t, rfl⟩, by rw [l.length]; exact put_p S h (.int _)⟩
  · exact h.elim
theorem sb_abs : CallR X (.builtin "abs") (rN T W bAbs) := by
  intro pins s σ H vs us Q I r h
  obtain ⟨σ', st, μ, F, xs, S, n, h⟩ := h
  unfold bAbs at h
  split at h
  · obtain ⟨v, rfl, n'⟩ := nwl1 n
    cases nw_int n'
    exact call_abs pins s σ H _ us Q I r ⟨_, rfl, put_p S h (.int _)⟩
  · exact h.elim
theorem sb_max2 (hc : X.calm = true) : CallR X (.builtin "max") (rN T W bMax2) := by
  intro pins s σ H vs us Q I r h
  obtain ⟨σ', st, μ, F, xs, S, n, h⟩ := h
  unfold bMax2 at h
  split at h
  · obtain ⟨v, u, rfl, n1, n2⟩ := nwl2 n
    cases nw_int n1; cases nw_int n2
    exact call_max2 hc pins s σ H _ us Q I r ⟨_, _, rfl, put_p S h (.int _)⟩
  · exact h.elim
theorem sb_min2 (hc : X.calm = true) : CallR X (.builtin "min") (rN T W bMin2) := by
  intro pins s σ H vs us Q I r h
  obtain ⟨σ', st, μ, F, xs, S, n, h⟩ := h
  unfold bMin2 at h
  split at h
  · obtain ⟨v, u, rfl, n1, n2⟩ := nwl2 n
    cases nw_int n1; cases nw_int n2
    exact call_min2 hc pins s σ H _ us Q I r ⟨_, _, rfl, put_p S h (.int _)⟩
  · exact h.elim
theorem dig_all {s : List Nat} (h : s.all dig = true) : NumText.AllDigits s := fun c m => by
  have := List.all_eq_true.mp h c m
  unfold dig at this
  simpa using this
theorem sb_int : CallR X (.type "int") (rN T W bInt) := by
  intro pins s σ H vs us Q I r h
  obtain ⟨σ', st, μ, F, xs, S, n, h⟩ := h
  unfold bInt at h
  split at h
  · obtain ⟨v, rfl, n'⟩ := nwl1 n
    cases nw_int n'
    exact call_int1 pins s σ H _ us Q I r (.inl ⟨_, rfl, put_p S h (.int _)⟩)
  · obtain ⟨v, rfl, n'⟩ := nwl1 n
    cases nw_bl n'
    exact call_int1 pins s σ H _ us Q I r (.inr ⟨_, rfl, put_p S h (.int _)⟩)
  · rename_i z
    obtain ⟨v, rfl, n'⟩ := nwl1 n
    obtain ⟨rfl, o⟩ := nw_str n'
    obtain ⟨⟨h1, h2, h3⟩, h⟩ := put_gd h
    refine call_int_str pins s σ H _ us Q I r ⟨sS z, (valL z : Int), rfl, ?_, by simpa [Str.length] using h3, put_p S h (.int _)⟩
    exact intText_digits (x := sS z) (dig_all h2) h1 (by simp [Str.length]; omega)
  · exact h.elim
theorem intL_eq (i : Int) : (Str.ofString (toString i) : Str) = sS (intL i) := by
  refine ext_tl ?_
  rw [tl_ofString, tl_mk]
  cases i with
  | ofNat n =>
    show (toString n).toList.map Char.toNat = _
    unfold intL
    rw [if_neg (by have : (0 : Int) ≤ Int.ofNat n := Int.natCast_nonneg n; omega)]
    show (Nat.repr n).toList.map Char.toNat = numL n
    rw [Nat.toList_repr]
    rfl
  | negSucc n =>
    unfold intL
    rw [if_pos (by omega)]
    show ("-" ++ toString (n + 1)).toList.map Char.toNat = 45 :: numL (n + 1)
    rw [String.toList_append]
    show 45 :: (Nat.repr (n + 1)).toList.map Char.toNat = _
    rw [Nat.toList_repr]
    rfl
theorem okS_num (n : Nat) : okS (numL n) = true := by
  unfold okS
  rw [List.all_eq_true]
  intro c m
  have := TL.numL_digits n c m
  simp; omega
theorem okS_int (i : Int) : okS (intL i) = true := by
  unfold intL
  split
  · show okS ([45] ++ numL _) = true
    unfold okS
    rw [List.all_append]
    have := okS_num i.natAbs
    unfold okS at this
    rw [this]; rfl
  · exact okS_num _
theorem sb_str : CallR X (.type "str") (rN T W bStr) := by
  intro pins s σ H vs us Q I r h
  obtain ⟨σ', st, μ, F, xs, S, n, h⟩ := h
  unfold bStr at h
  split at h
  · obtain ⟨v, rfl, n'⟩ := nwl1 n
    cases nw_int n'
    obtain ⟨hc, h⟩ := put_gd h
    refine call_str_int pins s σ H _ us Q I r ⟨_, rfl, hc, ?_⟩
    show Q (.str (Str.ofString (toString _))) H
    rw [intL_eq]
    exact put_p S h (.str (okS_int _))
  · exact h.elim
theorem sb_tuple (hK : X.K = T.K) : CallR X (.type "tuple") (rN T W bTuple) := by
  intro pins s σ H vs us Q I r h
  obtain ⟨σ', st, μ, F, xs, S, n, h⟩ := h
  unfold bTuple at h
  split at h
  · obtain ⟨v, rfl, n'⟩ := nwl1 n
    obtain ⟨a, ws, rfl, t, l⟩ := nw_lst n'
    exact call_tuple_of pins s σ H _ us Q I r ⟨a, ws, rfl, .inl ⟨.of t, fun p hp => put_tup S h l hp⟩⟩
  · obtain ⟨v, rfl, n'⟩ := nwl1 n
    obtain ⟨a, ws, rfl, t, l⟩ := nw_tup n'
    exact call_tuple_of pins s σ H _ us Q I r ⟨a, ws, rfl, .inr ⟨by rw [hK]; exact t.sq, put_p S h (.tup t l)⟩⟩
  · exact h.elim
theorem sb_list (hK : X.K = T.K) : CallR X (.type "list") (rN T W bList) := by
  intro pins s σ H vs us Q I r h
  obtain ⟨σ', st, μ, F, xs, S, n, h⟩ := h
  unfold bList at h
  split at h
  · obtain ⟨v, rfl, n'⟩ := nwl1 n
    obtain ⟨a, ws, rfl, t, l⟩ := nw_lst n'
    exact call_list_of pins s σ H _ us Q I r ⟨a, ws, rfl, .inl (.of t), fun p hp => put_l S h l hp⟩
  · obtain ⟨v, rfl, n'⟩ := nwl1 n
    obtain ⟨a, ws, rfl, t, l⟩ := nw_tup n'
    exact call_list_of pins s σ H _ us Q I r ⟨a, ws, rfl, .inr (by rw [hK]; exact t.sq), fun p hp => put_l S h l hp⟩
  · exact h.elim
theorem fzl_bls {K : PySem.W.Frag} : ∀ {vs : List V} {xs : List P} {bs : List Bool}, FzL K H F vs xs → asBls xs = some bs → vs = bs.map V.bl
  | _, _, bs, .nil, e => by cases (Option.some.inj e : [] = bs); rfl
  | _, _, bs, .cons (x := x) (xs := xs) h t, e => by
    unfold asBls at e
    cases e1 : asBl x with
    | none => rw [e1] at e; cases e
    | some b =>
      cases e2 : asBls xs with
      | none => rw [e1, e2] at e; cases e
      | some cs =>
        rw [e1, e2] at e
        cases (Option.some.inj e : b :: cs = bs)
        rw [fzl_bls t e2]
        cases x with
        | bl c => cases h; cases (Option.some.inj e1 : c = b); rfl
        | _ => cases e1
theorem fzl_ints {K : PySem.W.Frag} : ∀ {vs : List V} {xs : List P} {bs : List Int}, FzL K H F vs xs → asIs xs = some bs → vs = bs.map V.int
  | _, _, bs, .nil, e => by cases (Option.some.inj e : [] = bs); rfl
  | _, _, bs, .cons (x := x) (xs := xs) h t, e => by
    unfold asIs at e
    cases e1 : asI x with
    | none => rw [e1] at e; cases e
    | some b =>
      cases e2 : asIs xs with
      | none => rw [e1, e2] at e; cases e
      | some cs =>
        rw [e1, e2] at e
        cases (Option.some.inj e : b :: cs = bs)
        rw [fzl_ints t e2]
        cases x with
        | int c => cases h; cases (Option.some.inj e1 : c = b); rfl
        | _ => cases e1
theorem fzl_strs {K : PySem.W.Frag} : ∀ {vs : List V} {xs : List P} {bs : List (List Nat)}, FzL K H F vs xs → asSs xs = some bs → vs = (bs.map sS).map V.str ∧ ∀ b ∈ bs, okS b = true
  | _, _, bs, .nil, e => by cases (Option.some.inj e : [] = bs); exact ⟨rfl, fun _ z => nomatch z⟩
  | _, _, bs, .cons (x := x) (xs := xs) h t, e => by
    unfold asSs at e
    cases e1 : asS x with
    | none => rw [e1] at e; cases e
    | some b =>
      cases e2 : asSs xs with
      | none => rw [e1, e2] at e; cases e
      | some cs =>
        rw [e1, e2] at e
        cases (Option.some.inj e : b :: cs = bs)
        obtain ⟨q1, q2⟩ := fzl_strs t e2
        rw [q1]
        cases x with
        | str c =>
          cases (Option.some.inj e1 : c = b)
          cases h with
          | str o => exact ⟨rfl, fun z m => by
            rcases List.mem_cons.mp m with e | m
            · rw [e]; exact o
            · exact q2 z m⟩
        | _ => cases e1
theorem sb_all (hc : X.calm = true) : CallR X (.builtin "all") (rN T W bAll) := by
  intro pins s σ H vs us Q I r h
  obtain ⟨σ', st, μ, F, xs, S, n, h⟩ := h
  unfold bAll at h
  split at h
  · obtain ⟨v, rfl, n'⟩ := nwl1 n
    obtain ⟨a, ws, rfl, t, l⟩ := nw_lst n'
    rename_i ys
    cases e : asBls ys with
    | none => rw [e] at h; exact h.elim
    | some bs =>
      rw [e] at h
      exact cr_all hc pins s σ H _ us Q I r ⟨a, bs, rfl, .of (by rw [← fzl_bls l e]; exact t), put_p S h (.bl _)⟩
  · exact h.elim
theorem sb_any (hc : X.calm = true) : CallR X (.builtin "any") (rN T W bAny) := by
  intro pins s σ H vs us Q I r h
  obtain ⟨σ', st, μ, F, xs, S, n, h⟩ := h
  unfold bAny at h
  split at h
  · obtain ⟨v, rfl, n'⟩ := nwl1 n
    obtain ⟨a, ws, rfl, t, l⟩ := nw_lst n'
    rename_i ys
    cases e : asBls ys with
    | none => rw [e] at h; exact h.elim
    | some bs =>
      rw [e] at h
      exact cr_any hc pins s σ H _ us Q I r ⟨a, bs, rfl, .of (by rw [← fzl_bls l e]; exact t), put_p S h (.bl _)⟩
  · exact h.elim
theorem sb_sum (hc : X.calm = true) : CallR X (.builtin "sum") (rN T W bSum) := by
  intro pins s σ H vs us Q I r h
  obtain ⟨σ', st, μ, F, xs, S, n, h⟩ := h
  unfold bSum at h
  split at h
  · obtain ⟨v, rfl, n'⟩ := nwl1 n
    obtain ⟨a, ws, rfl, t, l⟩ := nw_lst n'
    rename_i ys
    cases e : asIs ys with
    | none => rw [e] at h; exact h.elim
    | some bs =>
      rw [e] at h
      exact cr_sum hc pins s σ H _ us Q I r ⟨a, bs, rfl, .of (by rw [← fzl_ints l e]; exact t), put_p S h (.int _)⟩
  · exact h.elim
/-! ### methods of texts -/
def rM0 (T : Ct) (W : WX) (g : List Nat → Option NV) : V → List V → Hp → VK → Prop := fun v vs H Q => ∃ σ st μ F a, vs = [] ∧ v = .str (sS a) ∧ okS a = true ∧ RSt T.K H μ F st ∧ Post T W (rD T.K) σ H μ F Q (putO (g a) st)
def rM1 (T : Ct) (W : WX) (g : List Nat → P → Option NV) : V → List V → Hp → VK → Prop := fun v vs H Q => ∃ σ st μ F a u y, vs = [u] ∧ v = .str (sS a) ∧ okS a = true ∧ RSt T.K H μ F st ∧ Nw T.K H F u y ∧ Post T W (rD T.K) σ H μ F Q (putO (g a y) st)
theorem eM0_reads {g : List Nat → Option NV} {f : FE} {Q : VK} (h : tX T W (rD T.K) (eM0 g f) σ H Q) : tM0 (rM0 T W g) (tX T W (rD T.K) f) σ H Q := by
  obtain ⟨ρ, st, μ, F, L, S, h⟩ := h
  have h := nrm_post S h
  refine ⟨ρ, st, μ, F, L, S, Post.bind S.sub h fun v H1 μ1 F1 d s1 _ a1 a2 a3 a4 h => ?_⟩
  split at h
  · rename_i a _
    obtain ⟨rfl, o⟩ := nw_str (.inl (show Fz T.K H1 F1 v (.str a) from a1))
    exact ⟨⟨_, rfl⟩, σ, s1, μ1, F1, a, rfl, rfl, o, a2, h⟩
  · exact h.elim
theorem eM1_reads {g : List Nat → P → Option NV} {f f' : FE} {Q : VK} (h : tX T W (rD T.K) (eM1 g f f') σ H Q) : tM1 (rM1 T W g) (tX T W (rD T.K) f) (tX T W (rD T.K) f') σ H Q := by
  obtain ⟨ρ, st, μ, F, L, S, h⟩ := h
  have h := nrm_post S h
  refine ⟨ρ, st, μ, F, L, S, Post.bind S.sub h fun v H1 μ1 F1 d s1 _ a1 a2 a3 a4 h => ?_⟩
  split at h
  · rename_i a _
    obtain ⟨rfl, o⟩ := nw_str (.inl (show Fz T.K H1 F1 v (.str a) from a1))
    refine ⟨⟨_, rfl⟩, ρ, s1, μ1, F1, L.mono a3 S.sub a4, a2, Post.bind a2.sub h fun u H2 μ2 F2 d2 s2 _ b1 b2 b3 b4 h => ?_⟩
    cases e : asP d2 s2 with
    | none => rw [e] at h; exact h.elim
    | some y =>
      rw [e] at h
      exact ⟨σ, s2, μ2, F2, a, u, y, rfl, rfl, o, b2, now_of b2 b1 e, h⟩
  · exact h.elim
theorem se_m0 {id : String} {name : Str} {o : Expr} {apos : Pos} {g : List Nat → Option NV} {f : FE} (slot : Slot "str" name id) (ty : typeOf (.builtin id) = pure (.type "method_descriptor")) (rule : MtR X id (rM0 T W g)) (ho : PE X o (tX T W (rD T.K) f))
    (hbase : attributeBase o name X.env (eval o X.env) = eval o X.env := by rfl) (hline : (apos.endLine == pos.line) = true := by rfl) : PE X (.Call (.Attribute o name apos) [] [] pos) (tX T W (rD T.K) (eM0 g f)) := PE.imp (pe_m0 slot ty rule ho hbase hline) fun _ _ _ => eM0_reads
theorem se_m1 {id : String} {name : Str} {o e : Expr} {apos : Pos} {g : List Nat → P → Option NV} {f f' : FE} (slot : Slot "str" name id) (ty : typeOf (.builtin id) = pure (.type "method_descriptor")) (rule : MtR X id (rM1 T W g)) (ho : PE X o (tX T W (rD T.K) f)) (he : PE X e (tX T W (rD T.K) f'))
    (hs : starEach [e] X.env = [(false, eval e X.env)] := by rfl) (hbase : attributeBase o name X.env (eval o X.env) = eval o X.env := by rfl) (hline : (apos.endLine == pos.line) = true := by rfl) : PE X (.Call (.Attribute o name apos) [e] [] pos) (tX T W (rD T.K) (eM1 g f f')) :=
  PE.imp (pe_m1 slot ty rule ho he hs hbase hline) fun _ _ _ => eM1_reads
theorem sum_len (ps : List (List Nat)) : ((ps.map sS).map (fun s : Str => s.length)) = ps.map (·.length) := by simp [Str.length]
theorem joinL_eq (s : List Nat) : ∀ ps : List (List Nat), joinL s ps = TL.joinL s ps
  | [] => rfl
  | [p] => rfl
  | p :: q :: r => by
    show p ++ s ++ joinL s (q :: r) = p ++ (s ++ TL.joinL s (q :: r))
    rw [joinL_eq s (q :: r), List.append_assoc]
theorem okS_join {s : List Nat} (h : okS s = true) : ∀ ps : List (List Nat), (∀ p ∈ ps, okS p = true) → okS (joinL s ps) = true
  | [], _ => rfl
  | [p], hp => hp p (by simp)
  | p :: q :: r, hp => by
    have i := okS_join h (q :: r) fun z m => hp z (List.mem_cons_of_mem _ m)
    have j := hp p (by simp)
    show okS (p ++ s ++ joinL s (q :: r)) = true
    unfold okS at *
    rw [List.all_append, List.all_append, j, h, i]; rfl
theorem join_txt (s : List Nat) (ps : List (List Nat)) : Txt.join (sS s) (ps.map sS) = sS (joinL s ps) := by
  refine ext_tl ?_
  rw [TL.join_eq, tl_join, tl_mk, joinL_eq, List.map_map]
  have : (tl ∘ sS) = id := rfl
  rw [this, List.map_id]
theorem sm_join (hK : X.K = T.K) : MtR X "str.join" (rM1 T W oJoin) := by
  intro pins s σ H v vs u us Q I rv rvs h
  obtain ⟨σ', st, μ, F, a, w, y, rfl, rfl, o, S, n, h⟩ := h
  unfold oJoin at h
  split at h
  · obtain ⟨b, ws, rfl, t, l⟩ := nw_lst n
    rename_i ys
    cases e : asSs ys with
    | none => rw [e] at h; exact h.elim
    | some ps =>
      rw [e] at h
      obtain ⟨hc, h⟩ := put_gd h
      obtain ⟨e1, e2⟩ := fzl_strs l e
      subst e1
      refine mt_join pins s σ H _ _ u us Q I rv rvs ⟨sS a, b, ps.map sS, rfl, rfl, .inl (.of t), by rw [sum_len]; simpa [Str.length] using hc, ?_⟩
      rw [join_txt]
      exact put_p S h (.str (okS_join o ps e2))
  · obtain ⟨b, ws, rfl, t, l⟩ := nw_tup n
    rename_i ys
    cases e : asSs ys with
    | none => rw [e] at h; exact h.elim
    | some ps =>
      rw [e] at h
      obtain ⟨hc, h⟩ := put_gd h
      obtain ⟨e1, e2⟩ := fzl_strs l e
      subst e1
      refine mt_join pins s σ H _ _ u us Q I rv rvs ⟨sS a, b, ps.map sS, rfl, rfl, .inr (by rw [hK]; exact t.sq), by rw [sum_len]; simpa [Str.length] using hc, ?_⟩
      rw [join_txt]
      exact put_p S h (.str (okS_join o ps e2))
  · exact h.elim
theorem pre1 (c d : Nat) (r : List Nat) : TL.pre [c] (d :: r) = decide (d = c) := by
  unfold TL.pre
  by_cases e : d = c
  · subst e; simp
  · rw [decide_eq_false e]
    show ([d] == [c]) = false
    exact beq_eq_false_iff_ne.mpr fun z => e (by simpa using z)
theorem splL_hit (c : Nat) (r : List Nat) : splL c (c :: r) = [] :: splL c r := by
  show (if c = c then _ else _) = _
  rw [if_pos rfl]
theorem splL_miss {c d : Nat} (h : d ≠ c) (r : List Nat) : splL c (d :: r) = (match splL c r with
    | [] => [[d]]
    | p :: ps => (d :: p) :: ps) := by
  show (if d = c then _ else _) = _
  rw [if_neg h]
  all_goals cases splL c r <;> rfl
theorem splL_ne (c : Nat) : ∀ l, splL c l ≠ []
  | [] => by simp [splL]
  | d :: r => by
    unfold splL
    split
    · simp
    · split <;> simp
theorem spl1 (c : Nat) : ∀ (l acc : List Nat), TL.spl [c] 0 acc l = (match splL c l with
  | [] => []
  | p :: ps => (acc ++ p) :: ps)
  | [], acc => by simp [splL, TL.spl]
  | d :: r, acc => by
    by_cases e : d = c
    · rw [spl_hit (by rw [pre1]; simpa using e)]
      subst e
      rw [splL_hit]
      show acc :: TL.spl [d] 0 [] r = (acc ++ []) :: splL d r
      rw [spl1 d r []]
      have := splL_ne d r
      cases q : splL d r with
      | nil => contradiction
      | cons p ps => simp
    · rw [spl_miss (by rw [pre1]; simpa using e), spl1 c r (acc ++ [d]), splL_miss e]
      have := splL_ne c r
      cases q : splL c r with
      | nil => contradiction
      | cons p ps => simp
theorem split_txt (a : List Nat) (c : Nat) (hc : c < 128) : Txt.split (sS a) (sS [c]) = (splL c a).map sS := by
  refine map_tl_inj ?_
  rw [split_spl (sS a) (sS [c]) (by simp [tl_mk]) (kind_ok (by simp; omega)), List.map_map]
  show TL.spl [c] 0 [] a = List.map id _
  rw [spl1, List.map_id]
  have := splL_ne c a
  split
  · contradiction
  · simp_all
theorem splL_ok (c : Nat) : ∀ {l : List Nat}, okS l = true → ∀ p ∈ splL c l, okS p = true
  | [], _, p, m => by simp [splL] at m; subst m; rfl
  | d :: r, h, p, m => by
    have hd : okS [d] = true := by unfold okS at *; simp at *; exact h.1
    have hr : okS r = true := by unfold okS at *; simp at *; exact h.2
    have ih := splL_ok c hr
    unfold splL at m
    split at m
    · rcases List.mem_cons.mp m with e | m
      · subst e; rfl
      · exact ih p m
    · split at m
      · have e : p = [d] := by simpa using m
        subst e; exact hd
      · rename_i q qs e
        rcases List.mem_cons.mp m with e' | m
        · subst e'
          have := ih q (by rw [e]; simp)
          unfold okS at *
          simp at *
          exact ⟨hd, this⟩
        · exact ih p (by rw [e]; simp [m])
theorem fzl_strsI {K : PySem.W.Frag} : ∀ {ps : List (List Nat)}, (∀ p ∈ ps, okS p = true) → FzL K H F ((ps.map sS).map V.str) (ps.map P.str)
  | [], _ => .nil
  | p :: ps, h => .cons (.str (h p (by simp))) (fzl_strsI fun z m => h z (List.mem_cons_of_mem _ m))
theorem okS1 {c : Nat} (h : okS [c] = true) : c < 128 := by
  unfold okS at h; simpa using h
theorem sm_split : MtR X "str.split" (rM1 T W oSplit) := by
  intro pins s σ H v vs u us Q I rv rvs h
  obtain ⟨σ', st, μ, F, a, w, y, rfl, rfl, o, S, n, h⟩ := h
  unfold oSplit at h
  split at h
  · rename_i c
    obtain ⟨rfl, o2⟩ := nw_str n
    obtain ⟨hc, h⟩ := put_gd h
    refine mt_split pins s σ H _ _ u us Q I rv rvs ⟨sS a, sS [c], rfl, rfl, rfl, by simpa [Str.length, line_eq] using hc, ?_⟩
    rw [split_txt a c (okS1 o2)]
    exact fun p hp => put_l S h (fzl_strsI (splL_ok c o)) hp
  · exact h.elim
theorem par1 (c : Nat) : ∀ (l acc : List Nat), TL.par [c] acc l = (parL c l).map fun q => (acc ++ q.1, q.2)
  | [], acc => by simp [parL, TL.par]
  | d :: r, acc => by
    by_cases e : d = c
    · rw [par_hit (by rw [pre1]; simpa using e)]
      unfold parL
      rw [if_pos e]
      simp
    · rw [par_miss (by rw [pre1]; simpa using e), par1 c r (acc ++ [d])]
      conv => rhs; unfold parL
      rw [if_neg e]
      cases parL c r <;> simp
theorem parL_ok (c : Nat) : ∀ {l a b : List Nat}, okS l = true → parL c l = some (a, b) → okS a = true ∧ okS b = true
  | [], a, b, _, e => by simp [parL] at e
  | d :: r, a, b, h, e => by
    have hd : okS [d] = true := by unfold okS at *; simp at *; exact h.1
    have hr : okS r = true := by unfold okS at *; simp at *; exact h.2
    unfold parL at e
    split at e
    · cases e; exact ⟨rfl, hr⟩
    · cases q : parL c r with
      | none => rw [q] at e; cases e
      | some z =>
        rw [q] at e
        obtain ⟨x, y⟩ := z
        have i := parL_ok c hr q
        simp at e
        obtain ⟨rfl, rfl⟩ := e
        refine ⟨?_, i.2⟩
        have := i.1
        unfold okS at *
        simp at *
        exact ⟨hd, this⟩
theorem sm_partition : MtR X "str.partition" (rM1 T W oPartition) := by
  intro pins s σ H v vs u us Q I rv rvs h
  obtain ⟨σ', st, μ, F, a, w, y, rfl, rfl, o, S, n, h⟩ := h
  unfold oPartition at h
  split at h
  · rename_i c
    obtain ⟨rfl, o2⟩ := nw_str n
    obtain ⟨hc, h⟩ := put_gd h
    refine mt_partition pins s σ H _ _ u us Q I rv rvs ⟨sS a, sS [c], rfl, rfl, rfl, by simpa [Str.length, line_eq] using hc, fun p hp => ?_⟩
    have e := partition_par (sS a) (sS [c]) (by simp [tl_mk])
    rw [e]
    have e2 : TL.par (tl (sS [c])) [] (tl (sS a)) = (parL c a).map fun q => (q.1, q.2) := by
      show TL.par [c] [] a = _
      rw [par1]; simp
    rw [e2]
    cases q : parL c a with
    | none =>
      rw [q] at h
      exact put_tup (vs := [.str (sS a), .str (sS []), .str (sS [])]) S h (.cons (.str o) (.cons (.str rfl) (.cons (.str rfl) .nil))) hp
    | some z =>
      obtain ⟨x, y⟩ := z
      rw [q] at h
      have k := parL_ok c o q
      exact put_tup (vs := [.str (sS x), .str (sS [c]), .str (sS y)]) S h (.cons (.str k.1) (.cons (.str o2) (.cons (.str k.2) .nil))) hp
  · exact h.elim
theorem upC_all : (List.range 128).all (fun c => Unicode.upperOf c == [upC c]) = true := by decide +kernel
theorem upC_lt {c : Nat} (h : c < 128) : Unicode.upperOf c = [upC c] := by
  have := List.all_eq_true.mp upC_all c (List.mem_range.mpr h)
  simpa using this
theorem upper_txt {a : List Nat} (h : okS a = true) : Txt.upper (sS a) = sS (a.map upC) := by
  unfold okS at h
  simp only [List.all_eq_true, decide_eq_true_eq] at h
  have e1 : (a.toArray.mapIdx fun (i : Nat) (c : Nat) => (Unicode.upperOf c).toArray) = ((a.map upC).map fun c => #[c]).toArray := by
    apply Array.ext'
    simp only [List.mapIdx_toArray, List.map_map]
    have : ∀ (l : List Nat) (f : Nat → Nat → Array Nat) (g : Nat → Array Nat), (∀ i c, c ∈ l → f i c = g c) → l.mapIdx f = l.map g := by
      intro l
      induction l with
      | nil => intros; rfl
      | cons x xs ih =>
        intro f g q
        rw [List.mapIdx_cons, List.map_cons, q 0 x (by simp), ih _ g fun i c m => q (i + 1) c (List.mem_cons_of_mem _ m)]
    refine this a _ _ fun i c m => ?_
    rw [upC_lt (h c m)]
    rfl
  unfold Txt.upper placed
  rw [e1]
  refine congrArg Str.mk (Array.ext' ?_)
  simp only [Array.toList_flatten]
  generalize a.map upC = l
  induction l with
  | nil => rfl
  | cons x xs ih => simp at ih ⊢; exact ih
theorem okS_upper {a : List Nat} (h : okS a = true) : okS (a.map upC) = true := by
  unfold okS at *
  simp only [List.all_eq_true, decide_eq_true_eq, List.mem_map] at *
  rintro x ⟨c, m, rfl⟩
  have := h c m
  unfold upC
  split <;> omega
theorem sm_upper : MtR X "str.upper" (rM0 T W oUpper) := by
  intro pins s σ H v vs u us Q I rv rvs h
  obtain ⟨σ', st, μ, F, a, rfl, rfl, o, S, h⟩ := h
  unfold oUpper at h
  obtain ⟨hc, h⟩ := put_gd h
  refine mt_upper pins s σ H _ _ u us Q I rv rvs ⟨sS a, rfl, rfl, by simpa [Str.length] using hc, ?_⟩
  rw [upper_txt o]
  exact put_p S h (.str (okS_upper o))
end
end Pd
end

section -- PdCtl
set_option Elab.async false
set_option linter.all false
set_option maxRecDepth 100000
set_option maxHeartbeats 4000000
/-! PdCtl: methods that change lists, isinstance, tests, and, or, not, if-expressions, chains. -/
namespace Pd
open PySem PySem.Spec PyProof.Rows L2
section
variable {X : Cx} {T : Ct} {W : WX} {σ : L2.St} {H : Hp} {μ : List Addr} {F : Addr → Prop} {st : Sto} {pos : Pos}
/-! ### lists that change -/
theorem RSt.set {K : PySem.W.Frag} (s : RSt K H μ F st) {i : Nat} {a : Addr} {vs : List V} {xs : List P} (h : μ[i]? = some a) (r : FzL K H F vs xs) : RSt K (upd H a (.lst vs)) μ F (st.set i (.lst xs)) ∧ Ext H μ F (upd H a (.lst vs)) μ F := by
  have m : a ∈ μ := List.mem_of_getElem? h
  have e : Ext H μ F (upd H a (.lst vs)) μ F := ⟨fun b o q n => by rw [upd_ne (fun z => n (by rw [z]; exact m))]; exact q, fun _ h => h, fun _ h => .inl h, fun _ h => .inl h⟩
  refine ⟨⟨by simp [s.len], s.nd, s.sub, fun b f => ?_, fun j b o h1 h2 => ?_⟩, e⟩
  · by_cases hb : b = a
    · rw [hb, upd_same]; simp
    · rw [upd_ne hb]; exact s.live b f
  · by_cases hj : j = i
    · subst hj
      rw [h] at h1; cases h1
      have hl := (List.getElem?_eq_some_iff.mp h).1
      rw [s.len] at hl
      rw [List.getElem?_set_self hl] at h2
      cases h2
      exact ⟨vs, upd_same, FzL.mono e s.sub r⟩
    · rw [List.getElem?_set_ne (Ne.symm hj)] at h2
      have q := s.obj j b o h1 h2
      cases o with
      | gone => trivial
      | lst ys =>
        obtain ⟨ws, q1, q2⟩ := q
        have nb : b ≠ a := fun z => hj (nd_ix s.nd h1 (by rw [z]; exact h))
        exact ⟨ws, by rw [upd_ne nb]; exact q1, FzL.mono e s.sub q2⟩
/-- what a changing method's rule is handed -/
def rMt (T : Ct) (W : WX) (R : Hp → (Addr → Prop) → List V → List P → Prop) (g : List P → List P → Option (List P × P)) : V → List V → Hp → VK → Prop := fun v us H Q => ∃ σ st μ F i a ys vs xs, v = .ref a ∧ μ[i]? = some a ∧ st[i]? = some (.lst ys) ∧ H a = some (.lst vs) ∧ FzL T.K H F vs ys ∧
  RSt T.K H μ F st ∧ R H F us xs ∧ Post T W (rD T.K) σ H μ F Q (match g ys xs with
    | some (ys', z) => .ok (.p z) (st.set i (.lst ys'))
    | none => .bad)
theorem chg_post {g : List P → List P → Option (List P × P)} {d : D} {xs : List P} {v : V} {us : List V} {R : Hp → (Addr → Prop) → List V → List P → Prop} {Q : VK} (s : RSt T.K H μ F st) (r : RD T.K H μ F v d) (ru : R H F us xs) (h : Post T W (rD T.K) σ H μ F Q (chg g d xs st)) : rMt T W R g v us H Q := by
  unfold chg at h
  cases d with
  | p x => exact h.elim
  | r i =>
    obtain ⟨a, ha, rfl⟩ := r
    cases e : st[i]? with
    | none => simp only [e] at h; exact h.elim
    | some o =>
      cases o with
      | gone => simp only [e] at h; exact h.elim
      | lst ys =>
        simp only [e] at h
        obtain ⟨vs, q1, q2⟩ := s.obj i a _ ha e
        exact ⟨σ, st, μ, F, i, a, ys, vs, xs, rfl, ha, e, q1, q2, s, ru, h⟩
theorem isL_ty {d : D} {v : V} (s : RSt T.K H μ F st) (r : RD T.K H μ F v d) (h : isL d st = true) (K : PySem.W.Frag) : tyV K "list" v H := by
  unfold isL at h
  cases d with
  | p x => simp at h
  | r i =>
    obtain ⟨a, ha, rfl⟩ := r
    cases e : st[i]? with
    | none => simp [e] at h
    | some o =>
      cases o with
      | gone => simp [e] at h
      | lst ys =>
        obtain ⟨vs, q1, q2⟩ := s.obj i a _ ha e
        exact .inl ⟨rfl, vs, .of q1⟩
theorem se_mut {id : String} {name : Str} {o e : Expr} {es : List Expr} {apos : Pos} {g : List P → List P → Option (List P × P)} {f : FE} {fs : List FE} (slot : Slot "list" name id) (ty : typeOf (.builtin id) = pure (.type "method_descriptor")) (rule : MtR X id (rMt T W (fun H F us xs => NwL T.K H F us xs) g)) (ho : PE X o (tX T W (rD T.K) f)) (ha : PA X (e :: es) (tX T W (rDs T.K) (fAll fs)))
    (hbase : attributeBase o name X.env (eval o X.env) = eval o X.env := by rfl)
    (hfew : ((backTo pos (starEach (e :: es) X.env)).all (fun x => !x.1) && (backToKw pos (keywordEach [] X.env)).all (fun x => x.1.isSome)
      && decide ((e :: es).length + ([] : List Keyword).length + (if ([] : List Keyword).isEmpty then 0 else 1) < 30)) = true := by rfl)
    (hline : (apos.endLine == pos.line) = true := by rfl) (hs : starEach (e :: es) X.env = (false, eval e X.env) :: starEach es X.env := by rfl) (hplain : (backTo pos (starEach es X.env)).any (·.1) = false := by rfl) :
    PE X (.Call (.Attribute o name apos) (e :: es) [] pos) (tX T W (rD T.K) (eMut g f fs)) := PE.imp (pe_bm F.plainAttrs_list slot ty rule ho ha hbase hfew hline hs hplain) fun σ H Q h => by
  obtain ⟨ρ, st, μ, F, L, S, h⟩ := h
  have h := nrm_post S h
  refine ⟨ρ, st, μ, F, L, S, Post.bind S.sub h fun v H1 μ1 F1 d s1 _ a1 a2 a3 a4 h => ?_⟩
  split at h
  · refine ⟨isL_ty a2 a1 (by assumption) _, ρ, s1, μ1, F1, L.mono a3 S.sub a4, a2, Post.bind a2.sub h fun us H2 μ2 F2 ds s2 _ b1 b2 b3 b4 h => ?_⟩
    cases e : asPs ds s2 with
    | none => rw [e] at h; exact h.elim
    | some xs =>
      rw [e] at h
      exact chg_post b2 (a1.mono b3 a2.sub b4) (nows_of b2 b1 e) h
  · exact h.elim
theorem se_mut0 {id : String} {name : Str} {o : Expr} {apos : Pos} {g : List P → List P → Option (List P × P)} {f : FE} (slot : Slot "list" name id) (ty : typeOf (.builtin id) = pure (.type "method_descriptor")) (rule : MtR X id (rMt T W (fun H F us xs => NwL T.K H F us xs) g)) (ho : PE X o (tX T W (rD T.K) f))
    (hbase : attributeBase o name X.env (eval o X.env) = eval o X.env := by rfl) (hline : (apos.endLine == pos.line) = true := by rfl) :
    PE X (.Call (.Attribute o name apos) [] [] pos) (tX T W (rD T.K) (eMut g f [])) := PE.imp (pe_bm0 F.plainAttrs_list slot ty rule ho hbase hline) fun σ H Q h => by
  obtain ⟨ρ, st, μ, F, L, S, h⟩ := h
  have h := nrm_post S h
  refine ⟨ρ, st, μ, F, L, S, Post.bind S.sub h fun v H1 μ1 F1 d s1 _ a1 a2 a3 a4 h => ?_⟩
  split at h
  · exact ⟨isL_ty a2 a1 (by assumption) _, chg_post a2 a1 .nil h⟩
  · exact h.elim
theorem se_app {id : String} {name : Str} {o e : Expr} {apos : Pos} {g : List P → List P → Option (List P × P)} {f f' : FE} (slot : Slot "list" name id) (ty : typeOf (.builtin id) = pure (.type "method_descriptor")) (rule : MtR X id (rMt T W (fun H F us xs => FzL T.K H F us xs) g)) (ho : PE X o (tX T W (rD T.K) f)) (ha : PA X [e] (tX T W (rPs T.K) (fItems [(false, f')])))
    (hbase : attributeBase o name X.env (eval o X.env) = eval o X.env := by rfl)
    (hfew : ((backTo pos (starEach [e] X.env)).all (fun x => !x.1) && (backToKw pos (keywordEach [] X.env)).all (fun x => x.1.isSome)
      && decide ([e].length + ([] : List Keyword).length + (if ([] : List Keyword).isEmpty then 0 else 1) < 30)) = true := by rfl)
    (hline : (apos.endLine == pos.line) = true := by rfl) (hs : starEach [e] X.env = (false, eval e X.env) :: starEach [] X.env := by rfl) (hplain : (backTo pos (starEach [] X.env)).any (·.1) = false := by rfl) :
    PE X (.Call (.Attribute o name apos) [e] [] pos) (tX T W (rD T.K) (eApp g f f')) := PE.imp (pe_bm F.plainAttrs_list slot ty rule ho ha hbase hfew hline hs hplain) fun σ H Q h => by
  obtain ⟨ρ, st, μ, F, L, S, h⟩ := h
  have h := nrm_post S h
  refine ⟨ρ, st, μ, F, L, S, Post.bind S.sub h fun v H1 μ1 F1 d s1 _ a1 a2 a3 a4 h => ?_⟩
  split at h
  · refine ⟨isL_ty a2 a1 (by assumption) _, ρ, s1, μ1, F1, L.mono a3 S.sub a4, a2, Post.bind a2.sub h fun us H2 μ2 F2 xs s2 _ b1 b2 b3 b4 h => ?_⟩
    exact chg_post b2 (a1.mono b3 a2.sub b4) b1 h
  · exact h.elim
theorem sl_append : MtR X "list.append" (rMt T W (fun H F us xs => FzL T.K H F us xs) mAppend) := by
  intro pins s σ H v us u ws Q I rv rvs h
  obtain ⟨σ', st, μ, F, i, a, ys, vs, xs, rfl, hi, he, hH, l, S, r, h⟩ := h
  unfold mAppend at h
  split at h
  · rename_i ys' z e
    split at e
    · rename_i x
      obtain ⟨hc, e⟩ := gd_some e
      cases e
      cases r with
      | cons r t =>
        cases t
        rename_i uv
        have q := S.set hi (l.append (.cons r .nil))
        exact mt_append pins s σ H _ _ u ws Q I rv rvs ⟨a, vs, _, rfl, rfl, hH, by rw [l.length, line_eq]; exact hc, h _ _ _ _ .non q.1 q.2 (List.prefix_refl _)⟩
    · cases e
  · exact h.elim
theorem sl_extend : MtR X "list.extend" (rMt T W (fun H F us xs => NwL T.K H F us xs) mExtend) := by
  intro pins s σ H v us u ws Q I rv rvs h
  obtain ⟨σ', st, μ, F, i, a, ys, vs, xs, rfl, hi, he, hH, l, S, r, h⟩ := h
  unfold mExtend at h
  split at h
  · rename_i ys' z e
    split at e
    · rename_i x
      obtain ⟨hc, e⟩ := gd_some e
      cases e
      obtain ⟨w, rfl, r'⟩ := nwl1 r
      obtain ⟨b, bs, rfl, t, l2⟩ := nw_lst r'
      have q := S.set hi (l.append l2)
      exact mt_extend pins s σ H _ _ u ws Q I rv rvs ⟨a, b, vs, bs, rfl, rfl, hH, t, by rw [l.length, l2.length, line_eq]; exact hc, h _ _ _ _ .non q.1 q.2 (List.prefix_refl _)⟩
    · cases e
  · exact h.elim
theorem sl_reverse : MtR X "list.reverse" (rMt T W (fun H F us xs => NwL T.K H F us xs) mReverse) := by
  intro pins s σ H v us u ws Q I rv rvs h
  obtain ⟨σ', st, μ, F, i, a, ys, vs, xs, rfl, hi, he, hH, l, S, r, h⟩ := h
  unfold mReverse at h
  split at h
  · rename_i ys' z e
    split at e
    · cases e
      cases r
      have q := S.set hi l.reverse
      exact mt_reverse pins s σ H _ _ u ws Q I rv rvs ⟨a, vs, rfl, rfl, hH, h _ _ _ _ .non q.1 q.2 (List.prefix_refl _)⟩
    · cases e
  · exact h.elim
theorem sl_pop : MtR X "list.pop" (rMt T W (fun H F us xs => NwL T.K H F us xs) mPop) := by
  intro pins s σ H v us u ws Q I rv rvs h
  obtain ⟨σ', st, μ, F, i, a, ys, vs, xs, rfl, hi, he, hH, l, S, r, h⟩ := h
  unfold mPop at h
  split at h
  · rename_i ys' z e
    split at e
    · cases r
      cases e1 : ys[ys.length - 1]? with
      | none => rw [e1] at e; cases e
      | some y =>
        rw [e1] at e
        cases e
        obtain ⟨w, h1, h2⟩ := l.get e1
        have q := S.set hi l.dropLast
        exact mt_pop pins s σ H _ _ u ws Q I rv rvs ⟨a, vs, w, rfl, rfl, hH, by rw [l.length]; exact h1, h _ _ _ _ (h2.mono q.2 S.sub) q.1 q.2 (List.prefix_refl _)⟩
    · rename_i k
      obtain ⟨w, rfl, r'⟩ := nwl1 r
      cases nw_int r'
      cases e0 : Pd.ixN ys.length k with
      | none => rw [e0] at e; cases e
      | some j =>
        rw [e0] at e
        simp only [Option.bind_some] at e
        cases e1 : ys[j]? with
        | none => rw [e1] at e; cases e
        | some y =>
          rw [e1] at e
          cases e
          obtain ⟨w, h1, h2⟩ := l.get e1
          have q := S.set hi (l.eraseIdx j)
          have hx := L2.ixN_seq (show L2.ixN ys.length k = some j from e0)
          have hz : vs.length ≤ sizeLine := (I.hok a _ hH).1
          have e63 := line63
          rw [l.length] at hz
          exact mt_popAt pins s σ H _ _ u ws Q I rv rvs ⟨a, vs, k, j, w, rfl, rfl, hH, by omega, by omega, by rw [l.length]; exact hx.1, h1, h _ _ _ _ (h2.mono q.2 S.sub) q.1 q.2 (List.prefix_refl _)⟩
    · cases e
  · exact h.elim
/-! ### isinstance -/
def tyName : P → String
  | .non => "NoneType" | .bl _ => "bool" | .int _ => "int" | .str _ => "str" | .tup _ => "tuple" | .lst _ => "list" | .ro _ => "list"
theorem nw_ty {K : PySem.W.Frag} {v : V} {x : P} (h : Nw K H F v x) : TyX K H v (.type (tyName x)) := by
  have seqT : ∀ {a : Addr} {vs : List V}, Tf K H F a vs → TyX K H (.ref a) (.type "tuple") := fun {a vs} t => by
    rcases t.sq with (h | ⟨o, h⟩) | ⟨o, its, n, h1, h2, _⟩
    · exact .base (.tup h)
    · exact .fTuple h
    · exact .kTuple h1 h2
  have seqL : ∀ {a : Addr} {vs : List V}, Lf K H F a vs → TyX K H (.ref a) (.type "list") := fun {a vs} t => by
    rcases t.sq with (h | ⟨o, h⟩) | ⟨o, its, n, h1, h2, _⟩
    · exact .base (.lst h)
    · exact .base (.frz h)
    · exact .kList h1 h2
  rcases h with h | ⟨a, vs, xs, rfl, rfl, h1, h2⟩
  · cases h with
    | non => exact .base .non
    | bl b => exact .base (.bl b)
    | int i => exact .base (.int i)
    | str o => exact .base (.str _)
    | tup t l => exact seqT t
    | lst h n l => exact .base (.lst h)
    | ro t l => exact seqL t
  · exact .base (.lst h1)
def Ty.name : Ty → String
  | .int => "int" | .str => "str" | .tuple => "tuple" | .list => "list" | .bool => "bool"
theorem kit_isT (t : Ty) (x : P) : kitB (tyName x) t.name = some (isT t x) := by
  cases t <;> cases x <;> simp only [tyName, Ty.name, isT] <;> decide +kernel
theorem se_isT {e : Expr} {f : FE} (t : Ty) {p p2 : Pos} {ty : Str} (hK : X.K = T.K) (hm : X.mg "isinstance" = none) (ht : X.mg ty = none) (hv : bootBuiltins ty = some (.type t.name)) (he : PE X e (tX T W (rD T.K) f)) (hg : Gl X "isinstance" := by rfl) (hgt : Gl X ty := by rfl)
    (n1 : ty ≠ "__name__" := by decide) (n2 : (ty == ("__debug__" : Str)) = false := by decide) (hs : starEach (e :: [.Name ty p2]) X.env = (false, eval e X.env) :: starEach [.Name ty p2] X.env := by rfl) :
    PE X (.Call (.Name "isinstance" p) [e, .Name ty p2] [] pos) (tX T W (rD T.K) (e1 (oIsT t) f)) :=
  PE.imp (pe_callB call_isi hg hm PyProof.Rows.boot_isinstance (pa_cons he (pa_cons (pe_bltn (v := .ty t.name) hgt ht hv rfl n1 n2) pa_nil) hs) (he := hs)) fun σ H Q h => by
    obtain ⟨σ1, h⟩ : ∃ s : Unit, tUn (r1 T W (oIsT t)) (tX T W (rD T.K) f) σ H Q := ⟨(), e1_reads h⟩
    obtain ⟨ρ, st, μ, F, L, S, h⟩ := h
    refine ⟨ρ, st, μ, F, L, S, Post.mono (fun v H1 h => ?_) h⟩
    obtain ⟨σ', st', μ', F', x, S', n, h⟩ := h
    refine ⟨v, .ty t.name, _, _, isT t x, rfl, .ty _, by rw [hK]; exact nw_ty n, kit_ty (kit_isT t x), put_p S' h (.bl _)⟩
/-! ### tests -/
theorem tOf_reads {f : FE} {Q : Bool → Hp → Prop} (h : tX T W rB (tOf f) σ H Q) : tX T W (rD T.K) f σ H (fun x H1 => ∃ k, x = .bl k ∧ Q k H1) := by
  obtain ⟨ρ, st, μ, F, L, S, h⟩ := h
  refine ⟨ρ, st, μ, F, L, S, nrm_post S (Post.bind S.sub h fun v H1 μ1 F1 d s1 _ a1 a2 a3 a4 h => ?_)⟩
  split at h
  · rename_i b _
    cases (show Fz T.K H1 F1 v (.bl b) from a1)
    exact ⟨b, rfl, h b H1 μ1 F1 rfl a2 (Ext.refl _ _ _) (List.prefix_refl _)⟩
  · exact h.elim
variable {a b c e : Expr} {fa fb fc f : FE} {ft fu : FT} {cop cop' : CmpOp} {g g' : P → P → Option NV} {rest : List Expr}
theorem st_cmp (ho : OpR X (compareOp cop) (r2 T W g)) (ha : PE X a (tX T W (rD T.K) fa)) (hb : PE X b (tX T W (rD T.K) fb)) (hm : behindInMarks cop b = false := by first | exact nomark _ | rfl) : PT X (.Compare a [cop] [b] pos) (tX T W rB (tOf (e2 g fa fb))) :=
  PT.imp (pt_cmpR ho ha hb hm) fun _ _ _ h => e2_reads (tOf_reads h)
theorem st_val (he : PE X e (tX T W (rD T.K) f)) (h : ∀ whole, isTrue e X.env whole = (do let v ← whole; standAt e.pos; holding [v] (truthy v)) := by intro _; rfl) : PT X e (tX T W rB (tOf f)) := PT.imp (pt_val he h) fun _ _ _ h => tOf_reads h
theorem PW.imp {e : Expr} {t t' : TT} (h : PW X e t) (i : ∀ σ H Q, t' σ H Q → t σ H Q) : PW X e t' := ⟨fun wh pins s σ H Q I q => h.run wh pins s σ H Q I (i _ _ _ q)⟩
theorem sw_and1 (ha : PT X a (tX T W rB ft)) : PW X (.BoolOp .And [a] pos) (tX T W rB ft) := pw_and1 ha
theorem sw_or1 (ha : PT X a (tX T W rB ft)) : PW X (.BoolOp .Or [a] pos) (tX T W rB ft) := pw_or1 ha
theorem ifb {c : Bool} {P1 P2 : Prop} (h1 : c = true → P1) (h2 : c = false → P2) : if c = true then P1 else P2 := by
  cases c
  · exact h2 rfl
  · exact h1 rfl
theorem sw_and (ha : PT X a (tX T W rB ft)) (hb : PW X (.BoolOp .And (b :: rest) pos) (tX T W rB fu)) : PW X (.BoolOp .And (a :: b :: rest) pos) (tX T W rB (Pd.tAnd ft fu)) := PW.imp (pw_and ha hb) fun σ H Q h => by
  obtain ⟨ρ, st, μ, F, L, S, h⟩ := h
  refine ⟨ρ, st, μ, F, L, S, Post.bind (R1 := rB) S.sub h fun k H1 μ1 F1 k' s1 _ a1 a2 a3 a4 h => ?_⟩
  cases a1
  refine ifb (fun e => ?_) fun e => ?_
  · subst e
    exact ⟨ρ, s1, μ1, F1, L.mono a3 S.sub a4, a2, h⟩
  · subst e
    exact h false H1 μ1 F1 rfl a2 (Ext.refl _ _ _) (List.prefix_refl _)
theorem sw_or (ha : PT X a (tX T W rB ft)) (hb : PW X (.BoolOp .Or (b :: rest) pos) (tX T W rB fu)) : PW X (.BoolOp .Or (a :: b :: rest) pos) (tX T W rB (Pd.tOr ft fu)) := PW.imp (pw_or ha hb) fun σ H Q h => by
  obtain ⟨ρ, st, μ, F, L, S, h⟩ := h
  refine ⟨ρ, st, μ, F, L, S, Post.bind (R1 := rB) S.sub h fun k H1 μ1 F1 k' s1 _ a1 a2 a3 a4 h => ?_⟩
  cases a1
  refine ifb (fun e => ?_) fun e => ?_
  · subst e
    exact h true H1 μ1 F1 rfl a2 (Ext.refl _ _ _) (List.prefix_refl _)
  · subst e
    exact ⟨ρ, s1, μ1, F1, L.mono a3 S.sub a4, a2, h⟩
theorem st_not (ha : PT X a (tX T W rB ft)) : PT X (.UnaryOp .Not a pos) (tX T W rB (Pd.tNot ft)) := PT.imp (pt_not ha) fun σ H Q h => by
  obtain ⟨ρ, st, μ, F, L, S, h⟩ := h
  refine ⟨ρ, st, μ, F, L, S, Post.bind (R1 := rB) S.sub h fun k H1 μ1 F1 k' s1 _ a1 a2 a3 a4 h => ?_⟩
  cases a1
  exact h _ H1 μ1 F1 rfl a2 (Ext.refl _ _ _) (List.prefix_refl _)
/-! ### and, or, not as values -/
theorem se_one {op : BoolOp} (h : PE X a (tX T W (rD T.K) f)) : PE X (.BoolOp op [a] pos) (tX T W (rD T.K) f) := pe_one h
theorem se_and (ha : PE X a (tX T W (rD T.K) fa)) (hb : PE X (.BoolOp .And (b :: rest) pos) (tX T W (rD T.K) fb)) : PE X (.BoolOp .And (a :: b :: rest) pos) (tX T W (rD T.K) (eAnd fa fb)) := PE.imp (pe_and ha hb) fun σ H Q h => by
  obtain ⟨ρ, st, μ, F, L, S, h⟩ := h
  refine ⟨ρ, st, μ, F, L, S, Post.bind (R1 := rD T.K) S.sub h fun v H1 μ1 F1 d s1 _ a1 a2 a3 a4 h => ?_⟩
  split at h
  · rename_i k _
    cases (show Fz T.K H1 F1 v (.bl k) from a1)
    refine ⟨k, rfl, ifb (fun e => ?_) fun e => ?_⟩
    · subst e
      exact ⟨ρ, s1, μ1, F1, L.mono a3 S.sub a4, a2, h⟩
    · subst e
      exact h (.bl false) H1 μ1 F1 (.bl false) a2 (Ext.refl _ _ _) (List.prefix_refl _)
  · exact h.elim
theorem se_or (ha : PE X a (tX T W (rD T.K) fa)) (hb : PE X (.BoolOp .Or (b :: rest) pos) (tX T W (rD T.K) fb)) : PE X (.BoolOp .Or (a :: b :: rest) pos) (tX T W (rD T.K) (eOr fa fb)) := PE.imp (pe_or ha hb) fun σ H Q h => by
  obtain ⟨ρ, st, μ, F, L, S, h⟩ := h
  refine ⟨ρ, st, μ, F, L, S, Post.bind (R1 := rD T.K) S.sub h fun v H1 μ1 F1 d s1 _ a1 a2 a3 a4 h => ?_⟩
  split at h
  · rename_i k _
    cases (show Fz T.K H1 F1 v (.bl k) from a1)
    refine ⟨k, rfl, ifb (fun e => ?_) fun e => ?_⟩
    · subst e
      exact h (.bl true) H1 μ1 F1 (.bl true) a2 (Ext.refl _ _ _) (List.prefix_refl _)
    · subst e
      exact ⟨ρ, s1, μ1, F1, L.mono a3 S.sub a4, a2, h⟩
  · exact h.elim
theorem se_not (ha : PE X a (tX T W (rD T.K) fa)) : PE X (.UnaryOp .Not a pos) (tX T W (rD T.K) (eNot fa)) := PE.imp (pe_not ha) fun σ H Q h => by
  obtain ⟨ρ, st, μ, F, L, S, h⟩ := h
  refine ⟨ρ, st, μ, F, L, S, Post.bind (R1 := rD T.K) S.sub h fun v H1 μ1 F1 d s1 _ a1 a2 a3 a4 h => ?_⟩
  split at h
  · rename_i k _
    cases (show Fz T.K H1 F1 v (.bl k) from a1)
    exact ⟨k, rfl, h (.bl (!k)) H1 μ1 F1 (.bl (!k)) a2 (Ext.refl _ _ _) (List.prefix_refl _)⟩
  · exact h.elim
theorem se_if (hc : PT X c (tX T W rB ft)) (ha : PE X a (tX T W (rD T.K) fa)) (hb : PE X b (tX T W (rD T.K) fb)) : PE X (.IfExp c a b pos) (tX T W (rD T.K) (eIf ft fa fb)) := PE.imp (pe_ifExp hc ha hb) fun σ H Q h => by
  obtain ⟨ρ, st, μ, F, L, S, h⟩ := h
  refine ⟨ρ, st, μ, F, L, S, Post.bind (R1 := rB) S.sub h fun k H1 μ1 F1 k' s1 _ a1 a2 a3 a4 h => ?_⟩
  cases a1
  refine ifb (fun e => ?_) fun e => ?_
  · subst e
    exact ⟨ρ, s1, μ1, F1, L.mono a3 S.sub a4, a2, h⟩
  · subst e
    exact ⟨ρ, s1, μ1, F1, L.mono a3 S.sub a4, a2, h⟩
theorem chain_reads {Q : VK} (h : tX T W (rD T.K) (eChain g g' fa fb fc) σ H Q) : tChain (r2 T W g) (r2 T W g') (tX T W (rD T.K) fa) (tX T W (rD T.K) fb) (tX T W (rD T.K) fc) σ H Q := by
  obtain ⟨ρ, st, μ, F, L, S, h⟩ := h
  have h := nrm_post S h
  refine ⟨ρ, st, μ, F, L, S, Post.bind S.sub h fun v1 H1 μ1 F1 d1 s1 _ a1 a2 a3 a4 h => ?_⟩
  have L1 := L.mono a3 S.sub a4
  refine ⟨ρ, s1, μ1, F1, L1, a2, Post.bind a2.sub h fun v2 H2 μ2 F2 d2 s2 _ b1 b2 b3 b4 h => ?_⟩
  have L2 := L1.mono b3 a2.sub b4
  have a1 := RD.mono b3 a2.sub b4 a1
  cases e1 : asP d1 s2 with
  | none => rw [e1] at h; exact h.elim
  | some x =>
    cases e2 : asP d2 s2 with
    | none => rw [e1, e2] at h; exact h.elim
    | some y =>
      rw [e1, e2] at h
      simp only at h
      cases e3 : g x y with
      | none => rw [e3] at h; exact h.elim
      | some z =>
        rw [e3] at h
        have base : ∀ k : Bool, z = .p (.bl k) → (∀ H' μ' F', RSt T.K H' μ' F' s2 → Ext H2 μ2 F2 H' μ' F' → μ2 <+: μ' → (∃ k', V.bl k = .bl k' ∧ if k' = true then tX T W (rD T.K) fc σ H' (fun w' H4 => r2 T W g' v2 w' H4 Q) else Q (.bl false) H')) →
            r2 T W g v1 v2 H2 (fun z H3 => ∃ k, z = .bl k ∧ if k = true then tX T W (rD T.K) fc σ H3 (fun w' H4 => r2 T W g' v2 w' H4 Q) else Q (.bl false) H3) := by
          rintro k rfl hk
          refine ⟨σ, s2, μ2, F2, x, y, b2, now_of b2 a1 e1, now_of b2 b1 e2, ?_⟩
          rw [e3]
          intro v H' μ' F' h1 h2 h3 h4
          cases (show Fz T.K H' F' v (.bl k) from h1)
          exact hk H' μ' F' h2 h3 h4
        cases z with
        | l xs => exact h.elim
        | p w =>
          cases w with
          | bl k =>
            cases k with
            | true =>
              refine base true rfl fun H' μ' F' h2 h3 h4 => ⟨true, rfl, ?_⟩
              rw [if_pos rfl]
              have h : Post T W (rD T.K) σ H2 μ2 F2 Q ((fc ρ s2).bind fun d3 s3 => match asP d2 s3, asP d3 s3 with
                | some y', some z => putO (g' y' z) s3
                | _, _ => .bad) := h
              have h' := h.ext b2.sub h3 h4
              refine ⟨ρ, s2, μ', F', L2.mono h3 b2.sub h4, h2, Post.bind h2.sub h' fun v3 H3 μ3 F3 d3 s3 _ c1 c2 c3 c4 h => ?_⟩
              have b1 := RD.mono c3 h2.sub c4 (RD.mono h3 b2.sub h4 b1)
              cases e4 : asP d2 s3 with
              | none => rw [e4] at h; exact h.elim
              | some y' =>
                cases e5 : asP d3 s3 with
                | none => rw [e4, e5] at h; exact h.elim
                | some z =>
                  rw [e4, e5] at h
                  exact ⟨σ, s3, μ3, F3, y', z, c2, now_of c2 b1 e4, now_of c2 c1 e5, h⟩
            | false =>
              refine base false rfl fun H' μ' F' h2 h3 h4 => ⟨false, rfl, ?_⟩
              rw [if_neg (by decide)]
              have h : Post T W (rD T.K) σ H2 μ2 F2 Q (.ok (.p (.bl false)) s2) := h
              exact h (.bl false) H' μ' F' (.bl false) h2 h3 h4
          | _ => exact h.elim
theorem se_chain (ho : OpR X (compareOp cop) (r2 T W g)) (ho' : OpR X (compareOp cop') (r2 T W g')) (ha : PE X a (tX T W (rD T.K) fa)) (hb : PE X b (tX T W (rD T.K) fb)) (hc : PE X c (tX T W (rD T.K) fc)) (hm : behindInMarks cop' c = false := by first | exact nomark _ | rfl) :
    PE X (.Compare a [cop, cop'] [b, c] pos) (tX T W (rD T.K) (eChain g g' fa fb fc)) := PE.imp (pe_chain ho ho' ha hb hc hm) fun _ _ _ => chain_reads
end
end Pd
end

section -- PdComp
set_option Elab.async false
set_option linter.all false
set_option maxRecDepth 100000
set_option maxHeartbeats 8000000
/-! PdComp: exceptions in the air of a frame or of a comprehension's block; list comprehensions whose element may raise. -/
namespace Pd
open PySem PySem.Spec PyProof.Rows L2
/-! ### an exception in the air, over the frame L -/
/-- as the layer's XE, but the frame that may have noted it is named -/
def XB (X : Cx) (L : Addr) (W : WX) (u : Value) (s' : Shared) : Prop :=
  ∃ (a : Addr) (B : Heap) (sI : Shared) (pins : List (Addr × Obj)) (σ : L2.St) (H : Hp) (cls : Value) (d : Option Addr),
    u = .ref a ∧ Inv X pins σ H sI ∧ (∀ b o, sI.heap.get? b = some o → b ∉ frs X.stack → B.get? b = some o) ∧ sI.heap.UpToSlots s'.heap ∧
      Sky B X.stack a (Zc cls d) L s'.heap ∧ H a = none ∧ s'.os = sI.os ∧ AllBare s'.gens ∧ W cls d σ H
def TakesB (X : Cx) (L : Addr) (W : WX) : Prop := ∀ u s', XB X L W u s' → X.xe u s'
/-- the frame of the code at hand -/
structure Lv (X : Cx) (L : Addr) : Prop where
  stk : ∃ e0 o0, X.stack = e0 :: o0 ∧ e0.frame = some L
  fr : X.env.frame = some L
theorem takesB_def {X : Cx} {W : WX} (t : Takes X W) : TakesB X X.env.locals W := t
theorem takesB_imp {X : Cx} {L : Addr} {W W' : WX} (t : TakesB X L W) (h : ∀ c d σ H, W' c d σ H → W c d σ H) : TakesB X L W' := fun u s' ⟨a, B, sI, pins, σ, H, cls, d, e, I, nb, up, sky, na, os, ag, w⟩ =>
  t u s' ⟨a, B, sI, pins, σ, H, cls, d, e, I, nb, up, sky, na, os, ag, h _ _ _ _ w⟩
section
variable {X : Cx} {pins : List (Addr × Obj)} {σ : L2.St} {H : Hp} {s s' : Shared} {W : WX} {E : XK}
/-- a call's exception -/
theorem xb_call {L : Addr} (I : Inv X pins σ H s) (hW : ∀ cls d H', E cls d H' → W cls d σ H') {u : Value} (c : L2.CX X.prog X.w X.stack H s E u s') : XB X L W u s' := by
  obtain ⟨a, B, H', cls, d, rfl, fl, hok, ub, na, os, ag, hE⟩ := c
  obtain ⟨G, g1, g2⟩ := restrict s'.heap fun b => (B.get? b).isSome || decide (b ∈ frs X.stack)
  have stB : B.StaysIn s'.heap := fl.1
  have inG : ∀ b o, B.get? b = some o → G.get? b = some o := fun b o e => (g1 b (by simp [e])).trans (stB b o e)
  have frG : ∀ b, b ∈ frs X.stack → G.get? b = s'.heap.get? b := fun b m => g1 b (by simp [m])
  have outG : ∀ b o, G.get? b = some o → s'.heap.get? b = some o ∧ ((B.get? b).isSome = true ∨ b ∈ frs X.stack) := fun b o e => by
    cases q : ((B.get? b).isSome || decide (b ∈ frs X.stack)) with
    | false => rw [g2 b q] at e; cases e
    | true => exact ⟨by rw [← g1 b q]; exact e, by simpa [Bool.or_eq_true] using q⟩
  have J : Inv X pins σ H' { s with heap := G, gens := s'.gens, drawn := s'.drawn, toks := s'.toks } := by
    refine I.call (ch := []) ⟨fun b o e n m _ => inG b o (ub.keep b o e n m), fun b o e n m _ => ?_, fun b o e n _ => ub.free b o e n, fun b o e _ => ?_, ub.tups, ub.frzs, ub.tbls⟩ (hok.kept inG) ag fun _ z => nomatch z
    · obtain ⟨sl, q⟩ := ub.slot b o e m
      exact ⟨sl, (frG b m).trans q⟩
    · by_cases m : b ∈ frs X.stack
      · obtain ⟨sl, q⟩ := ub.slot b o e m
        exact ⟨_, (frG b m).trans q⟩
      · obtain ⟨o', q⟩ := ub.there b o e m
        exact ⟨o', inG b o' q⟩
  refine ⟨a, B, _, pins, σ, H', cls, d, rfl, J, fun b o e m => ?_, Heap.UpToSlots.of_keeps fun b o e => (outG b o e).1, .inr (.inl fl), na, os, ag, hW _ _ _ hE⟩
  obtain ⟨e', h⟩ := outG b o e
  rcases h with h | h
  · obtain ⟨o', q⟩ := Option.isSome_iff_exists.mp h
    have z := stB b o' q
    rw [e'] at z; cases z
    exact q
  · exact absurd h m
/-- what a callee lets out is taken, at the slots as they stand -/
theorem passB {L : Addr} (tk : TakesB X L W) (σ : L2.St) : PassesAt (L2.CX X.prog X.w) X σ (WE W σ) := fun _ _ _ e s' I c => tk e s' (xb_call I (fun _ _ _ h => h) c)
end
/-! ### the block of a comprehension -/
section
variable {X : Cx} {pins : List (Addr × Obj)} {σ : L2.St} {H : Hp} {s : Shared}
/-- the context of a block with a wish about exceptions -/
abbrev blkX (X : Cx) (s : Shared) (H : Hp) (scope : Scope) (cenv : Env) (fp : List Addr) (xe : Value → Shared → Prop) : Cx := (X.blk s H scope cenv fp).wish xe
/-- the flight's objects are not the block's names -/
theorem traced_sb {h h' base : Heap} {e C : Addr} {Z : Obj → Prop} {fl : Value} {m : Str → Option Value} (hn : h.Ns C m) (sb : Heap.SameBut C h h') (t : HandSPX.TracedZ h base e Z fl) : HandSPX.TracedZ h' base e Z fl := by
  obtain ⟨oe, vs, T, oT, ts, he, hz, hd, h1, nT, Te, hT, hdT, h3⟩ := t
  obtain ⟨oC, es, ep, hC, hdC, _⟩ := hn
  have ne : ∀ {b : Addr} {o : Obj} {fs : Array Value}, h.get? b = some o → o.data = .fields fs → b ≠ C := fun {b o fs} e d z => by
    subst z
    rw [hC] at e; cases e
    rw [hdC] at d; cases d
  exact ⟨oe, vs, T, oT, ts, (sb.2 e (ne he hd)).trans he, hz, hd, h1, nT, Te, (sb.2 T (ne hT hdT)).trans hT, hdT, h3⟩
theorem held_less {B B' h : Heap} {l : List Env} {a L : Addr} {Z : Obj → Prop} (f : ∀ b o, B'.get? b = some o → B.get? b = some o) (x : HandSPX.HeldZ B l a Z L h) : HandSPX.HeldZ B' l a Z L h := by
  have no : ∀ b, B.get? b = none → B'.get? b = none := fun b e => by
    cases q : B'.get? b with
    | none => rfl
    | some o => rw [f b o q] at e; cases e
  obtain ⟨k1, k2, k3, oe, vs, T, oT, ts, he, hz, hd, h1, nT, r⟩ := x
  refine ⟨fun b o e => k1 b o (f b o e), no a k2, funFrames_none k3 fun L' hL => no L' ?_, oe, vs, T, oT, ts, he, hz, hd, h1, no T nT, r⟩
  exact (k3.mem hL).1
/-- an exception leaves a block -/
theorem block_out {L : Addr} {W : WX} {scope : Scope} {C : Addr} {cl : List (Str × Addr)} {fp : List Addr} {s3 : Shared} {H3 : Hp} {xe : Value → Shared → Prop} (lv : Lv X L) (tk : TakesB X L W) (I3 : Inv X pins σ H3 s3)
    (f3 : ∀ b ∈ fp, FpOk X pins H3 b ∧ b < s3.heap.objs.size) (hC : C = s3.heap.objs.size) {u : Value} {s' : Shared} (x : XB (blkX X s3 H3 scope (compEnvC scope cl C X.env) fp xe) L (fun cls d _ H' => W cls d σ H') u s') :
    notedBy (model X.prog X.w) X.A (compEnvC scope cl C X.env) (CompFails (model X.prog X.w) X.A X.xe (compEnvC scope cl C X.env)) u s' := by
  obtain ⟨a, B, sI, pins', σ', H', cls, d, rfl, I, nb, up, sky, na, os, ag, w⟩ := x
  obtain ⟨e0, o0, hst, hf0⟩ := lv.stk
  have hfr : X.A.frames = some (e0 :: o0) := by rw [I3.ok.frames, hst]
  have sky : Sky B (e0 :: o0) a (Zc cls d) L s'.heap := by rw [← hst]; exact sky
  have hce : (compEnvC scope cl C X.env).frame = some L := lv.fr
  have hC0 : H' C = none := I.free
  -- the state ahead of the exception, in the def's context, without the block's names
  have J : Inv X pins σ H' sI := I3.call' (ch := fp) I.os I.base I.hok I.bare fun b hb => ⟨(f3 b hb).1.2.2.2.1, (f3 b hb).1.2.1, (f3 b hb).1.2.2.2.2.1, (f3 b hb).1.2.2.2.2.2⟩
  have fC : FpOk X pins H' C := I3.fpOk (Nat.le_of_eq hC.symm) hC0
  obtain ⟨f0, f1, f2, f3', f4, f5⟩ := fC
  have hidG : ∀ {h : Heap} {b : Addr} {o : Obj}, h.get? b = some o → b ≠ C → (PySem.W.hideAll h [C]).get? b = some o := fun {h b o} e n => PySem.W.hideAll_get _ e (by simpa using n)
  have J2 : Inv X pins σ H' { sI with heap := PySem.W.hideAll sI.heap [C] } := J.turned (t' := sI.toks) (fun b o n e => hidG e n) f0 f1 f3' f4 f5
  obtain ⟨mC, hnI, _⟩ := I.loc
  have hnI : sI.heap.Ns C mC := hnI
  have hnS : s'.heap.Ns C mC := up.ns hnI
  have notC : C ∉ frs X.stack := fun m => by
    rcases List.mem_cons.mp (I3.stkSub C m) with z | z
    · exact f1 z
    · exact f2 z
  show wpAny (model X.prog X.w) X.A (noteFrame (.ref a) (compEnvC scope cl C X.env)) _ _ s'
  rw [noteFrame_env (.ref a) (env := e0) (hce.trans hf0.symm)]
  have go : ∀ h1, HandSPX.HeldZ B (e0 :: o0) a (Zc cls d) L h1 → s'.heap.UpToSlots h1 → CompFails (model X.prog X.w) X.A X.xe (compEnvC scope cl C X.env) (.ref a) { s' with heap := h1 } := fun h1 hh up1 => by
    refine ⟨mC, up1.ns hnS, fun h2 m2 hn2 sb => ?_⟩
    have hhB := held_less (B' := PySem.W.hideAll B [C]) (fun b o e => PySem.W.of_hideAll _ e) hh
    have nC : ∀ b o, (PySem.W.hideAll B [C]).get? b = some o → b ≠ C := fun b o e z => by
      rw [z, PySem.W.hideAll_none [C] (by simp)] at e; cases e
    have hh2 : HandSPX.HeldZ (PySem.W.hideAll B [C]) (e0 :: o0) a (Zc cls d) L h2 :=
      ⟨fun b o e => (sb.2 b (nC b o e)).trans (hhB.1 b o e), hhB.2.1, Heap.FunFrames.sameBut sb hn2 hhB.2.2.1, traced_sb (up1.ns hnS) sb hhB.2.2.2⟩
    obtain ⟨_, _, _, oe, vs, T, oT, ts, he, hz, hd, hv1, _⟩ := id hh2
    unfold PySem.passOn
    refine wpAny_bind (wpAny_field he hd hv1 ?_)
    rw [if_neg (show ¬ ((Value.ref T == Value.none) = true) from by simp), hce]
    refine wpAny_bind (HandSPX.setFlight_onZ hh2 fun h3 hh3 up3 => wpAny_throw (tk _ _ ?_))
    refine ⟨a, PySem.W.hideAll B [C], { sI with heap := PySem.W.hideAll sI.heap [C] }, pins, σ, H', cls, d, rfl, J2, fun b o e m => ?_, fun b o e nf => ?_, .inr (.inr (by rw [hst]; exact hh3)), na, os, ag, w⟩
    · have nb' : b ≠ C := fun z => by rw [z, PySem.W.hideAll_none [C] (by simp)] at e; cases e
      exact hidG (nb b o (PySem.W.of_hideAll _ e) m) nb'
    · have nb' : b ≠ C := fun z => by rw [z, PySem.W.hideAll_none [C] (by simp)] at e; cases e
      obtain ⟨sl1, q1⟩ := up b o (PySem.W.of_hideAll _ e) nf
      obtain ⟨sl2, q2⟩ := up1 b _ q1 nf
      obtain ⟨sl3, q3⟩ := up3 b _ ((sb.2 b nb').trans q2) nf
      exact ⟨sl3, q3⟩
  rcases sky with ⟨hB, hn, hl, oe, vs, he, hz, hd, h1⟩ | fl | hd
  · exact HandSPX.look_newZ Zc.steady hfr hl hf0 he hB hn hd h1 hz go
  · exact HandSPX.looks_onZ Zc.steady hfr hf0 fl go
  · exact HandSPX.againZ hf0 hd.2.2.2 (go s'.heap hd (Heap.UpToSlots.refl _))
/-- [elt for tg in iter if ..], whose parts may raise: te is handed the wish of the block -/
theorem lcx_core {L : Addr} {W : WX} {Q : VK} {elt tg iter : Expr} {ifs : List Expr} {scope : Scope} {own : List (Str × Nat)} {pos pos' : Pos} {wi : TI} {g : TG} {tt te' : WX → TT} {te : WX → TE} {use : Option (Value → Sem Unit)} {Qf : Value → Shared → Prop}
    (lv : Lv X L) (tk : TakesB X L W) (hc : X.calm = true) (hN : X.N.Nodup) (I : Inv X pins σ H s) (hi : PI X tg iter wi) (ok : BlkOk X.N X.env.scope scope own)
    (hg : ∀ (s : Shared) (H : Hp) (C : Addr) (cl : List (Str × Addr)) (fp : List Addr) (xe : Value → Shared → Prop), PG (blkX X s H scope (compEnvC scope cl C X.env) fp xe) tg g)
    (ht : ∀ (s : Shared) (H : Hp) (C : Addr) (cl : List (Str × Addr)) (fp : List Addr) (xe : Value → Shared → Prop) (W' : WX), TakesB (blkX X s H scope (compEnvC scope cl C X.env) fp xe) L W' → PTs (blkX X s H scope (compEnvC scope cl C X.env) fp xe) ifs (tt W'))
    (he : ∀ (s : Shared) (H : Hp) (C : Addr) (cl : List (Str × Addr)) (fp : List Addr) (xe : Value → Shared → Prop) (W' : WX), TakesB (blkX X s H scope (compEnvC scope cl C X.env) fp xe) L W' → PE (blkX X s H scope (compEnvC scope cl C X.env) fp xe) elt (te W'))
    (hs : ∀ x, foldedSetIterable iter X.env x = pure x)
    (h : tLc wi g (tt fun cls d _ H' => W cls d σ H') (te fun cls d _ H' => W cls d σ H') (own.map (·.2)) σ H Q)
    (hRR : ∀ D C cl s' m H', Inv X pins σ H' s' → Q (.ref D) H' → s'.heap.Ns C m → FpOk X pins H' C → compEnds (model X.prog X.w) X.A X.xe use Qf (.ref D) (compEnvC scope cl C X.env) (.ok .next) s') :
    wpAny (model X.prog X.w) X.A (comprehension (.ListComp elt [⟨tg, iter, ifs, 0⟩] scope pos) scope X.env pos' (newList []) false (eval iter X.env) use) Qf X.xe s := by
  have hfree : ∀ y ∈ scope.names, y.2 = .free → ∃ c, X.env.cells.lookup y.1 = some c := fun y hy e => (ok.free y hy e).elim (fun k => I.ok.has _ (.inl k)) fun k => I.ok.has _ (.inr k)
  refine comprehension_at (use := use) rfl hs (closure_ok hfree) ok.kind (fun y hy e => by rw [ok.uniq y hy, e]) (thn (hi.run pins s σ H _ I h) fun xv s1 hx => thn hx fun itv s2 h2 => ?_)
  obtain ⟨it, fp, tn, J, H2, rfl, I2, T, st2, f2, q⟩ := h2
  refine wpAny_newObj_type (newEnv_comp ?_) (by show 0 ≤ sizeLine; decide)
  generalize hD : s2.heap.objs.size = D
  have hDn : H2 D = none := I2.hok.fresh (Nat.le_of_eq hD)
  obtain ⟨Wn, ⟨m0, w0⟩, turn⟩ := q D hDn
  generalize hs3 : ({ s2 with heap := s2.heap.push { cls := .type "list", data := .seq ([] : List Value).toArray } } : Shared) = s3
  have h3 : s3.heap = s2.heap.push { cls := .type "list", data := .seq ([] : List Value).toArray } := by rw [← hs3]
  have I3 : Inv X pins σ (upd H2 D (.lst [])) s3 := by
    subst hs3
    exact I2.laid (t' := s2.toks) (fun b o e => Heap.get?_push_of_some _ e) (Nat.le_of_eq hD) ⟨Nat.zero_le _, [], 0, .nil, by rw [← hD]; exact Heap.get?_push_size _ rfl⟩
  have lt2 : ∀ b ∈ fp, b < s2.heap.objs.size := fun b hb => let ⟨o, e, _⟩ := T.obj _ _ st2 b hb; Heap.lt_size e
  have f3 : ∀ b ∈ fp, FpOk X pins (upd H2 D (.lst [])) b ∧ b < s3.heap.objs.size := fun b hb => by
    refine ⟨⟨?_, (f2 b hb).2⟩, by rw [h3, Heap.size_push]; exact Nat.lt_succ_of_lt (lt2 b hb)⟩
    rw [upd_ne (by rw [← hD]; exact Nat.ne_of_lt (lt2 b hb))]
    exact (f2 b hb).1
  have st3 : tn 0 s3.heap := T.keep _ _ _ st2 fun b _ o e => by rw [h3]; exact Heap.get?_push_of_some _ e
  generalize hcl : cellsFrom (s3.heap.objs.size + 1) scope.names (cloFrom X.env.cells scope.names []) = cl
  generalize hC : s3.heap.objs.size = C
  generalize hH3 : upd H2 D (.lst []) = H3 at I3 f3 w0
  -- the block, with the wish that what leaves it leaves the def's expression
  generalize hxe : notedBy (model X.prog X.w) X.A (compEnvC scope cl C X.env) (CompFails (model X.prog X.w) X.A X.xe (compEnvC scope cl C X.env)) = xe
  have tkB : TakesB (blkX X s3 H3 scope (compEnvC scope cl C X.env) fp xe) L fun cls d _ H' => W cls d σ H' := fun u s' x => by
    have := block_out lv tk I3 f3 hC.symm x
    rw [hxe] at this
    exact this
  have I4 := (block_start I3 ok hN f3).wish xe
  rw [hcl, hC] at I4
  have pg := hg s3 H3 C cl fp xe
  have pt := ht s3 H3 C cl fp xe _ tkB
  have pe := he s3 H3 C cl fp xe _ tkB
  show codeAny (model X.prog X.w) X.A (.compStart (.ListComp elt [⟨tg, iter, ifs, 0⟩] scope pos) 0 (.ref it) (.ref D) (compEnvC scope cl C X.env)) (compEnds (model X.prog X.w) X.A X.xe use Qf (.ref D) (compEnvC scope cl C X.env)) { s3 with heap := pushCells (s3.heap.push { cls := .type "dict", data := .dict #[] }) scope.names }
  generalize hs4 : ({ s3 with heap := pushCells (s3.heap.push { cls := .type "dict", data := .dict #[] }) scope.names } : Shared) = s4 at I4 ⊢
  have st4 : tn 0 s4.heap := T.keep _ _ _ st3 fun b _ o e => by rw [← hs4]; exact pushCells_keeps _ _ _ _ (Heap.get?_push_of_some _ e)
  have n3 : ∀ b ∈ fp, H3 b = none := fun b hb => (f3 b hb).1.1
  generalize hce : compEnvC scope cl C X.env = ce at I4 pg pt pe hRR hxe ⊢
  have cL : ce.locals = C := by subst hce; rfl
  have stat : ∀ {σ' : L2.St} {H' : Hp} {s' : Shared}, Inv (blkX X s3 H3 scope ce fp xe) [] σ' H' s' → (∀ b ∈ fp, H' b = none) → ∀ b ∈ fp, FpOk (blkX X s3 H3 scope ce fp xe) [] H' b := fun {σ' H' s'} I' hn b hb =>
    ⟨hn b hb, (I'.ok.exf b hb).1, I'.ok.exfs b hb, .inl hb, fun x c e => (I'.ok.exf b hb).2 x c e, fun p hp => absurd (show p ∈ ([] : List (Addr × Obj)) ++ [] from hp) (by simp)⟩
  have xeq : ∀ e s', xe e s' → notedBy (model X.prog X.w) X.A ce (fun e s' => compEnds (model X.prog X.w) X.A X.xe use Qf (.ref D) ce (.error e) s') e s' := fun e s' z => by
    rw [← hxe] at z
    have u1 : (fun e s' => compEnds (model X.prog X.w) X.A X.xe use Qf (.ref D) ce (.error e) s') = CompFails (model X.prog X.w) X.A X.xe ce := by
      funext e s'
      cases use <;> rfl
    rw [u1]
    exact z
  have th : ∀ {α : Type} {t : Sem α} {P1 P2 : α → Shared → Prop} {s' : Shared}, wpAny (model X.prog X.w) X.A t P1 xe s' → (∀ a s', P1 a s' → P2 a s') →
      wpAny (model X.prog X.w) X.A t P2 (notedBy (model X.prog X.w) X.A ce fun e s' => compEnds (model X.prog X.w) X.A X.xe use Qf (.ref D) ce (.error e) s') s' := fun h k => wpAny_mono h k xeq
  have loop : codeAny (model X.prog X.w) X.A (.compLoop (.ListComp elt [⟨tg, iter, ifs, 0⟩] scope pos) 0 (.ref it) (.ref D) ce) (compEnds (model X.prog X.w) X.A X.xe use Qf (.ref D) ce) s4 := by
    refine compLoop_any (fun n s' => ∃ i H', Inv (blkX X s3 H3 scope ce fp xe) [] (L2.wipe σ (own.map (·.2))) H' s' ∧ tn i s'.heap ∧ (∀ b ∈ fp, H' b = none) ∧ Wn i n H') ?_ m0 ⟨0, H3, I4, st4, n3, w0⟩
    rintro n s5 ⟨i, H5, I5, st5, n5, w5⟩
    rcases turn i n H5 w5 with ⟨stop, qq⟩ | ⟨go, Nx, hNx, step⟩
    · refine th (T.done (blkX X s3 H3 scope ce fp xe) rfl rfl rfl hc i [] s5 _ H5 xe I5 (stat I5 n5) st5 stop) fun r s6 ⟨hr, I6⟩ => ?_
      subst hr
      have I7 : Inv X pins σ H5 s6 := I3.call' (ch := fp) I6.os I6.base I6.hok I6.bare fun b hb => ⟨(f3 b hb).1.2.2.2.1, (f3 b hb).1.2.1, (f3 b hb).1.2.2.2.2.1, (f3 b hb).1.2.2.2.2.2⟩
      have nC : H5 C = none := by
        rw [← cL]
        exact I6.free
      obtain ⟨m, hn, _⟩ := I6.loc
      have hn : s6.heap.Ns ce.locals m := hn
      rw [cL] at hn
      have r := hRR D C cl s6 m H5 I7 qq hn (I3.fpOk (Nat.le_of_eq hC) nC)
      rw [hce] at r
      exact r
    · refine th (T.item (blkX X s3 H3 scope ce fp xe) rfl rfl rfl hc i [] s5 _ H5 xe I5 (stat I5 n5) st5 go) fun r s6 ⟨u, hr, h6⟩ => ?_
      subst hr
      refine th h6 fun _ s7 ⟨x, H7, I7, r7, y7, st7, n7⟩ => ?_
      have I7' := I7.pinned (stat I7 n7) (T.obj _ _ st7)
      refine th (pg.run _ s7 _ H7 x u _ I7' r7 (step x H7 y7)) fun _ s8 ⟨σ8, H8, I8, hw8, q8⟩ => ?_
      refine th (pt.run _ s8 σ8 H8 _ I8 q8) fun b s9 ⟨H9, I9, q9⟩ => ?_
      have fin : ∀ {s' : Shared} {H' : Hp}, Inv (blkX X s3 H3 scope ce fp xe) ([] ++ pinsAt fp s7.heap) σ8 H' s' → Nx H' → ∃ m, m < n ∧ ∃ i H', Inv (blkX X s3 H3 scope ce fp xe) [] (L2.wipe σ (own.map (·.2))) H' s' ∧ tn i s'.heap ∧ (∀ b ∈ fp, H' b = none) ∧ Wn i m H' := fun {s' H'} I' nx => by
        obtain ⟨m', hm, w'⟩ := hNx H' nx
        have pin' : ∀ b ∈ fp, ∀ o, s7.heap.get? b = some o → s'.heap.get? b = some o ∧ H' b = none := fun b hb o e =>
          let z := I'.pin (b, o) (List.mem_append_right _ (List.mem_append_right _ (mem_pinsAt hb e)))
          ⟨z.1, z.2.1⟩
        have hl : (L2.wipe σ (own.map (·.2))).length = σ8.length := by rw [← hw8, wipe_length]
        refine ⟨m', hm, i + 1, H', (I'.unpinned (pins := [])).weak hl (fun j v e => ?_), T.keep _ _ _ st7 fun b hb o e => (pin' b hb o e).1, fun b hb => ?_, w'⟩
        · rw [← hw8] at e
          exact (wipe_some e).1
        · obtain ⟨o, e, _⟩ := T.obj _ _ st7 b hb
          exact (pin' b hb o e).2
      cases b with
      | false =>
        simp only [Bool.false_eq_true, if_false] at q9 ⊢
        exact fin I9 q9
      | true =>
        simp only [if_true] at q9 ⊢
        refine th (pe.run _ s9 σ8 H9 _ I9 q9) fun z s10 ⟨yv, H10, I10, r10, acc, hD10, hz10, nx⟩ => ?_
        exact app_ok (X := blkX X s3 H3 scope ce fp xe) I10 hD10 hz10 r10 fun s11 I11 => fin I11 nx
  exact codeAny_compStart_list loop (T.self X.A 0 _ _ _ st4 loop)
variable {L : Addr} {W : WX} {elt tg iter : Expr} {ifs : List Expr} {scope : Scope} {own : List (Str × Nat)} {pos : Pos} {wi : TI} {g : TG} {tt : WX → TT} {te : WX → TE}
theorem pe_lcX (lv : Lv X L) (tk : TakesB X L W) (hc : X.calm = true) (hN : X.N.Nodup) (hi : PI X tg iter wi) (ok : BlkOk X.N X.env.scope scope own)
    (hg : ∀ (s : Shared) (H : Hp) (C : Addr) (cl : List (Str × Addr)) (fp : List Addr) (xe : Value → Shared → Prop), PG (blkX X s H scope (compEnvC scope cl C X.env) fp xe) tg g)
    (ht : ∀ (s : Shared) (H : Hp) (C : Addr) (cl : List (Str × Addr)) (fp : List Addr) (xe : Value → Shared → Prop) (W' : WX), TakesB (blkX X s H scope (compEnvC scope cl C X.env) fp xe) L W' → PTs (blkX X s H scope (compEnvC scope cl C X.env) fp xe) ifs (tt W'))
    (he : ∀ (s : Shared) (H : Hp) (C : Addr) (cl : List (Str × Addr)) (fp : List Addr) (xe : Value → Shared → Prop) (W' : WX), TakesB (blkX X s H scope (compEnvC scope cl C X.env) fp xe) L W' → PE (blkX X s H scope (compEnvC scope cl C X.env) fp xe) elt (te W'))
    (hs : ∀ x, foldedSetIterable iter X.env x = pure x := by intro _; rfl) :
    PE X (.ListComp elt [⟨tg, iter, ifs, 0⟩] scope pos) (fun σ H Q => tLc wi g (tt fun cls d _ H' => W cls d σ H') (te fun cls d _ H' => W cls d σ H') (own.map (·.2)) σ H Q) := by
  refine ⟨fun pins s σ H Q I h => ?_⟩
  rw [eval_ListComp]
  refine lcx_core (te' := tt) lv tk hc hN I hi ok hg ht he hs h fun D C cl s' m H' I' q hn f => ⟨m, hn, fun h'' sb => ?_⟩
  obtain ⟨f0, f1, f2, f3, f4, f5⟩ := f
  exact ⟨.ref D, H', I'.turned (t' := s'.toks) (fun b o hb e => (sb.2 b hb).trans e) f0 f1 f3 f4 f5, rfl, q⟩
/-- name = [..] on one line, the name a local -/
theorem ps_setLcX {i : Nat} {y : Str} {py spos : Pos} (lv : Lv X L) (tk : TakesB X L W) (hc : X.calm = true) (hN : X.N.Nodup) (hy : X.N[i]? = some y) (hyl : X.env.scope.names.lookup y = some .local)
    (hsw : swapsWith (.ListComp elt [⟨tg, iter, ifs, 0⟩] scope pos) (some (.Name y py)) spos.line X.env = pure true) (hi : PI X tg iter wi) (ok : BlkOk X.N X.env.scope scope own)
    (hg : ∀ (s : Shared) (H : Hp) (C : Addr) (cl : List (Str × Addr)) (fp : List Addr) (xe : Value → Shared → Prop), PG (blkX X s H scope (compEnvC scope cl C X.env) fp xe) tg g)
    (ht : ∀ (s : Shared) (H : Hp) (C : Addr) (cl : List (Str × Addr)) (fp : List Addr) (xe : Value → Shared → Prop) (W' : WX), TakesB (blkX X s H scope (compEnvC scope cl C X.env) fp xe) L W' → PTs (blkX X s H scope (compEnvC scope cl C X.env) fp xe) ifs (tt W'))
    (he : ∀ (s : Shared) (H : Hp) (C : Addr) (cl : List (Str × Addr)) (fp : List Addr) (xe : Value → Shared → Prop) (W' : WX), TakesB (blkX X s H scope (compEnvC scope cl C X.env) fp xe) L W' → PE (blkX X s H scope (compEnvC scope cl C X.env) fp xe) elt (te W'))
    (hs : ∀ x, foldedSetIterable iter X.env x = pure x := by intro _; rfl) :
    PS X (.Assign [.Name y py] (.ListComp elt [⟨tg, iter, ifs, 0⟩] scope pos) spos) (fun D σ H => tLc wi g (tt fun cls d _ H' => W cls d σ H') (te fun cls d _ H' => W cls d σ H') (own.map (·.2)) σ H fun x H1 => D.nx (σ.set i (some x)) H1) := by
  refine ⟨fun pins s σ H D I h => ?_⟩
  rw [exec_Assign_Name_used _ _ _ _ hsw]
  refine wpAny_bind (wpAny_standAt (wpAny_bind ?_))
  show wpAny _ X.A (do let _ ← comprehension (.ListComp elt [⟨tg, iter, ifs, 0⟩] scope pos) scope X.env (firstIterPos [⟨tg, iter, ifs, 0⟩] pos) (newList []) false (eval iter X.env) (some (assign (.Name y py) X.env))) _ _ s
  refine wpAny_bind (thn (lcx_core (te' := tt) (Qf := fun _ s' => SP X pins D .next s') lv tk hc hN I hi ok hg ht he hs h fun K C cl s' m H' I' q hn f => ?_) fun _ s' hq => wpAny_pure (wpAny_pure hq))
  show wpAny _ _ (assign (.Name y py) X.env (.ref K)) _ _ _
  refine wpAny_assign_Name (store_ok2 (v := V.ref K) I' hN hy (.inl hyl) rfl (fun s2 I2 ⟨a, sb, ha⟩ => ?_) (.inr hyl))
  obtain ⟨f0, f1, f2, f3, f4, f5⟩ := f
  have haC : C ≠ a := by
    rcases ha with z | z
    · rw [z]; exact f1
    · exact fun e => f4 y a z e.symm
  refine ⟨m, hn.sameBut sb haC, fun h3 sb3 => ?_⟩
  exact ⟨_, H', I2.turned (t' := s2.toks) (fun b o hb e => (sb3.2 b hb).trans e) f0 f1 f3 f4 f5, q⟩
end
end Pd
end

section -- PdWalk
set_option Elab.async false
set_option linter.all false
set_option maxRecDepth 100000
set_option maxHeartbeats 8000000
/-! PdWalk: what is walked, targets, comprehensions of the plain semantics. -/
namespace Pd
open PySem PySem.Spec PyProof.Rows L2
/-- the iterator J yields the items xs, which are those of d -/
def Yields (T : Ct) (J : It) (v : V) (d : D) (xs : List P) : Prop := ∀ (H : Hp) (μ : List Addr) (F : Addr → Prop) (st : Sto), RSt T.K H μ F st → RD T.K H μ F v d → still xs d st = true →
  J.stop xs.length H ∧ ∀ (i : Nat) (p : P), xs[i]? = some p → J.go i H ∧ ∀ x H', J.yld i H x H' → ∃ F', RSt T.K H' μ F' st ∧ Ext H μ F H' μ F' ∧ Fz T.K H' F' x p
abbrev rQ (K : PySem.W.Frag) : Rel (List P × D) (V × (List P × D)) := fun H μ F b q => b.2 = q ∧ RD K H μ F b.1 q.2
/-- the reading of what is walked -/
def tW (T : Ct) (W : WX) (w : FW) : TI := fun σ H R => tX T W (rQ T.K) w σ H fun b H1 => ∀ J, Yields T J b.1 b.2.2 b.2.1 → R J H1
section
variable {X : Cx} {T : Ct} {W : WX} {σ : L2.St} {H : Hp} {μ : List Addr} {F : Addr → Prop} {st : Sto} {pos : Pos} {tg e : Expr}
/-- an iterator over a list, a tuple, a text, by values -/
theorem iter_list {pins : List (Addr × Obj)} {s1 : Shared} {H1 : Hp} {a : Addr} {xs : List V} {R : It → Hp → Prop} (I1 : Inv X pins σ H1 s1) (hq : SqL X.K H1 a xs) (q : R (Itl X.K a) H1) : wpAny (model X.prog X.w) X.A (pyIter (.ref a)) (PIE X pins σ tg R) X.xe s1 := by
  obtain ⟨its, rv, p, hz⟩ := I1.list hq
  refine wpAny_pyIter_list p.isList ⟨s1.heap.objs.size, [s1.heap.objs.size], _, _, H1, rfl, I1.kept (t' := s1.toks) fun b o z => Heap.get?_push_of_some _ z, turn_list a _, ⟨_, Heap.get?_push_size _ rfl, rfl, rfl⟩, fun b hb => ?_, q⟩
  obtain rfl : b = s1.heap.objs.size := by simpa using hb
  exact I1.fpOk (Nat.le_refl _) I1.fresh
theorem iter_tup {pins : List (Addr × Obj)} {s1 : Shared} {H1 : Hp} {a : Addr} {xs : List V} {R : It → Hp → Prop} (I1 : Inv X pins σ H1 s1) (hq : SqT X.K H1 a xs) (q : R (Itt X.K a) H1) : wpAny (model X.prog X.w) X.A (pyIter (.ref a)) (PIE X pins σ tg R) X.xe s1 := by
  obtain ⟨its, rv, p, hz⟩ := I1.tuple hq
  refine wpAny_pyIter_tuple (show s1.heap.IsTuple a its.toArray from p) ⟨s1.heap.objs.size, [s1.heap.objs.size], _, _, H1, rfl, I1.kept (t' := s1.toks) fun b o z => Heap.get?_push_of_some _ z, turn_tuple a _, ⟨_, Heap.get?_push_size _ rfl, rfl, rfl⟩, fun b hb => ?_, q⟩
  obtain rfl : b = s1.heap.objs.size := by simpa using hb
  exact I1.fpOk (Nat.le_refl _) I1.fresh
theorem iter_txt {pins : List (Addr × Obj)} {s1 : Shared} {H1 : Hp} {x : Str} {t : Tok} {R : It → Hp → Prop} (I1 : Inv X pins σ H1 s1) (q : R (Its x) H1) : wpAny (model X.prog X.w) X.A (pyIter (.str x t)) (PIE X pins σ tg R) X.xe s1 := by
  cases ha : x.cps.all (· < 128)
  · exact wpAny_pyIter_wide ha (pi_one (tk := s1.toks) I1 _ (turn_str _ x t "str_iterator" (.inr rfl)) ⟨_, Heap.get?_push_size _ rfl, rfl, rfl⟩ q)
  · exact wpAny_pyIter_ascii ha (pi_one (tk := s1.toks) I1 _ (turn_str _ x t "str_ascii_iterator" (.inl rfl)) ⟨_, Heap.get?_push_size _ rfl, rfl, rfl⟩ q)
theorem rd_seq {K : PySem.W.Frag} {v : V} {d : D} {xs : List P} (S : RSt K H μ F st) (r : RD K H μ F v d) (e : (asP d st).bind seqOf = some xs) : (∃ y, asP d st = some y ∧ seqOf y = some xs ∧ Nw K H F v y) := by
  cases e1 : asP d st with
  | none => rw [e1] at e; cases e
  | some y => rw [e1] at e; exact ⟨y, rfl, e, now_of S r e1⟩
theorem lists_same {K : PySem.W.Frag} {a : Addr} {xs ys : List V} (h : H a = some (.lst xs)) (q : SqL K H a ys) (hk : K.lookup a = none ∨ True) : H a = some (.lst xs) := h
/-- what a value yields -/
theorem yields_list {a : Addr} {d : D} {xs : List P} (hK : X.K = T.K) (hd : d = .p (.lst xs) ∨ (∃ i, d = .r i) ∨ d = .p (.ro xs)) : Yields T (Itl X.K a) (.ref a) d xs := by
  intro H μ F st S r stl
  have key : ∃ vs, SqL X.K H a vs ∧ FzL T.K H F vs xs ∧ ∀ ws, SqL X.K H a ws → FzL T.K H F ws xs ∨ True := by
    rcases hd with rfl | ⟨i, rfl⟩ | rfl
    · cases r with | lst h n t => exact ⟨_, .of h, t, fun _ _ => .inr trivial⟩
    · obtain ⟨b, hb, e⟩ := r
      cases e
      unfold still at stl
      cases q : st[i]? with
      | none => simp [q] at stl
      | some o =>
        cases o with
        | gone => simp [q] at stl
        | lst ys =>
          simp only [q] at stl
          obtain rfl := P.sames_eq stl
          obtain ⟨vs, h1, h2⟩ := S.obj i _ _ hb q
          exact ⟨vs, .of h1, h2, fun _ _ => .inr trivial⟩
    · cases r with | ro h t => exact ⟨_, by rw [hK]; exact h.sq, t, fun _ _ => .inr trivial⟩
  obtain ⟨vs, hq, l, _⟩ := key
  refine ⟨⟨vs, hq, Nat.le_of_eq l.length⟩, fun i p hp => ?_⟩
  obtain ⟨x, hx, fx⟩ := l.get hp
  refine ⟨⟨vs, x, hq, hx⟩, fun y H' yl => ?_⟩
  obtain ⟨rfl, yl⟩ := yl
  have := yl vs hq
  rw [hx] at this
  cases this
  exact ⟨F, S, Ext.refl _ _ _, fx⟩
theorem yields_tup {a : Addr} {xs : List P} (hK : X.K = T.K) : Yields T (Itt X.K a) (.ref a) (.p (.tup xs)) xs := by
  intro H μ F st S r stl
  cases r with
  | @tup _ vs _ h l =>
    have hq : SqT X.K H a vs := by rw [hK]; exact h.sq
    refine ⟨⟨_, hq, Nat.le_of_eq l.length⟩, fun i p hp => ?_⟩
    obtain ⟨x, hx, fx⟩ := l.get hp
    refine ⟨⟨_, x, hq, hx⟩, fun y H' yl => ?_⟩
    obtain ⟨rfl, yl⟩ := yl
    have := yl _ hq
    rw [hx] at this
    cases this
    exact ⟨F, S, Ext.refl _ _ _, fx⟩
theorem yields_txt {s : List Nat} (o : okS s = true) : Yields T (Its (sS s)) (.str (sS s)) (.p (.str s)) (s.map fun c => .str [c]) := by
  intro H μ F st S r stl
  refine ⟨by simp [Its], fun i p hp => ?_⟩
  rw [List.getElem?_map] at hp
  cases e : s[i]? with
  | none => rw [e] at hp; cases hp
  | some c =>
    rw [e] at hp
    cases hp
    have hi := (List.getElem?_eq_some_iff.mp e).1
    refine ⟨by simp [Its]; exact hi, fun y H' yl => ?_⟩
    obtain ⟨rfl, c', hc, rfl⟩ := yl
    have hc : s[i]? = some c' := by simpa using hc
    rw [e] at hc; cases hc
    refine ⟨F, S, Ext.refl _ _ _, .str (s := [c]) ?_⟩
    unfold okS at *
    simpa using List.all_eq_true.mp o c (List.mem_of_getElem? e)
theorem asP_r {i : Nat} {y : P} (e : asP (.r i) st = some y) : ∃ xs, y = .lst xs := by
  unfold asP at e
  simp only at e
  split at e
  · exact ⟨_, (Option.some.inj e).symm⟩
  · cases e
theorem sp_seq {f : FE} (hK : X.K = T.K) (he : PE X e (tX T W (rD T.K) f)) : PI X tg e (tW T W (wSeq f)) := by
  refine ⟨fun pins s σ H R I h => ?_⟩
  obtain ⟨ρ, st, μ, F, L, S, h⟩ := h
  refine thn (he.run pins s σ H (fun v H1 => (∃ a xs, v = .ref a ∧ SqL X.K H1 a xs ∧ R (Itl X.K a) H1) ∨ (∃ a xs, v = .ref a ∧ SqT X.K H1 a xs ∧ R (Itt X.K a) H1) ∨ ∃ x, v = .str x ∧ R (Its x) H1) I ?_) fun v s1 ⟨x, H1, I1, r1, q1⟩ => ?_
  · refine ⟨ρ, st, μ, F, L, S, nrm_post S (fro_post S (Post.bind (R1 := rD T.K) S.sub h fun v H1 μ1 F1 d s1 _ a1 a2 a3 a4 h => ?_))⟩
    cases e : (asP d s1).bind seqOf with
    | none => rw [e] at h; exact h.elim
    | some xs =>
      rw [e] at h
      have go : ∀ J, Yields T J v d xs → R J H1 := h (v, (xs, d)) H1 μ1 F1 ⟨rfl, a1⟩ a2 (Ext.refl _ _ _) (List.prefix_refl _)
      obtain ⟨y, e1, e2, n⟩ := rd_seq a2 a1 e
      cases y with
      | lst ys =>
        have e3 : ys = xs := Option.some.inj e2
        subst e3
        obtain ⟨a, vs, rfl, t, l⟩ := nw_lst n
        refine .inl ⟨a, vs, rfl, .of t, go _ (yields_list hK ?_)⟩
        cases d with
        | p z => exact .inl (by rw [show z = .lst ys from Option.some.inj e1])
        | r i => exact .inr (.inl ⟨i, rfl⟩)
      | ro ys =>
        have e3 : ys = xs := Option.some.inj e2
        subst e3
        obtain ⟨a, vs, rfl, t, l⟩ := nw_ro n
        refine .inl ⟨a, vs, rfl, by rw [hK]; exact t.sq, go _ (yields_list hK ?_)⟩
        cases d with
        | p z => exact .inr (.inr (by rw [show z = .ro ys from Option.some.inj e1]))
        | r i => exact .inr (.inl ⟨i, rfl⟩)
      | tup ys =>
        have e3 : ys = xs := Option.some.inj e2
        subst e3
        obtain ⟨a, vs, rfl, t, l⟩ := nw_tup n
        cases d with
        | p z =>
          cases (Option.some.inj e1 : z = .tup ys)
          exact .inr (.inl ⟨a, vs, rfl, by rw [hK]; exact t.sq, go _ (yields_tup hK)⟩)
        | r i => obtain ⟨_, z⟩ := asP_r e1; cases z
      | str z =>
        cases (Option.some.inj e2 : _ = xs)
        obtain ⟨rfl, o⟩ := nw_str n
        cases d with
        | p w =>
          cases (Option.some.inj e1 : w = .str z)
          exact .inr (.inr ⟨_, rfl, go _ (yields_txt o)⟩)
        | r i => obtain ⟨_, z⟩ := asP_r e1; cases z
      | non => cases e2
      | bl b => cases e2
      | int i => cases e2
  · rcases q1 with ⟨a, xs, rfl, hq, q⟩ | ⟨a, xs, rfl, hq, q⟩ | ⟨z, rfl, q⟩
    · cases r1; exact iter_list I1 hq q
    · cases r1; exact iter_tup I1 hq q
    · obtain ⟨t, rfl⟩ := r1; exact iter_txt I1 q
/-! ### ranges -/
theorem rng_get (lo : Int) (n i : Nat) : (rng lo n)[i]? = if i < n then some (.int (lo + (i : Nat))) else none := by
  unfold rng
  rw [List.getElem?_map]
  by_cases h : i < n
  · rw [if_pos h, List.getElem?_range h]; rfl
  · rw [if_neg h, List.getElem?_eq_none (by simpa using h)]; rfl
theorem yields_rng {lo : Int} {n : Nat} {v : V} : Yields T (Itr lo n) v (.p .non) (rng lo n) := by
  intro H μ F st S r stl
  refine ⟨by simp [Itr, rng], fun i p hp => ?_⟩
  rw [rng_get] at hp
  split at hp
  · cases hp
    refine ⟨by assumption, fun y H' yl => ?_⟩
    obtain ⟨rfl, rfl⟩ := yl
    exact ⟨F, S, Ext.refl _ _ _, .int _⟩
  · cases hp
theorem fAll_len : ∀ {fs : List FE} {ρ : Loc} {s s1 : Sto} {ds : List D}, fAll fs ρ s = .ok ds s1 → ds.length = fs.length
  | [], ρ, s, s1, ds, h => by cases h; rfl
  | f :: fs, ρ, s, s1, ds, h => by
    unfold fAll at h
    cases e : f ρ s with
    | ok d s2 =>
      rw [e] at h
      simp only [Res.bind_ok] at h
      cases e2 : fAll fs ρ s2 with
      | ok ds' s3 =>
        rw [e2] at h
        simp only [Res.bind_ok] at h
        cases h
        rw [List.length_cons, List.length_cons, fAll_len e2]
      | exc x s3 => rw [e2] at h; cases h
      | bad => rw [e2] at h; cases h
    | exc x s2 => rw [e] at h; cases h
    | bad => rw [e] at h; cases h
theorem range_reads {fs : List FE} {R : It → Hp → Prop} (h : tW T W (wRange fs) σ H R) : tX T W (rDs T.K) (fAll fs) σ H (fun vs H1 => vs.length = fs.length ∧ ((∃ j : Int, vs = [.int j] ∧ -(2 ^ 62) ≤ j ∧ j < 2 ^ 62 ∧ R (Itr 0 j.toNat) H1) ∨ ∃ i j : Int, vs = [.int i, .int j] ∧ (-(2 ^ 62) ≤ i ∧ i < 2 ^ 62 ∧ -(2 ^ 62) ≤ j ∧ j < 2 ^ 62) ∧ R (Itr i (j - i).toNat) H1)) := by
  obtain ⟨ρ, st, μ, F, L, S, h⟩ := h
  refine ⟨ρ, st, μ, F, L, S, Post.bind0 (R1 := rDs T.K) S.sub (Ext.refl _ _ _) (List.prefix_refl _) (fun _ _ _ w => w) h fun vs H1 μ1 F1 ds s1 ef a1 a2 a3 a4 h => ⟨a1.length.trans (fAll_len ef), ?_⟩⟩
  cases e : (asPs ds s1).bind bRange with
  | none => rw [e] at h; exact h.elim
  | some xs =>
    rw [e] at h
    have t := a2.take st.length
    rw [← S.len, pre_len a4, S.len] at t
    have go : ∀ J, Yields T J .non (.p .non) xs → R J H1 := fun J y => h (.non, (xs, .p .non)) H1 μ F1 ⟨rfl, .non⟩ t ⟨a3.keep, a3.fr, a3.old, fun _ m => .inl m⟩ (List.prefix_refl _) J y
    cases e1 : asPs ds s1 with
    | none => rw [e1] at e; cases e
    | some ps =>
      rw [e1] at e
      have n := nows_of a2 a1 e1
      have e : bRange ps = some xs := e
      unfold bRange at e
      split at e
      · obtain ⟨v, rfl, n'⟩ := nwl1 n
        cases nw_int n'
        obtain ⟨hc, e⟩ := gd_some e
        cases e
        exact .inl ⟨_, rfl, hc.1, hc.2, go _ yields_rng⟩
      · obtain ⟨v, u, rfl, n1, n2⟩ := nwl2 n
        cases nw_int n1; cases nw_int n2
        obtain ⟨hc, e⟩ := gd_some e
        cases e
        exact .inr ⟨_, _, rfl, hc, go _ yields_rng⟩
      · cases e
theorem tX_mono {α β : Type} {R : Rel α β} {f : Loc → Sto → Res α} {Q Q' : β → Hp → Prop} (q : ∀ b H, Q b H → Q' b H) (h : tX T W R f σ H Q) : tX T W R f σ H Q' := by
  obtain ⟨ρ, st, μ, F, L, S, h⟩ := h
  exact ⟨ρ, st, μ, F, L, S, h.mono q⟩
theorem PI.imp {e : Expr} {t t' : TI} (h : PI X tg e t) (i : ∀ σ H Q, t' σ H Q → t σ H Q) : PI X tg e t' := ⟨fun pins s σ H Q I q => h.run pins s σ H Q I (i _ _ _ q)⟩
theorem sp_range1 {a : Expr} {f : FE} {p : Pos} (hm : X.mg "range" = none) (ha : PA X [a] (tX T W (rDs T.K) (fAll [f]))) (hg : Gl X "range" := by rfl) (hs : starEach [a] X.env = [(false, eval a X.env)] := by rfl) : PI X tg (.Call (.Name "range" p) [a] [] pos) (tW T W (wRange [f])) :=
  PI.imp (pi_range1 hg hm ha hs) fun σ H R h => tX_mono (fun vs H1 ⟨hl, q⟩ => by
    rcases q with q | ⟨i, j, rfl, _⟩
    · exact q
    · cases hl) (range_reads h)
theorem sp_range2 {a b : Expr} {f f' : FE} {p : Pos} (hm : X.mg "range" = none) (ha : PA X [a, b] (tX T W (rDs T.K) (fAll [f, f']))) (hg : Gl X "range" := by rfl) (hs : starEach [a, b] X.env = [(false, eval a X.env), (false, eval b X.env)] := by rfl) (hs2 : starEach [b] X.env = [(false, eval b X.env)] := by rfl) : PI X tg (.Call (.Name "range" p) [a, b] [] pos) (tW T W (wRange [f, f'])) :=
  PI.imp (pi_range2 hg hm ha hs hs2) fun σ H R h => tX_mono (fun vs H1 ⟨hl, q⟩ => by
    rcases q with ⟨j, rfl, _⟩ | q
    · cases hl
    · exact q) (range_reads h)
/-! ### targets -/
theorem PG.imp {e : Expr} {t t' : TG} (h : PG X e t) (i : ∀ v σ H Q, t' v σ H Q → t v σ H Q) : PG X e t' := ⟨fun pins s σ H v u Q I r q => h.run pins s σ H v u Q I r (i _ _ _ _ q)⟩
/-- the slots outside is are as they were -/
def SetAt (is : List Nat) (σ σ' : L2.St) : Prop := σ'.length = σ.length ∧ ∀ j, j ∉ is → σ'[j]? = σ[j]?
theorem SetAt.refl (is : List Nat) (σ : L2.St) : SetAt is σ σ := ⟨rfl, fun _ _ => rfl⟩
theorem SetAt.set {is : List Nat} {σ σ' : L2.St} (h : SetAt is σ σ') {i : Nat} (hi : i ∈ is) (o : Option V) : SetAt is σ (σ'.set i o) :=
  ⟨by simp [h.1], fun j hj => by rw [List.getElem?_set_ne (fun e => hj (by rw [← e]; exact hi))]; exact h.2 j hj⟩
def Tg.ixs : Tg → List Nat
  | .one i => [i]
  | .tup is => is
/-- the reading of a target -/
def tG (T : Ct) (t : Tg) : TG := fun v σ H Q => ∃ p ρ st μ F ρ', Fz T.K H F v p ∧ RL T.K H μ F σ ρ ∧ RSt T.K H μ F st ∧ t.put p ρ = some ρ' ∧ ∀ σ', RL T.K H μ F σ' ρ' → SetAt t.ixs σ σ' → Q σ' H
theorem RL.set {K : PySem.W.Frag} {ρ : Loc} (L : RL K H μ F σ ρ) {i : Nat} {v : V} {d : D} (r : RD K H μ F v d) : RL K H μ F (σ.set i (some v)) (ρ.set i (some d)) := by
  refine ⟨by simp [L.len], fun j d' h => ?_⟩
  by_cases hj : i = j
  · subst hj
    by_cases hl : i < ρ.length
    · rw [List.getElem?_set_self hl] at h
      cases h
      exact ⟨v, by rw [List.getElem?_set_self (by rw [← L.len]; exact hl)], r⟩
    · rw [List.getElem?_eq_none (by simpa using hl)] at h; cases h
  · rw [List.getElem?_set_ne hj] at h
    rw [List.getElem?_set_ne hj]
    exact L.val j d' h
theorem sg_one {i : Nat} {x : Str} (hN : X.N.Nodup) (hi : X.N[i]? = some x := by rfl) (hx : L2.Loc X.env.scope x := by first | exact Or.inl rfl | exact Or.inr rfl) (hf : X.fn x = true ∨ X.env.scope.names.lookup x = some .local := by first | exact .inl rfl | exact .inr rfl) : PG X (.Name x pos) (tG T (.one i)) :=
  PG.imp (pg_name hN hi hx hf) fun v σ H Q h => by
    obtain ⟨p, ρ, st, μ, F, ρ', r, L, S, e, q⟩ := h
    cases (Option.some.inj e : ρ.set i (some (.p p)) = ρ')
    exact q _ (L.set (d := .p p) r) ((SetAt.refl _ _).set (by simp [Tg.ixs]) _)
/-- the names of a tuple target, one after another -/
def tGs (T : Ct) (is : List Nat) (all : List Nat) : TGs := fun vs σ H Q => ∃ ps ρ st μ F ρ' σ0, FzL T.K H F vs ps ∧ RL T.K H μ F σ ρ ∧ RSt T.K H μ F st ∧ sets is ps ρ = some ρ' ∧ SetAt all σ0 σ ∧ ∀ σ', RL T.K H μ F σ' ρ' → SetAt all σ0 σ' → Q σ' H
theorem PGs.imp {e : List Expr} {t t' : TGs} (h : PGs X e t) (i : ∀ v σ H Q, t' v σ H Q → t v σ H Q) : PGs X e t' := ⟨fun pins s σ H v u Q I r q => h.run pins s σ H v u Q I r (i _ _ _ _ q)⟩
theorem sgs_nil {all : List Nat} : PGs X [] (tGs T [] all) := PGs.imp pgs_nil fun vs σ H Q h => by
  obtain ⟨ps, ρ, st, μ, F, ρ', σ0, r, L, S, e, sa, q⟩ := h
  cases r with
  | nil =>
    cases (Option.some.inj e : ρ = ρ')
    exact ⟨rfl, q _ L sa⟩
  | cons r t => cases e
theorem sgs_cons {i : Nat} {is all : List Nat} {x : Str} {es : List Expr} (hN : X.N.Nodup) (hm : i ∈ all) (h2 : PGs X es (tGs T is all)) (hi : X.N[i]? = some x := by rfl) (hx : L2.Loc X.env.scope x := by first | exact Or.inl rfl | exact Or.inr rfl) (hf : X.fn x = true ∨ X.env.scope.names.lookup x = some .local := by first | exact .inl rfl | exact .inr rfl)
    (hs : (assignEach (.Name x pos :: es) X.env).map (·.2) = assign (.Name x pos) X.env :: (assignEach es X.env).map (·.2) := by rfl) : PGs X (.Name x pos :: es) (tGs T (i :: is) all) :=
  PGs.imp (pgs_cons (pg_name hN hi hx hf) h2 hs) fun vs σ H Q h => by
    obtain ⟨ps, ρ, st, μ, F, ρ', σ0, r, L, S, e, sa, q⟩ := h
    cases r with
    | nil => cases e
    | cons r t => exact ⟨_, _, rfl, _, _, st, μ, F, ρ', σ0, t, L.set (d := .p _) r, S, e, sa.set hm _, q⟩
theorem sg_tup {es : List Expr} {k : Nat} {is : List Nat} (hK : X.K = T.K) (hc : X.calm = true) (h : PGs X es (tGs T is is)) (hn : (assignEach es X.env).length = is.length := by rfl) (hst : (assignEach es X.env).findIdx? (·.1) = none := by rfl) : PG X (.Tuple es k pos) (tG T (.tup is)) :=
  PG.imp (pg_tup hc h hn hst) fun v σ H Q h => by
    obtain ⟨p, ρ, st, μ, F, ρ', r, L, S, e, q⟩ := h
    cases p with
    | tup ps =>
      cases r with
      | @tup a vs _ t l =>
        have hl : is.length = ps.length := by
          have : ∀ (is : List Nat) (ps : List P) (ρ ρ' : Loc), sets is ps ρ = some ρ' → is.length = ps.length := by
            intro is
            induction is with
            | nil => intro ps ρ ρ' h; cases ps with | nil => rfl | cons _ _ => cases h
            | cons i is ih => intro ps ρ ρ' h; cases ps with | nil => cases h | cons x xs => simp [ih xs _ _ h]
          exact this is ps ρ ρ' e
        exact ⟨a, vs, rfl, by rw [hK]; exact t.sq, by rw [l.length, hl], ps, ρ, st, μ, F, ρ', σ, l, L, S, e, SetAt.refl _ _, q⟩
    | _ => cases e
end
end Pd
end

section -- PdLc
set_option Elab.async false
set_option linter.all false
set_option maxRecDepth 100000
set_option maxHeartbeats 8000000
/-! PdLc: list comprehensions keep the plain semantics. -/
namespace Pd
open PySem PySem.Spec PyProof.Rows L2
section
variable {X : Cx} {T : Ct} {W : WX} {σ : L2.St} {H : Hp} {μ : List Addr} {F : Addr → Prop} {st : Sto} {pos : Pos} {ρ : Loc}
theorem wipeV_get (σ : L2.St) : ∀ (vs : List Nat) (j : Nat), (L2.wipe σ vs)[j]? = if j ∈ vs ∧ j < σ.length then some none else σ[j]?
  | [], j => by simp [L2.wipe]
  | v :: vs, j => by
    show ((L2.wipe σ vs).set v none)[j]? = _
    by_cases e : v = j
    · subst e
      by_cases hl : v < σ.length
      · rw [List.getElem?_set_self (by rw [wipe_length]; exact hl), if_pos ⟨by simp, hl⟩]
      · rw [List.getElem?_eq_none (by simp [wipe_length]; omega), if_neg (fun z => hl z.2), List.getElem?_eq_none (by omega)]
    · rw [List.getElem?_set_ne e, wipeV_get σ vs j]
      have : (j ∈ v :: vs ∧ j < σ.length) ↔ (j ∈ vs ∧ j < σ.length) := by
        simp only [List.mem_cons]
        constructor
        · rintro ⟨h | h, l⟩
          · exact absurd h.symm e
          · exact ⟨h, l⟩
        · rintro ⟨h, l⟩
          exact ⟨.inr h, l⟩
      by_cases c : j ∈ vs ∧ j < σ.length
      · rw [if_pos c, if_pos (this.mpr c)]
      · rw [if_neg c, if_neg (fun z => c (this.mp z))]
theorem wipe_setAt {σ0 σ' : L2.St} {is vs : List Nat} (h : SetAt is (L2.wipe σ0 vs) σ') (sub : ∀ i ∈ is, i ∈ vs) : L2.wipe σ' vs = L2.wipe σ0 vs := by
  apply List.ext_getElem?
  intro j
  rw [wipeV_get, wipeV_get]
  have hl : σ'.length = σ0.length := by rw [h.1, wipe_length]
  rw [hl]
  by_cases c : j ∈ vs ∧ j < σ0.length
  · rw [if_pos c, if_pos c]
  · rw [if_neg c, if_neg c]
    by_cases m : j ∈ vs
    · have : ¬ j < σ0.length := fun z => c ⟨m, z⟩
      rw [List.getElem?_eq_none (by omega), List.getElem?_eq_none (by omega)]
    · rw [h.2 j (fun z => m (sub j z)), wipeV_get, if_neg (fun z => m z.1)]
theorem wipe_len (ρ : Loc) : ∀ vs, (Pd.wipe ρ vs).length = ρ.length
  | [] => rfl
  | v :: vs => by show ((Pd.wipe ρ vs).set v none).length = _; rw [List.length_set, wipe_len ρ vs]
theorem RL.wipe {K : PySem.W.Frag} (L : RL K H μ F σ ρ) : ∀ vs : List Nat, RL K H μ F (L2.wipe σ vs) (Pd.wipe ρ vs)
  | [] => L
  | v :: vs => by
    have i := RL.wipe L vs
    refine ⟨?_, fun j d h => ?_⟩
    · show ((Pd.wipe ρ vs).set v none).length = ((L2.wipe σ vs).set v none).length
      rw [List.length_set, List.length_set]; exact i.len
    · have h : ((Pd.wipe ρ vs).set v none)[j]? = some (some d) := h
      show ∃ w, ((L2.wipe σ vs).set v none)[j]? = some (some w) ∧ _
      by_cases e : v = j
      · subst e
        by_cases hl : v < (Pd.wipe ρ vs).length
        · rw [List.getElem?_set_self hl] at h; cases h
        · rw [List.getElem?_eq_none (by simpa using hl)] at h; cases h
      · rw [List.getElem?_set_ne e] at h ⊢
        exact i.val j d h
theorem Keeps.upd {D : Addr} {o : HO} (f : F D) : Keeps H F (upd H D o) F := fun a u h n => ⟨by rw [upd_ne (fun z => n (by rw [z]; exact f))]; exact h, n⟩
/-- another object of ours, outside the store, is changed -/
theorem RSt.aside {K : PySem.W.Frag} (S : RSt K H μ F st) {D : Addr} {o : HO} (f : F D) (n : D ∉ μ) : RSt K (upd H D o) μ F st := by
  refine ⟨S.len, S.nd, S.sub, fun a h => ?_, fun i a u h1 h2 => ?_⟩
  · by_cases e : a = D
    · rw [e, upd_same]; simp
    · rw [upd_ne e]; exact S.live a h
  · have q := S.obj i a u h1 h2
    cases u with
    | gone => trivial
    | lst xs =>
      obtain ⟨vs, q1, q2⟩ := q
      exact ⟨vs, by rw [upd_ne (fun z => n (by rw [← z]; exact List.mem_of_getElem? h1))]; exact q1, q2.map (Keeps.upd f)⟩
theorem RD.map' {K : PySem.W.Frag} {H' : Hp} {F' : Addr → Prop} {v : V} (c : Keeps H F H' F') : ∀ {d : D}, RD K H μ F v d → RD K H' μ F' v d
  | .p x, h => Fz.map c h
  | .r i, h => h
theorem RL.map' {K : PySem.W.Frag} {H' : Hp} {F' : Addr → Prop} (c : Keeps H F H' F') (L : RL K H μ F σ ρ) : RL K H' μ F' σ ρ := ⟨L.len, fun i d h => let ⟨v, h1, h2⟩ := L.val i d h; ⟨v, h1, h2.map' c⟩⟩
theorem lc_reads {elt : FE} {tg : Tg} {w : FW} {cond : FT} {own : List Nat} (sub : ∀ i ∈ tg.ixs, i ∈ own) {Q : VK} (h : tX T W (rD T.K) (eComp elt tg w cond own) σ H Q) :
    tLc (tW T W w) (tG T tg) (tX T (fun cls d _ H' => W cls d σ H') rB cond) (tX T (fun cls d _ H' => W cls d σ H') (rD T.K) elt) own σ H Q := by
  obtain ⟨ρ, st, μ, F, L, S, h⟩ := h
  have h := nrm_post S h
  refine ⟨ρ, st, μ, F, L, S, Post.bind (R1 := rQ T.K) S.sub h fun b H1 μ1 F1 q s1 _ a1 a2 a3 a4 h => ?_⟩
  obtain ⟨v, xs, d⟩ := b
  obtain ⟨rfl, rv⟩ := a1
  intro J yl D hD
  have L1 := L.mono a3 S.sub a4
  by_cases hline : xs.length ≤ line
  case neg => simp only [if_neg hline] at h; exact h.elim
  simp only [if_pos hline] at h
  -- the invariant of the loop
  let Wn : Nat → Nat → Hp → Prop := fun i m H2 => m = xs.length - i ∧ i ≤ xs.length ∧ ∃ st2 μ2 F2 acc ys, H2 D = some (.lst acc) ∧ FzL T.K H2 F2 acc ys ∧ ys.length ≤ i ∧ F2 D ∧ D ∉ μ2 ∧ RSt T.K H2 μ2 F2 st2 ∧
    RL T.K H2 μ2 F2 (L2.wipe σ own) (Pd.wipe ρ own) ∧ RD T.K H2 μ2 F2 v d ∧ Ext H1 μ1 F1 H2 μ2 F2 ∧ μ1 <+: μ2 ∧
    Post T W (rD T.K) σ H1 μ1 F1 Q ((compL elt tg cond (Pd.wipe ρ own) xs d (xs.drop i) st2).bind fun zs s2 => putO (some (.l (ys ++ zs))) s2)
  refine ⟨Wn, ⟨xs.length, ?_⟩, ?_⟩
  · obtain ⟨t, e⟩ := a2.more hD (.lst [])
    refine ⟨by simp, Nat.zero_le _, s1, μ1, _, [], [], upd_same, .nil, Nat.le_refl _, .inr rfl, (fresh_no a2 hD).1, t, (L1.mono e a2.sub (List.prefix_refl _)).wipe own, rv.mono e a2.sub (List.prefix_refl _), e, List.prefix_refl _, ?_⟩
    rw [List.drop_zero]
    exact h
  · rintro i m H2 ⟨rfl, hi, st2, μ2, F2, acc, ys, hacc, lacc, hys, fD, nD, S2, L2', rv2, e2, p2, h2⟩
    by_cases hlt : i < xs.length
    · -- one more turn
      have hx : xs[i]? = some xs[i] := List.getElem?_eq_getElem hlt
      rw [List.drop_eq_getElem_cons hlt] at h2
      have stl : still xs d st2 = true := by
        cases c : still xs d st2 with
        | true => rfl
        | false => rw [compL, if_neg (by rw [c]; decide)] at h2; exact h2.elim
      rw [compL, if_pos stl] at h2
      cases ep : tg.put xs[i] (Pd.wipe ρ own) with
      | none => rw [ep] at h2; exact h2.elim
      | some ρ' =>
        rw [ep] at h2
        simp only at h2
        refine .inr ⟨((yl H2 μ2 F2 st2 S2 rv2 stl).2 i _ hx).1, Wn (i + 1) (xs.length - (i + 1)), fun H' nx => ⟨_, by omega, nx⟩, fun x H3 y => ?_⟩
        obtain ⟨F3, S3, e3, fx⟩ := ((yl H2 μ2 F2 st2 S2 rv2 stl).2 i _ hx).2 x H3 y
        have L3 := L2'.mono e3 S2.sub (List.prefix_refl _)
        have E3 := e2.trans a2.sub e3
        refine ⟨_, _, st2, μ2, F3, ρ', fx, L3, S3, ep, fun σ' L4 sa => ⟨wipe_setAt sa sub, ?_⟩⟩
        -- the test
        generalize hk : (fun cls d (_ : L2.St) H' => W cls d σ H') = W' at *
        have hw : ∀ {σ' : L2.St} (c : Value) (d : Option Addr) (H : Hp), W c d σ H → W' c d σ' H := fun c d H z => by rw [← hk]; exact z
        have assoc : ∀ {β : Type} {r : Res Bool} {f : Bool → Sto → Res (List P)} {g : List P → Sto → Res Pd.D}, (r.bind f).bind g = r.bind fun a s => (f a s).bind g := fun {β r f g} => by cases r <;> rfl
        have assoc2 : ∀ {r : Res P} {f : P → Sto → Res (List P)} {g : List P → Sto → Res Pd.D}, (r.bind f).bind g = r.bind fun a s => (f a s).bind g := fun {r f g} => by cases r <;> rfl
        have assoc3 : ∀ {r : Res (List P)} {f : List P → Sto → Res (List P)} {g : List P → Sto → Res Pd.D}, (r.bind f).bind g = r.bind fun a s => (f a s).bind g := fun {r f g} => by cases r <;> rfl
        rw [assoc (β := Unit)] at h2
        refine ⟨ρ', st2, μ2, F3, L4, S3, Post.bind0 (R1 := rB) a2.sub E3 p2 (fun c d H z => hw c d H z) h2 fun k H4 μ4 F4 k' s4 _ c1 c2 c3 c4 h3 => ?_⟩
        cases c1
        have E4 := E3.trans a2.sub c3
        have P4 := p2.trans c4
        have keep4 : ∀ {H' : Hp} {F' : Addr → Prop} {μ' : List Addr}, Ext H2 μ2 F2 H' μ' F' → H' D = some (.lst acc) ∧ F' D ∧ D ∉ μ' := fun {H' F' μ'} e => ⟨e.keep D _ hacc nD, e.fr D fD, fun m => (e.new D m).elim nD fun z => by rw [hacc] at z; cases z⟩
        have e24 := e3.trans S2.sub c3
        refine ifb (fun ek => ?_) fun ek => ?_
        · subst ek
          simp only [if_true] at h3
          rw [assoc2] at h3
          have L5 := L4.mono c3 S3.sub c4
          refine ⟨ρ', s4, μ4, F4, L5, c2, frz_post c2 (Post.bind0 (R1 := rP T.K) a2.sub E4 P4 (fun c d H z => hw c d H z) h3 fun yv H5 μ5 F5 y s5 _ d1 d2 d3 d4 h4 => ?_)⟩
          rw [assoc3] at h4
          have e25 := e24.trans S2.sub d3
          obtain ⟨k1, k2, k3⟩ := keep4 e25
          have la : FzL T.K H5 F5 acc ys := lacc.mono e25 S2.sub
          refine ⟨acc, k1, by rw [la.length, line_eq]; omega, rfl, hlt, s5, μ5, F5, acc ++ [yv], ys ++ [y], upd_same, ?_, by simp; omega, k2, k3, d2.aside k2 k3, ?_, ?_, ?_, P4.trans d4, ?_⟩
          · exact (la.append (.cons d1 .nil)).map (Keeps.upd k2)
          · exact (L2'.mono e25 S2.sub (c4.trans d4)).map' (Keeps.upd k2)
          · exact (rv2.mono e25 S2.sub (c4.trans d4)).map' (Keeps.upd k2)
          · have E5 := E4.trans a2.sub d3
            exact ⟨fun a o z n => by rw [upd_ne (ne_of_none z hD)]; exact E5.keep a o z n, E5.fr, E5.old, E5.new⟩
          · simpa only [Res.bind_ok, List.append_assoc, List.cons_append, List.nil_append] using h4
        · subst ek
          simp only [Bool.false_eq_true, if_false] at h3
          obtain ⟨k1, k2, k3⟩ := keep4 e24
          exact ⟨rfl, hlt, s4, μ4, F4, acc, ys, k1, lacc.mono e24 S2.sub, by omega, k2, k3, c2, L2'.mono e24 S2.sub c4, rv2.mono e24 S2.sub c4, E4, P4, h3⟩
    · -- the end
      have ei : i = xs.length := by omega
      subst ei
      rw [List.drop_length] at h2
      have stl : still xs d st2 = true := by
        cases c : still xs d st2 with
        | true => rfl
        | false => rw [compL, if_neg (by rw [c]; decide)] at h2; exact h2.elim
      rw [compL, if_pos stl] at h2
      refine .inl ⟨(yl H2 μ2 F2 st2 S2 rv2 stl).1, ?_⟩
      have h3 : ∀ b H' μ' F', rD T.K H' μ' F' b (.r st2.length) → RSt T.K H' μ' F' (st2 ++ [.lst (ys ++ [])]) → Ext H1 μ1 F1 H' μ' F' → μ1 <+: μ' → Q b H' := h2
      rw [List.append_nil] at h3
      refine h3 (.ref D) H2 (μ2 ++ [D]) F2 ⟨D, by rw [← S2.len]; simp, rfl⟩ (S2.new nD fD ⟨acc, hacc, lacc⟩) ⟨e2.keep, e2.fr, e2.old, fun a m => ?_⟩ (p2.trans (List.prefix_append _ _))
      rcases List.mem_append.mp m with m | m
      · exact e2.new a m
      · have : a = D := by simpa using m
        exact .inr (by rw [this]; exact hD)
end
end Pd
end

section -- PdStm
set_option Elab.async false
set_option linter.all false
set_option maxRecDepth 100000
set_option maxHeartbeats 8000000
/-! PdStm: statements, loops, calls, defs keep the plain semantics. -/
namespace Pd
open PySem PySem.Spec PyProof.Rows L2
def PostS (T : Ct) (W : WX) (m : Nat) (H : Hp) (μ : List Addr) (F : Addr → Prop) (D : Ends) : RS → Prop
  | .next ρ' st' => ∀ σ' H' μ' F', RL T.K H' μ' F' σ' ρ' → RSt T.K H' μ' F' st' → Ext H μ F H' μ' F' → μ'.take m = μ.take m → D.nx σ' H'
  | .brk ρ' st' => ∀ σ' H' μ' F', RL T.K H' μ' F' σ' ρ' → RSt T.K H' μ' F' st' → Ext H μ F H' μ' F' → μ'.take m = μ.take m → D.bk σ' H'
  | .cont ρ' st' => ∀ σ' H' μ' F', RL T.K H' μ' F' σ' ρ' → RSt T.K H' μ' F' st' → Ext H μ F H' μ' F' → μ'.take m = μ.take m → D.ct σ' H'
  | .ret d st' => ∀ v H' μ' F', RD T.K H' μ' F' v d → RSt T.K H' μ' F' st' → Ext H μ F H' μ' F' → μ'.take m = μ.take m → D.rt v H'
  | .exc x ρ' st' => ∀ cls da σ' H' μ' F', RX T H' F' x cls da → RL T.K H' μ' F' σ' ρ' → RSt T.K H' μ' F' st' → Ext H μ F H' μ' F' → μ'.take m = μ.take m → W cls da σ' H'
  | .bad => False
def tS (T : Ct) (W : WX) (m : Nat) (g : FS) : TS := fun D σ H => ∃ ρ st μ F, m ≤ st.length ∧ RL T.K H μ F σ ρ ∧ RSt T.K H μ F st ∧ PostS T W m H μ F D (g ρ st)
section
variable {X : Cx} {T : Ct} {W : WX} {m : Nat} {σ : L2.St} {H H1 : Hp} {μ μ1 : List Addr} {F F1 : Addr → Prop} {st : Sto} {pos : Pos} {ρ : Loc} {D D' : Ends}
theorem PostS.ext (sub : ∀ a ∈ μ, F a) (e : Ext H μ F H1 μ1 F1) (pre : μ1.take m = μ.take m) : ∀ {r : RS}, PostS T W m H μ F D r → PostS T W m H1 μ1 F1 D r
  | .next _ _, h => fun σ' H' μ' F' h1 h2 h3 h4 => h σ' H' μ' F' h1 h2 (e.trans sub h3) (h4.trans pre)
  | .brk _ _, h => fun σ' H' μ' F' h1 h2 h3 h4 => h σ' H' μ' F' h1 h2 (e.trans sub h3) (h4.trans pre)
  | .cont _ _, h => fun σ' H' μ' F' h1 h2 h3 h4 => h σ' H' μ' F' h1 h2 (e.trans sub h3) (h4.trans pre)
  | .ret _ _, h => fun σ' H' μ' F' h1 h2 h3 h4 => h σ' H' μ' F' h1 h2 (e.trans sub h3) (h4.trans pre)
  | .exc _ _ _, h => fun c d σ' H' μ' F' h0 h1 h2 h3 h4 => h c d σ' H' μ' F' h0 h1 h2 (e.trans sub h3) (h4.trans pre)
  | .bad, h => h
theorem pre_take (h : μ <+: μ1) (hm : m ≤ μ.length) : μ1.take m = μ.take m := by
  obtain ⟨t, rfl⟩ := h
  rw [List.take_append_of_le_length hm]
theorem take_len (h : μ1.take m = μ.take m) (hm : m ≤ μ.length) : m ≤ μ1.length := by
  have := congrArg List.length h
  rw [List.length_take, List.length_take] at this
  omega
/-- an expression, then what follows -/
theorem PostS.of {α β : Type} {R : Rel α β} {r : Res α} {k : α → Sto → RS} {Q : β → Hp → Prop} (L : RL T.K H μ F σ ρ) (S : RSt T.K H μ F st) (hm : m ≤ st.length) (h : PostS T W m H μ F D (RS.of ρ r k))
    (n : ∀ b H1 μ1 F1 a s1, r = .ok a s1 → R H1 μ1 F1 b a → RSt T.K H1 μ1 F1 s1 → Ext H μ F H1 μ1 F1 → μ <+: μ1 → RL T.K H1 μ1 F1 σ ρ → PostS T W m H μ F D (k a s1) → Q b H1) : Post T W R σ H μ F Q r := by
  have hm' : m ≤ μ.length := by rw [S.len]; exact hm
  cases r with
  | ok a s1 => exact fun b H' μ' F' h1 h2 h3 h4 => n b H' μ' F' a s1 rfl h1 h2 h3 h4 (L.mono h3 S.sub h4) h
  | exc x s1 => exact fun c d H' μ' F' h1 h2 h3 h4 => h c d σ H' μ' F' h1 (L.mono h3 S.sub h4) h2 h3 (pre_take h4 hm')
  | bad => exact h
variable {e c : Expr} {a b : List Stmt} {st1 : Stmt} {rest : List Stmt} {f : FE} {ft : FT} {g g' : FS} {gs : List FS}
theorem ss_pass : PS X (.Pass pos) (tS T W m sPass) := PS.imp ps_pass fun D σ H h => by
  obtain ⟨ρ, st, μ, F, hm, L, S, h⟩ := h
  exact h σ H μ F L S (Ext.refl _ _ _) rfl
theorem ss_brk : PS X (.Break pos) (tS T W m sBrk) := PS.imp ps_break fun D σ H h => by
  obtain ⟨ρ, st, μ, F, hm, L, S, h⟩ := h
  exact h σ H μ F L S (Ext.refl _ _ _) rfl
theorem ss_cont : PS X (.Continue pos) (tS T W m sCont) := PS.imp ps_continue fun D σ H h => by
  obtain ⟨ρ, st, μ, F, hm, L, S, h⟩ := h
  exact h σ H μ F L S (Ext.refl _ _ _) rfl
theorem sss_nil : PSs X [] (tS T W m (blk [])) := PSs.imp pss_nil fun D σ H h => by
  obtain ⟨ρ, st, μ, F, hm, L, S, h⟩ := h
  exact h σ H μ F L S (Ext.refl _ _ _) rfl
theorem sss_one (h1 : PS X st1 (tS T W m g)) : PSs X [st1] (tS T W m (blk [g])) := pss_one h1
theorem seq_reads {u : TS} (hu : ∀ D σ H, tS T W m g' D σ H → u D σ H) (h : tS T W m (FS.seq g g') D σ H) : tSeq (tS T W m g) u D σ H := by
  obtain ⟨ρ, st, μ, F, hm, L, S, h⟩ := h
  refine ⟨ρ, st, μ, F, hm, L, S, ?_⟩
  unfold FS.seq at h
  cases e : g ρ st with
  | next ρ' st' =>
    rw [e] at h
    exact fun σ' H' μ' F' h1 h2 h3 h4 => hu _ _ _ ⟨ρ', st', μ', F', by rw [← h2.len]; exact take_len h4 (by rw [S.len]; exact hm), h1, h2, h.ext S.sub h3 h4⟩
  | ret d s => rw [e] at h; exact h
  | brk ρ s => rw [e] at h; exact h
  | cont ρ s => rw [e] at h; exact h
  | exc x ρ s => rw [e] at h; exact h
  | bad => rw [e] at h; exact h
theorem sss_cons (h1 : PS X st1 (tS T W m g)) (h2 : PSs X rest (tS T W m (blk (g' :: gs)))) : PSs X (st1 :: rest) (tS T W m (blk (g :: g' :: gs))) :=
  PSs.imp (pss_cons h1 h2) fun D σ H h => seq_reads (fun _ _ _ z => z) h
/-! ### simple statements -/
theorem cutback {H' : Hp} {μ' : List Addr} {F' : Addr → Prop} {s1 : Sto} (S : RSt T.K H μ F st) (a2 : RSt T.K H' μ' F' s1) (a3 : Ext H μ F H' μ' F') (a4 : μ <+: μ') : RSt T.K H' μ F' (s1.take st.length) ∧ Ext H μ F H' μ F' := by
  have t := a2.take st.length
  rw [← S.len, pre_len a4, S.len] at t
  exact ⟨t, ⟨a3.keep, a3.fr, a3.old, fun a m => .inl m⟩⟩
theorem ss_expr (he : PE X e (tX T W (rD T.K) f)) (hs : swapsWith e none pos.line X.env = pure false := by rfl) : PS X (.Expr e pos) (tS T W m (sExpr f)) := PS.imp (ps_expr he hs) fun D σ H h => by
  obtain ⟨ρ, st, μ, F, hm, L, S, h⟩ := h
  refine ⟨ρ, st, μ, F, L, S, PostS.of (R := rD T.K) L S hm h fun v H1 μ1 F1 d s1 _ a1 a2 a3 a4 a5 h => ?_⟩
  obtain ⟨t, e0⟩ := cutback S a2 a3 a4
  exact h σ H1 μ F1 (L.mono e0 S.sub (List.prefix_refl _)) t e0 rfl
theorem asg_reads {i : Nat} (h : tS T W m (sAsg i f) D σ H) : tX T W (rD T.K) f σ H (fun x H1 => D.nx (σ.set i (some x)) H1) := by
  obtain ⟨ρ, st, μ, F, hm, L, S, h⟩ := h
  have hm' : m ≤ μ.length := by rw [S.len]; exact hm
  exact ⟨ρ, st, μ, F, L, S, PostS.of (R := rD T.K) L S hm h fun v H1 μ1 F1 d s1 _ a1 a2 a3 a4 a5 h => h _ H1 μ1 F1 (a5.set a1) a2 a3 (pre_take a4 hm')⟩
theorem ss_set {i : Nat} {x : Str} {pos' : Pos} (hN : X.N.Nodup) (he : PE X e (tX T W (rD T.K) f)) (hi : X.N[i]? = some x := by rfl) (hx : L2.Loc X.env.scope x := by first | exact Or.inl rfl | exact Or.inr rfl) (hs : swapsWith e (some (.Name x pos')) pos.line X.env = pure false := by rfl) (hf : X.fn x = true ∨ X.env.scope.names.lookup x = some .local := by first | exact .inl rfl | exact .inr rfl) :
    PS X (.Assign [.Name x pos'] e pos) (tS T W m (sAsg i f)) := PS.imp (ps_set hN hi hx he hs hf) fun D σ H h => asg_reads h
theorem ss_asgT {is : List Nat} {es : List Expr} {k : Nat} {tpos : Pos} (hK : X.K = T.K) (hc : X.calm = true) (hg : PGs X es (tGs T is is)) (he : PE X e (tX T W (rD T.K) f)) (hn : (assignEach es X.env).length = is.length := by rfl) (hst : (assignEach es X.env).findIdx? (·.1) = none := by rfl) (hs : swapsWithSole [.Tuple es k tpos] e pos.line X.env = pure false := by rfl) (hw : swappedStores [.Tuple es k tpos] e X.env = pure none := by rfl)
    (h1 : (assignEach [.Tuple es k tpos] X.env).map (·.2) = [assign (.Tuple es k tpos) X.env] := by rfl) : PS X (.Assign [.Tuple es k tpos] e pos) (tS T W m (sAsgT is f)) := PS.imp (ps_asg he (sg_tup hK hc hg hn hst) hs hw h1) fun D σ H h => by
  obtain ⟨ρ, st, μ, F, hm, L, S, h⟩ := h
  refine ⟨ρ, st, μ, F, L, S, frz_post S (PostS.of (R := rP T.K) L S hm h fun v H1 μ1 F1 x s1 _ a1 a2 a3 a4 a5 h => ?_)⟩
  have hm' : m ≤ μ.length := by rw [S.len]; exact hm
  split at h
  · rename_i xs _
    cases e1 : sets is xs ρ with
    | none => rw [e1] at h; exact h.elim
    | some ρ' =>
      rw [e1] at h
      exact ⟨.tup xs, ρ, s1, μ1, F1, ρ', a1, a5, a2, e1, fun σ' L' _ => h σ' H1 μ1 F1 L' a2 a3 (pre_take a4 hm')⟩
  · exact h.elim
theorem ss_ret (he : PE X e (tX T W (rD T.K) f)) : PS X (.Return (some e) pos) (tS T W m (sRet f)) := PS.imp (ps_ret he) fun D σ H h => by
  obtain ⟨ρ, st, μ, F, hm, L, S, h⟩ := h
  have hm' : m ≤ μ.length := by rw [S.len]; exact hm
  exact ⟨ρ, st, μ, F, L, S, PostS.of (R := rD T.K) L S hm h fun v H1 μ1 F1 d s1 _ a1 a2 a3 a4 a5 h => h v H1 μ1 F1 a1 a2 a3 (pre_take a4 hm')⟩
theorem ss_retN : PS X (.Return none pos) (tS T W m sRetN) := PS.imp ps_retN fun D σ H h => by
  obtain ⟨ρ, st, μ, F, hm, L, S, h⟩ := h
  exact h .non H μ F .non S (Ext.refl _ _ _) rfl
theorem ss_if (hc : PT X c (tX T W rB ft)) (ha : PSs X a (tS T W m g)) (hb : PSs X b (tS T W m g')) : PS X (.If c a b pos) (tS T W m (sIf ft g g')) := PS.imp (ps_if hc ha hb) fun D σ H h => by
  obtain ⟨ρ, st, μ, F, hm, L, S, h⟩ := h
  have hm' : m ≤ μ.length := by rw [S.len]; exact hm
  refine ⟨ρ, st, μ, F, L, S, PostS.of (R := rB) L S hm h fun k H1 μ1 F1 k' s1 _ a1 a2 a3 a4 a5 h => ?_⟩
  cases a1
  have hm1 : m ≤ s1.length := by rw [← a2.len]; exact Nat.le_trans hm' a4.length_le
  refine ifb (fun e => ?_) fun e => ?_
  · subst e
    exact ⟨ρ, s1, μ1, F1, hm1, a5, a2, h.ext S.sub a3 (pre_take a4 hm')⟩
  · subst e
    exact ⟨ρ, s1, μ1, F1, hm1, a5, a2, h.ext S.sub a3 (pre_take a4 hm')⟩
/-! ### names that are dead -/
theorem RL.drop {K : PySem.W.Frag} (L : RL K H μ F σ ρ) (v : Nat) : RL K H μ F σ (ρ.set v none) := by
  refine ⟨by simp [L.len], fun j d h => ?_⟩
  by_cases e : v = j
  · subst e
    by_cases hl : v < ρ.length
    · rw [List.getElem?_set_self hl] at h; cases h
    · rw [List.getElem?_eq_none (by simpa using hl)] at h; cases h
  · rw [List.getElem?_set_ne e] at h
    exact L.val j d h
theorem RSt.kill {K : PySem.W.Frag} (S : RSt K H μ F st) (i : Nat) : RSt K H μ F (st.set i .gone) := by
  refine ⟨by simp [S.len], S.nd, S.sub, S.live, fun j a o h1 h2 => ?_⟩
  by_cases e : i = j
  · subst e
    by_cases hl : i < st.length
    · rw [List.getElem?_set_self hl] at h2; cases h2; trivial
    · rw [List.getElem?_eq_none (by simpa using hl)] at h2; cases h2
  · rw [List.getElem?_set_ne e] at h2
    exact S.obj j a o h1 h2
theorem kill_ok {K : PySem.W.Frag} (n : Nat) : ∀ (vs : List Nat) (ρ : Loc) (st : Sto), RL K H μ F σ ρ → RSt K H μ F st → RL K H μ F σ (killL n vs ρ st).1 ∧ RSt K H μ F (killL n vs ρ st).2
  | [], _, _, L, S => ⟨L, S⟩
  | v :: vs, ρ, st, L, S => by
    have one : RL K H μ F σ (kill1 n v ρ st).1 ∧ RSt K H μ F (kill1 n v ρ st).2 := by
      unfold kill1
      split
      · refine ⟨L.drop v, ?_⟩
        dsimp only
        split
        · exact S
        · exact S.kill _
      · exact ⟨L.drop v, S⟩
    exact kill_ok n vs _ _ one.1 one.2
theorem clean_ok {K : PySem.W.Frag} {n : Nat} {vs : List Nat} (L : RL K H μ F σ ρ) (S : RSt K H μ F st) (hn : n ≤ st.length) : ∃ μ', RL K H μ' F σ (clean n vs ρ st).1 ∧ RSt K H μ' F (clean n vs ρ st).2 ∧ μ'.take n = μ.take n ∧ (∀ a ∈ μ', a ∈ μ) ∧ n ≤ (clean n vs ρ st).2.length := by
  obtain ⟨L1, S1⟩ := kill_ok n vs ρ st L S
  unfold clean
  generalize hp : killL n vs ρ st = p at *
  have hl : p.2.length = st.length := by rw [← S1.len, S.len]
  generalize hk : n + live (p.2.drop n) = k
  have hnk : n ≤ k := by omega
  split
  · rename_i hb
    refine ⟨μ.take k, ⟨L1.len, fun i d h => ?_⟩, S1.take k, ?_, fun a h => List.mem_of_mem_take h, ?_⟩
    · obtain ⟨v, h1, h2⟩ := L1.val i d h
      refine ⟨v, h1, ?_⟩
      cases d with
      | p x => exact h2
      | r j =>
        obtain ⟨a, h3, h4⟩ := h2
        have : bel k (some (D.r j)) = true := List.all_eq_true.mp hb _ (List.mem_of_getElem? h)
        have hj : j < k := by simpa [bel] using this
        exact ⟨a, by rw [List.getElem?_take, if_pos hj]; exact h3, h4⟩
    · rw [List.take_take, Nat.min_eq_left hnk]
    · show n ≤ (p.2.take k).length
      rw [List.length_take]; omega
  · exact ⟨μ, L1, S1, rfl, fun _ h => h, by omega⟩
/-! ### loops -/
theorem taken {n : Nat} (h : μ1.take n = μ) : μ <+: μ1 := h ▸ List.take_prefix n μ1
theorem take_less {m n : Nat} {μ2 : List Addr} (hmn : m ≤ n) (h : μ2.take n = μ1.take n) : μ2.take m = μ1.take m := by
  have := congrArg (List.take m) h
  rwa [List.take_take, List.take_take, Nat.min_eq_left hmn] at this
variable {tg iter : Expr} {body : List Stmt} {t : Tg} {w : FW} {vs : List Nat}
/-- a loop's body from any store on -/
def tB (T : Ct) (W : WX) (g : FS) : TS := fun D σ H => ∃ n, tS T W n g D σ H
theorem sb_all' (hb : ∀ n, PSs X body (tS T W n g)) : PSs X body (tB T W g) := ⟨fun pins s σ H D I ⟨n, h⟩ => (hb n).run pins s σ H D I h⟩
/-- behind a body's turn -/
theorem turn_post {N N' : L2.St → Hp → Prop} {n : Nat} {H2 : Hp} {μ2 : List Addr} {F2 : Addr → Prop} {r : RS} {k : Loc → Sto → RS} {kb : Loc → Sto → RS} (hmn : m ≤ n) (sub : ∀ a ∈ μ, F a) (e : Ext H μ F H2 μ2 F2) (pre : μ2.take n = μ.take n) (S2 : ∀ a ∈ μ2, F2 a)
    (h : PostS T W m H μ F D (match r with
      | .next ρ2 s2 => k ρ2 s2
      | .cont ρ2 s2 => k ρ2 s2
      | .brk ρ2 s2 => kb ρ2 s2
      | q => q))
    (hk : ∀ ρ3 s3 σ3 H3 μ3 F3, RL T.K H3 μ3 F3 σ3 ρ3 → RSt T.K H3 μ3 F3 s3 → Ext H2 μ2 F2 H3 μ3 F3 → μ3.take n = μ2.take n → PostS T W m H μ F D (k ρ3 s3) → N σ3 H3)
    (hb : ∀ ρ3 s3 σ3 H3 μ3 F3, RL T.K H3 μ3 F3 σ3 ρ3 → RSt T.K H3 μ3 F3 s3 → Ext H2 μ2 F2 H3 μ3 F3 → μ3.take n = μ2.take n → PostS T W m H μ F D (kb ρ3 s3) → N' σ3 H3) :
    PostS T W n H2 μ2 F2 { D with nx := N, ct := N, bk := N' } r := by
  cases r with
  | next ρ3 s3 => exact fun σ' H' μ' F' h1 h2 h3 h4 => hk ρ3 s3 σ' H' μ' F' h1 h2 h3 h4 h
  | cont ρ3 s3 => exact fun σ' H' μ' F' h1 h2 h3 h4 => hk ρ3 s3 σ' H' μ' F' h1 h2 h3 h4 h
  | brk ρ3 s3 => exact fun σ' H' μ' F' h1 h2 h3 h4 => hb ρ3 s3 σ' H' μ' F' h1 h2 h3 h4 h
  | ret d s3 => exact fun v H' μ' F' h1 h2 h3 h4 => h v H' μ' F' h1 h2 (e.trans sub h3) (take_less hmn (h4.trans pre))
  | exc x ρ3 s3 => exact fun c d σ' H' μ' F' h0 h1 h2 h3 h4 => h c d σ' H' μ' F' h0 h1 h2 (e.trans sub h3) (take_less hmn (h4.trans pre))
  | bad => exact h
theorem for_reads (h : tS T W m (sFor t w g vs) D σ H) : tFor (tW T W w) (tG T t) (tB T W g) D σ H := by
  obtain ⟨ρ, st, μ, F, hm, L, S, h⟩ := h
  have hm' : m ≤ μ.length := by rw [S.len]; exact hm
  refine ⟨ρ, st, μ, F, L, S, PostS.of (R := rQ T.K) L S hm h fun b H1 μ1 F1 q s1 _ a1 a2 a3 a4 a5 h => ?_⟩
  obtain ⟨v, xs, d⟩ := b
  obtain ⟨rfl, rv⟩ := a1
  intro J yl
  have h1 := h.ext S.sub a3 (pre_take a4 hm')
  have hmn : m ≤ s1.length := by rw [← a2.len]; exact Nat.le_trans hm' a4.length_le
  have full : μ1.take s1.length = μ1 := by rw [← a2.len, List.take_length]
  -- the invariant
  let Wn : Nat → Nat → L2.St → Hp → Prop := fun i k σ2 H2 => k = xs.length - i ∧ i ≤ xs.length ∧ ∃ ρ2 st2 μ2 F2, RL T.K H2 μ2 F2 σ2 ρ2 ∧ RSt T.K H2 μ2 F2 st2 ∧ Ext H1 μ1 F1 H2 μ2 F2 ∧ μ2.take s1.length = μ1 ∧ s1.length ≤ st2.length ∧
    PostS T W m H1 μ1 F1 D (forL t g vs s1.length xs d (xs.drop i) ρ2 st2)
  refine ⟨Wn, ⟨xs.length, by simp, Nat.zero_le _, ρ, s1, μ1, F1, a5, a2, Ext.refl _ _ _, full, Nat.le_refl _, by rw [List.drop_zero]; exact h1⟩, ?_⟩
  rintro i k σ2 H2 ⟨rfl, hi, ρ2, st2, μ2, F2, L2', S2, e2, p2, hl2, h2⟩
  have rv2 : RD T.K H2 μ2 F2 v d := rv.mono e2 a2.sub (taken p2)
  have stl : still xs d st2 = true := by
    cases c : still xs d st2 with
    | true => rfl
    | false =>
      cases q : xs.drop i with
      | nil => rw [q, forL, if_neg (by rw [c]; decide)] at h2; exact h2.elim
      | cons y r => rw [q, forL, if_neg (by rw [c]; decide)] at h2; exact h2.elim
  by_cases hlt : i < xs.length
  · have hx : xs[i]? = some xs[i] := List.getElem?_eq_getElem hlt
    rw [List.drop_eq_getElem_cons hlt, forL, if_pos stl] at h2
    cases ep : t.put xs[i] ρ2 with
    | none => rw [ep] at h2; exact h2.elim
    | some ρ' =>
      rw [ep] at h2
      simp only at h2
      refine .inr ⟨((yl H2 μ2 F2 st2 S2 rv2 stl).2 i _ hx).1, Wn (i + 1) (xs.length - (i + 1)), fun σ' H' nx => ⟨_, by omega, nx⟩, fun x H3 y => ?_⟩
      obtain ⟨F3, S3, e3, fx⟩ := ((yl H2 μ2 F2 st2 S2 rv2 stl).2 i _ hx).2 x H3 y
      have L3 := L2'.mono e3 S2.sub (List.prefix_refl _)
      have E3 := e2.trans a2.sub e3
      refine ⟨_, ρ2, st2, μ2, F3, ρ', fx, L3, S3, ep, fun σ' L4 _ => ⟨s1.length, ρ', st2, μ2, F3, hl2, L4, S3, ?_⟩⟩
      refine turn_post (n := s1.length) hmn a2.sub E3 (by rw [p2, full]) S3.sub h2 (fun ρ3 s3 σ3 H4 μ3 F4 c1 c2 c3 c4 h3 => ?_) fun ρ3 s3 σ3 H4 μ3 F4 c1 c2 c3 c4 h3 => ?_
      · have hl3 : s1.length ≤ s3.length := by rw [← c2.len]; exact take_len c4 (by rw [S3.len]; exact hl2)
        obtain ⟨μ', d1, d2, d3, d4, d5⟩ := clean_ok (vs := vs) c1 c2 hl3
        refine ⟨rfl, hlt, _, _, μ', F4, d1, d2, ?_, by rw [d3, c4, p2], d5, h3⟩
        have E4 := E3.trans a2.sub c3
        exact ⟨E4.keep, E4.fr, E4.old, fun a ma => E4.new a (d4 a ma)⟩
      · have hl3 : s1.length ≤ s3.length := by rw [← c2.len]; exact take_len c4 (by rw [S3.len]; exact hl2)
        obtain ⟨μ', d1, d2, d3, d4, d5⟩ := clean_ok (vs := vs) c1 c2 hl3
        have E4 := E3.trans a2.sub c3
        exact h3 σ3 H4 μ' F4 d1 d2 ⟨E4.keep, E4.fr, E4.old, fun a ma => E4.new a (d4 a ma)⟩ (take_less hmn (by rw [d3, c4, p2, full]))
  · have ei : i = xs.length := by omega
    subst ei
    rw [List.drop_length, forL, if_pos stl] at h2
    exact .inl ⟨(yl H2 μ2 F2 st2 S2 rv2 stl).1, h2 σ2 H2 μ2 F2 L2' S2 e2 (take_less hmn (by rw [p2, full]))⟩
theorem ss_for (hp : PassesOwn (model X.prog X.w) X.A X.env X.xe) (hc : X.calm = true) (hi : PI X tg iter (tW T W w)) (hg : PG X tg (tG T t)) (hb : ∀ n, PSs X body (tS T W n g)) (hs : ∀ x, foldedSetIterable iter X.env x = pure x := by intro _; rfl) :
    PS X (.For tg iter body [] pos) (tS T W m (sFor t w g vs)) := PS.imp (ps_for hp hc hi hg (sb_all' hb) hs) fun D σ H h => for_reads h
theorem while_reads {k : Nat} (h : tS T W m (sWh k ft g vs) D σ H) : tWhile (tX T W rB ft) (tB T W g) D σ H := by
  obtain ⟨ρ, st, μ, F, hm, L, S, h⟩ := h
  have full : μ.take st.length = μ := by rw [← S.len, List.take_length]
  let Wn : Nat → L2.St → Hp → Prop := fun i σ2 H2 => ∃ ρ2 st2 μ2 F2, RL T.K H2 μ2 F2 σ2 ρ2 ∧ RSt T.K H2 μ2 F2 st2 ∧ Ext H μ F H2 μ2 F2 ∧ μ2.take st.length = μ ∧ st.length ≤ st2.length ∧ PostS T W m H μ F D (whL ft g vs st.length i ρ2 st2)
  refine ⟨Wn, ⟨k, ρ, st, μ, F, L, S, Ext.refl _ _ _, full, Nat.le_refl _, h⟩, ?_⟩
  rintro i σ2 H2 ⟨ρ2, st2, μ2, F2, L2', S2, e2, p2, hl2, h2⟩
  cases i with
  | zero => exact h2.elim
  | succ i =>
    rw [whL] at h2
    have h2' := h2
    have hW : ∀ {r : Res Bool} {k : Bool → Sto → RS}, PostS T W m H μ F D (RS.of ρ2 r k) → ∀ {Q : Bool → Hp → Prop}, (∀ b H1 μ1 F1 s1, r = .ok b s1 → RSt T.K H1 μ1 F1 s1 → Ext H2 μ2 F2 H1 μ1 F1 → μ2 <+: μ1 → RL T.K H1 μ1 F1 σ2 ρ2 → PostS T W m H μ F D (k b s1) → Q b H1) → Post T W rB σ2 H2 μ2 F2 Q r := fun {r k} h {Q} n => by
      cases r with
      | ok a s1 => exact fun b H' μ' F' h1 h2 h3 h4 => by cases h1; exact n _ H' μ' F' s1 rfl h2 h3 h4 (L2'.mono h3 S2.sub h4) h
      | exc x s1 => exact fun c d H' μ' F' h1 h2 h3 h4 => h c d σ2 H' μ' F' h1 (L2'.mono h3 S2.sub h4) h2 (e2.trans S.sub h3) (take_less hm (by rw [pre_take h4 (by rw [S2.len]; exact hl2), p2, full]))
      | bad => exact h
    refine ⟨ρ2, st2, μ2, F2, L2', S2, hW h2' fun b H3 μ3 F3 s3 _ a2 a3 a4 a5 h => ?_⟩
    have E3 := e2.trans S.sub a3
    have P3 : μ3.take st.length = μ := by rw [pre_take a4 (by rw [S2.len]; exact hl2), p2]
    have hl3 : st.length ≤ s3.length := by rw [← a2.len]; exact Nat.le_trans (by rw [S2.len]; exact hl2) a4.length_le
    refine ifb (fun e => ?_) fun e => ?_
    · subst e
      simp only [if_true] at h
      refine ⟨Wn i, fun σ' H' nx => ⟨i, by omega, nx⟩, st.length, ρ2, s3, μ3, F3, hl3, a5, a2, ?_⟩
      refine turn_post (n := st.length) hm S.sub E3 (by rw [P3, full]) a2.sub h (fun ρ4 s4 σ4 H4 μ4 F4 c1 c2 c3 c4 h3 => ?_) fun ρ4 s4 σ4 H4 μ4 F4 c1 c2 c3 c4 h3 => ?_
      · have hl4 : st.length ≤ s4.length := by rw [← c2.len]; exact take_len c4 (by rw [a2.len]; exact hl3)
        obtain ⟨μ', d1, d2, d3, d4, d5⟩ := clean_ok (vs := vs) c1 c2 hl4
        have E4 := E3.trans S.sub c3
        exact ⟨_, _, μ', F4, d1, d2, ⟨E4.keep, E4.fr, E4.old, fun a ma => E4.new a (d4 a ma)⟩, by rw [d3, c4, P3], d5, h3⟩
      · have hl4 : st.length ≤ s4.length := by rw [← c2.len]; exact take_len c4 (by rw [a2.len]; exact hl3)
        obtain ⟨μ', d1, d2, d3, d4, d5⟩ := clean_ok (vs := vs) c1 c2 hl4
        have E4 := E3.trans S.sub c3
        exact h3 σ4 H4 μ' F4 d1 d2 ⟨E4.keep, E4.fr, E4.old, fun a ma => E4.new a (d4 a ma)⟩ (take_less hm (by rw [d3, c4, P3, full]))
    · subst e
      exact h σ2 H3 μ3 F3 a5 a2 E3 (take_less hm (by rw [P3, full]))
theorem ss_while {k : Nat} (hp : PassesOwn (model X.prog X.w) X.A X.env X.xe) (hc : PT X c (tX T W rB ft)) (hb : ∀ n, PSs X body (tS T W n g)) : PS X (.While c body [] pos) (tS T W m (sWh k ft g vs)) := PS.imp (ps_while hp hc (sb_all' hb)) fun D σ H h => while_reads h
end
end Pd
end

section -- PdCall
set_option Elab.async false
set_option linter.all false
set_option maxRecDepth 100000
set_option maxHeartbeats 8000000
/-! PdCall: comprehensions, calls, defs, try keep the plain semantics. -/
namespace Pd
open PySem PySem.Spec PyProof.Rows L2
section
variable {X : Cx} {T : Ct} {W : WX} {m : Nat} {σ : L2.St} {H H1 : Hp} {μ μ1 : List Addr} {F F1 : Addr → Prop} {st : Sto} {pos : Pos} {ρ : Loc} {D : Ends} {L : Addr}
variable {elt tg iter e : Expr} {ifs : List Expr} {scope : Scope} {own : List (Str × Nat)} {t : Tg} {w : FW} {cond : FT} {fe f : FE}
theorem sts_nil : PTs X [] (tX T W rB tTrue) := ⟨fun pins s σ H Q I h => pts_nil.run pins s σ H Q I (by
  obtain ⟨ρ, st, μ, F, L, S, h⟩ := h
  exact h true H μ F rfl S (Ext.refl _ _ _) (List.prefix_refl _))⟩
theorem sts_one {c : Expr} {ft : FT} (h : PT X c (tX T W rB ft)) : PTs X [c] (tX T W rB ft) := pts_one h
theorem se_comp (lv : Lv X L) (tk : TakesB X L W) (hc : X.calm = true) (hN : X.N.Nodup) (hi : PI X tg iter (tW T W w)) (ok : BlkOk X.N X.env.scope scope own) (sub : ∀ i ∈ t.ixs, i ∈ own.map (·.2))
    (hg : ∀ (s : Shared) (H : Hp) (C : Addr) (cl : List (Str × Addr)) (fp : List Addr) (xe : Value → Shared → Prop), PG (blkX X s H scope (compEnvC scope cl C X.env) fp xe) tg (tG T t))
    (ht : ∀ (s : Shared) (H : Hp) (C : Addr) (cl : List (Str × Addr)) (fp : List Addr) (xe : Value → Shared → Prop) (W' : WX), TakesB (blkX X s H scope (compEnvC scope cl C X.env) fp xe) L W' → PTs (blkX X s H scope (compEnvC scope cl C X.env) fp xe) ifs (tX T W' rB cond))
    (he : ∀ (s : Shared) (H : Hp) (C : Addr) (cl : List (Str × Addr)) (fp : List Addr) (xe : Value → Shared → Prop) (W' : WX), TakesB (blkX X s H scope (compEnvC scope cl C X.env) fp xe) L W' → PE (blkX X s H scope (compEnvC scope cl C X.env) fp xe) elt (tX T W' (rD T.K) fe))
    (hs : ∀ x, foldedSetIterable iter X.env x = pure x := by intro _; rfl) : PE X (.ListComp elt [⟨tg, iter, ifs, 0⟩] scope pos) (tX T W (rD T.K) (eComp fe t w cond (own.map (·.2)))) :=
  PE.imp (pe_lcX (tt := fun W' => tX T W' rB cond) (te := fun W' => tX T W' (rD T.K) fe) lv tk hc hN hi ok hg ht he hs) fun σ H Q h => lc_reads sub h
theorem ss_setLc {i : Nat} {y : Str} {py spos : Pos} (lv : Lv X L) (tk : TakesB X L W) (hc : X.calm = true) (hN : X.N.Nodup) (hi : PI X tg iter (tW T W w)) (ok : BlkOk X.N X.env.scope scope own) (sub : ∀ i ∈ t.ixs, i ∈ own.map (·.2))
    (hg : ∀ (s : Shared) (H : Hp) (C : Addr) (cl : List (Str × Addr)) (fp : List Addr) (xe : Value → Shared → Prop), PG (blkX X s H scope (compEnvC scope cl C X.env) fp xe) tg (tG T t))
    (ht : ∀ (s : Shared) (H : Hp) (C : Addr) (cl : List (Str × Addr)) (fp : List Addr) (xe : Value → Shared → Prop) (W' : WX), TakesB (blkX X s H scope (compEnvC scope cl C X.env) fp xe) L W' → PTs (blkX X s H scope (compEnvC scope cl C X.env) fp xe) ifs (tX T W' rB cond))
    (he : ∀ (s : Shared) (H : Hp) (C : Addr) (cl : List (Str × Addr)) (fp : List Addr) (xe : Value → Shared → Prop) (W' : WX), TakesB (blkX X s H scope (compEnvC scope cl C X.env) fp xe) L W' → PE (blkX X s H scope (compEnvC scope cl C X.env) fp xe) elt (tX T W' (rD T.K) fe))
    (hy : X.N[i]? = some y := by rfl) (hyl : X.env.scope.names.lookup y = some .local := by rfl) (hsw : swapsWith (.ListComp elt [⟨tg, iter, ifs, 0⟩] scope pos) (some (.Name y py)) spos.line X.env = pure true := by rfl)
    (hs : ∀ x, foldedSetIterable iter X.env x = pure x := by intro _; rfl) : PS X (.Assign [.Name y py] (.ListComp elt [⟨tg, iter, ifs, 0⟩] scope pos) spos) (tS T W m (sAsg i (eComp fe t w cond (own.map (·.2))))) :=
  PS.imp (ps_setLcX (tt := fun W' => tX T W' rB cond) (te := fun W' => tX T W' (rD T.K) fe) lv tk hc hN hy hyl hsw hi ok hg ht he hs) fun D σ H h => lc_reads sub (asg_reads h)
/-! ### calls -/
theorem back_len : ∀ (l : List Nat) (s st : Sto), (back l s st).length = st.length
  | [], _, _ => by simp [back]
  | _ :: _, [], _ => by simp [back]
  | j :: l, o :: s, st => by rw [back, back_len l s]; simp
theorem back_get : ∀ (l : List Nat) (s st : Sto) (i : Nat), l.Nodup → l.length ≤ s.length → (∀ j ∈ l, j < st.length) → (back l s st)[i]? = if i ∈ l then s[l.idxOf i]? else st[i]?
  | [], s, st, i, _, _, _ => by simp [back]
  | j :: l, [], st, i, _, h, _ => by simp at h
  | j :: l, o :: s, st, i, nd, h, hl => by
    have nd' := List.nodup_cons.mp nd
    rw [back, back_get l s (st.set j o) i nd'.2 (by simpa using h) (fun k hk => by rw [List.length_set]; exact hl k (List.mem_cons_of_mem _ hk))]
    by_cases e : i = j
    · subst e
      rw [if_neg nd'.1, if_pos List.mem_cons_self, List.getElem?_set_self (hl _ List.mem_cons_self), List.idxOf_cons_self]
      rfl
    · rw [List.getElem?_set_ne (fun z => e z.symm)]
      by_cases m : i ∈ l
      · rw [if_pos m, if_pos (List.mem_cons_of_mem _ m), List.idxOf_cons, show (j == i) = false from by simpa using fun z => e z.symm]
        rfl
      · rw [if_neg m, if_neg (fun z => (List.mem_cons.mp z).elim e m)]
theorem refs_nd : ∀ ds : List Pd.D, (refs ds).Nodup
  | [] => List.nodup_nil
  | .p _ :: r => refs_nd r
  | .r i :: r => by
    unfold refs
    dsimp only
    split
    · exact refs_nd r
    · rename_i h
      exact List.nodup_cons.mpr ⟨h, refs_nd r⟩
theorem refs_mem : ∀ (ds : List Pd.D) (i : Nat), Pd.D.r i ∈ ds → i ∈ refs ds
  | .p _ :: r, i, h => refs_mem r i (by simpa using h)
  | .r j :: r, i, h => by
    unfold refs
    dsimp only
    have h : i = j ∨ Pd.D.r i ∈ r := by simpa using h
    rcases h with h | h
    · subst h
      split
      · assumption
      · exact List.mem_cons_self
    · split
      · exact refs_mem r i h
      · exact List.mem_cons_of_mem _ (refs_mem r i h)
/-- what a def's call is promised: its plain semantics tells what comes -/
def spF (T : Ct) (n : Nat) (G : FF) : Sp := fun vs H Q E => vs.length = n ∧ ∃ ds st μ F, RDs T.K H μ F vs ds ∧ RSt T.K H μ F st ∧ Post T (fun cls da _ H' => E cls da H') (rD T.K) [] H μ F Q (G ds st)
theorem iso_ok {G : FF} {ds : List Pd.D} {vs : List V} {Q : VK} (R : RDs T.K H μ F vs ds) (S : RSt T.K H μ F st) (h : Post T W (rD T.K) σ H μ F Q (iso G ds st)) : spF T vs.length G vs H Q (fun cls da H' => W cls da σ H') := by
  unfold iso at h
  generalize hl : refs ds = l at h
  have nd : l.Nodup := hl ▸ refs_nd ds
  have mem : ∀ i, Pd.D.r i ∈ ds → i ∈ l := fun i h => hl ▸ refs_mem ds i h
  dsimp only at h
  split at h
  case isFalse => exact h.elim
  rename_i hall
  have lt : ∀ i ∈ l, i < st.length := fun i hi => by simpa using List.all_eq_true.mp hall i hi
  have ltμ : ∀ i ∈ l, i < μ.length := fun i hi => by rw [S.len]; exact lt i hi
  -- the callee's store
  let μ' : List Addr := l.map fun i => μ.getD i default
  have gμ : ∀ k i : Nat, l[k]? = some i → μ'[k]? = μ[i]? := fun k i e => by
    show (l.map fun i => μ.getD i default)[k]? = _
    rw [List.getElem?_map, e]
    have := ltμ i (List.mem_of_getElem? e)
    simp [List.getD, List.getElem?_eq_getElem this]
  have memμ : ∀ a ∈ μ', ∃ i ∈ l, μ[i]? = some a := fun a ha => by
    obtain ⟨i, hi, rfl⟩ := List.mem_map.mp ha
    exact ⟨i, hi, by simp [List.getD, List.getElem?_eq_getElem (ltμ i hi)]⟩
  have S' : RSt T.K H μ' F (l.map fun i => st.getD i .gone) := by
    refine ⟨by simp [μ'], ?_, fun a ha => ?_, S.live, fun k a o h1 h2 => ?_⟩
    · refine List.pairwise_map.mpr (List.Pairwise.imp_of_mem (fun {i j} hi hj hne e => ?_) nd)
      have ei : μ[i]? = some (μ.getD i default) := by simp [List.getD, List.getElem?_eq_getElem (ltμ i hi)]
      have ej : μ[j]? = some (μ.getD j default) := by simp [List.getD, List.getElem?_eq_getElem (ltμ j hj)]
      exact hne (nd_ix S.nd (ei.trans (congrArg some e)) ej)
    · obtain ⟨i, _, e⟩ := memμ a ha
      exact S.sub a (List.mem_of_getElem? e)
    · rw [List.getElem?_map] at h2
      cases e : l[k]? with
      | none => rw [e] at h2; cases h2
      | some i =>
        rw [e] at h2
        have hi := lt i (List.mem_of_getElem? e)
        have h2 : st.getD i .gone = o := Option.some.inj h2
        rw [gμ k i e] at h1
        refine S.obj i a o h1 ?_
        rw [← h2]
        simp [List.getD, List.getElem?_eq_getElem hi]
  have R' : RDs T.K H μ' F vs (ds.map (ren l)) := by
    clear h hl S'
    induction R with
    | nil => exact .nil
    | @cons v vs d ds r t ih =>
      refine .cons ?_ (ih (fun i h => mem i (List.mem_cons_of_mem _ h)))
      cases d with
      | p x => exact r
      | r i =>
        obtain ⟨a, ha, rfl⟩ := r
        have hi := mem i List.mem_cons_self
        refine ⟨a, ?_, rfl⟩
        have e : l[l.idxOf i]? = some i := by
          rw [List.getElem?_eq_getElem (List.idxOf_lt_length_iff.mpr hi)]
          exact congrArg some (List.getElem_idxOf _)
        rw [gμ _ i e]; exact ha
  refine ⟨rfl, _, _, μ', F, R', S', ?_⟩
  have sub' : ∀ a ∈ μ', F a := S'.sub
  -- the caller's store behind the call
  have put : ∀ {H' : Hp} {μ2 : List Addr} {F2 : Addr → Prop} {s : Sto}, RSt T.K H' μ2 F2 s → Ext H μ' F H' μ2 F2 → μ' <+: μ2 → RSt T.K H' μ F2 (back l s st) ∧ Ext H μ F H' μ F2 := fun {H' μ2 F2 s} S2 e2 p2 => by
    have ls : l.length ≤ s.length := by rw [← S2.len]; have := p2.length_le; simpa [μ'] using this
    refine ⟨⟨by rw [back_len]; exact S.len, S.nd, fun a ha => e2.fr a (S.sub a ha), S2.live, fun i a o h1 h2 => ?_⟩, ⟨fun a o ha hn => e2.keep a o ha fun z => ?_, e2.fr, e2.old, fun a h => .inl h⟩⟩
    · rw [back_get l s st i nd ls lt] at h2
      by_cases hi : i ∈ l
      · rw [if_pos hi] at h2
        have e : l[l.idxOf i]? = some i := by
          rw [List.getElem?_eq_getElem (List.idxOf_lt_length_iff.mpr hi)]
          exact congrArg some (List.getElem_idxOf _)
        have h3 := gμ _ i e
        obtain ⟨tl, rfl⟩ := p2
        refine S2.obj _ a o ?_ h2
        have hlt : l.idxOf i < μ'.length := by simpa [μ'] using List.idxOf_lt_length_iff.mpr hi
        rw [List.getElem?_append_left hlt, h3]; exact h1
      · rw [if_neg hi] at h2
        have q := S.obj i a o h1 h2
        cases o with
        | gone => trivial
        | lst xs =>
          obtain ⟨us, q1, q2⟩ := q
          have na : a ∉ μ' := fun z => by
            obtain ⟨j, hj, e⟩ := memμ a z
            have := nd_ix S.nd h1 e
            exact hi (this ▸ hj)
          exact ⟨us, e2.keep a _ q1 na, q2.mono e2 sub'⟩
    · obtain ⟨j, hj, e⟩ := memμ a z
      exact hn (List.mem_of_getElem? e)
  cases eG : G (ds.map (ren l)) (l.map fun i => st.getD i .gone) with
  | bad => rw [eG] at h; exact h
  | exc x s =>
    rw [eG] at h
    intro cls da H' μ2 F2 h1 h2 h3 h4
    obtain ⟨S3, e3⟩ := put h2 h3 h4
    exact h cls da H' μ F2 h1 S3 e3 (List.prefix_refl _)
  | ok d s =>
    rw [eG] at h
    intro b H' μ2 F2 h1 h2 h3 h4
    obtain ⟨S3, e3⟩ := put h2 h3 h4
    cases d with
    | p x => exact h b H' μ F2 h1 S3 e3 (List.prefix_refl _)
    | r j =>
      obtain ⟨a, ha, rfl⟩ := h1
      simp only at h
      by_cases hj : j < l.length
      · rw [if_pos hj] at h
        refine h (.ref a) H' μ F2 ⟨a, ?_, rfl⟩ S3 e3 (List.prefix_refl _)
        obtain ⟨tl, rfl⟩ := h4
        rw [List.getElem?_append_left (by simpa [μ'] using hj), gμ j _ (List.getElem?_eq_getElem hj)] at ha
        simpa [List.getD, List.getElem?_eq_getElem hj] using ha
      · rw [if_neg hj] at h
        cases eo : s[j]? with
        | none => rw [eo] at h; exact h.elim
        | some o =>
          rw [eo] at h
          simp only at h
          have na' : a ∉ μ' := fun z => by
            obtain ⟨k, hk, e⟩ := List.mem_iff_getElem.mp z
            obtain ⟨tl, rfl⟩ := h4
            have e1 : (μ' ++ tl)[k]? = some a := by rw [List.getElem?_append_left hk, List.getElem?_eq_getElem hk, e]
            have := nd_ix h2.nd ha e1
            have hk' : k < l.length := by simpa [μ'] using hk
            omega
          have ha0 : H a = none := (h3.new a (List.mem_of_getElem? ha)).resolve_left na'
          have na : a ∉ μ := fun z => S.live a (S.sub a z) ha0
          have S4 := S3.new (o := o) na (h2.sub a (List.mem_of_getElem? ha)) (h2.obj j a o ha eo)
          refine h (.ref a) H' (μ ++ [a]) F2 ⟨a, ?_, rfl⟩ S4 ⟨e3.keep, e3.fr, e3.old, fun c hc => ?_⟩ (List.prefix_append _ _)
          · rw [← S.len]; simp
          · rcases List.mem_append.mp hc with hc | hc
            · exact .inl hc
            · have : c = a := by simpa using hc
              exact .inr (this ▸ ha0)
theorem call_reads {G : FF} {fs : List FE} {Q : VK} (h : tX T W (rD T.K) (eCall G fs) σ H Q) : tCallS (spF T fs.length G) (WE W) (tX T W (rDs T.K) (fAll fs)) σ H Q := by
  obtain ⟨ρ, st, μ, F, L, S, h⟩ := h
  have h := nrm_post S h
  refine ⟨ρ, st, μ, F, L, S, Post.bind (R1 := rDs T.K) S.sub h fun vs H1 μ1 F1 ds s1 ef a1 a2 a3 a4 h => ?_⟩
  have := iso_ok a1 a2 h
  have e : fs.length = vs.length := by rw [a1.length, fAll_len ef]
  rw [e]
  exact this
theorem se_call {k : Nat} {fa : Addr} {fd : FuncData} {ps : List Str} {G : FF} {x : Str} {p : Pos} {es : List Expr} {fs : List FE} (FO : FnOk X.prog X.w X.K X.mg X.base (L2.CX X.prog X.w) k fa fd ps (spF T fs.length G)) (hr : Room k X.A) (hm : X.mg x = some (.ref fa)) (hk : PySem.W.keepIn X.K (.ref fa) = true) (hb : Binds X.K fd ps []) (tk : TakesB X L W)
    (ha : PA X (e :: es) (tX T W (rDs T.K) (fAll fs))) (hg : Gl X x := by rfl) (hdb : (x == ("__debug__" : Str)) = false := by decide) (he : starEach (e :: es) X.env = (false, eval e X.env) :: starEach es X.env := by rfl) (hpl : (backTo pos (starEach es X.env)).any (·.1) = false := by rfl) :
    PE X (.Call (.Name x p) (e :: es) [] pos) (tX T W (rD T.K) (eCall G fs)) :=
  PE.imp (pe_callS (E := WE W) FO hr hg hm hk hb (fun σ => passB tk σ) ha hdb he hpl) fun σ H Q h => call_reads h
end
/-! ### a def -/
theorem start_rl {K : PySem.W.Frag} {H : Hp} {μ : List Addr} {F : Addr → Prop} {N : List Str} : ∀ {vs : List V} {ds : List D}, RDs K H μ F vs ds → RL K H μ F (L2.start N vs) (ds.map some ++ List.replicate (N.length - ds.length) none) := by
  intro vs ds R
  refine ⟨by simp [L2.start, R.length], fun i d h => ?_⟩
  have hi : i < ds.length := by
    by_cases hi : i < ds.length
    · exact hi
    · rw [List.getElem?_append_right (by simpa using hi), List.getElem?_replicate] at h
      split at h <;> cases h
  rw [List.getElem?_append_left (by simpa using hi), List.getElem?_map] at h
  have hv : i < vs.length := by rw [R.length]; exact hi
  have key : ∀ {vs : List V} {ds : List D}, RDs K H μ F vs ds → ∀ (i : Nat) (d : Pd.D), ds[i]? = some d → ∃ v, vs[i]? = some v ∧ RD K H μ F v d := by
    intro vs ds R
    induction R with
    | nil => intro i d h; simp at h
    | cons r t ih =>
      intro i d h
      cases i with
      | zero => simp at h; subst h; exact ⟨_, rfl, r⟩
      | succ i => exact ih i d (by simpa using h)
  rw [List.getElem?_eq_getElem hi] at h
  have h : ds[i] = d := Option.some.inj (Option.some.inj h)
  obtain ⟨v, h1, h2⟩ := key R i d (by rw [List.getElem?_eq_getElem hi, h])
  refine ⟨v, ?_, h2⟩
  unfold L2.start
  rw [List.getElem?_append_left (by simpa using hv), List.getElem?_map, h1]
  rfl
theorem def_ok {P : Program} {w : World} {T : Ct} {mg : Str → Option Value} {base : Heap} {x qual : Str} {st : Stmt} {f : Addr} {fd : FuncData} {N ps : List Str} {k n np : Nat} {g : FS} (Fn : Fun T.K x qual st f fd) (S : FnScope N ps (defScope st))
    (hbody : ∀ (cdv : Value) (A : Around) (outer : List Env) (s : Shared) (H : Hp) (E : XK) (m : Nat) (X : Cx), X = cxOf (L2.CX P w) P w T.K mg base N qual (defScope st) f cdv A outer s H E → Room k X.A → TakesB X X.env.locals (fun cls d _ H' => E cls d H') → Lv X X.env.locals → PassesOwn (model X.prog X.w) X.A X.env X.xe →
      PSs (cxOf (L2.CX P w) P w T.K mg base N qual (defScope st) f cdv A outer s H E) (defBody st) (tS T (fun cls d _ H' => E cls d H') m g)) (hn : N.length = n := by rfl) (hp : ps.length = np := by rfl) : FnOk P w T.K mg base (L2.CX P w) (k + 1) f fd ps (spF T np (fDef n g)) := by
  subst hn hp
  refine Fn.okX S (fun vs H Q E h => h.1) (fun cdv A outer s H vs Q E hr h => ?_)
  obtain ⟨hl, ds, sto, μ, F, R, Sr, h⟩ := h
  refine ⟨_, hbody cdv A outer s H E sto.length _ rfl hr (takesB_def (takes_of rfl rfl rfl rfl)) ⟨⟨_, _, rfl, rfl⟩, rfl⟩ (passes_of rfl), _, sto, μ, F, Nat.le_refl _, start_rl R, Sr, ?_⟩
  have pre : ∀ {μ' : List Addr}, μ'.take sto.length = μ.take sto.length → μ <+: μ' := fun {μ'} e => by
    rw [← Sr.len, List.take_length] at e
    exact taken e
  unfold fDef at h
  cases eg : g (ds.map some ++ List.replicate (N.length - ds.length) none) sto with
  | next ρ s1 => rw [eg] at h; exact fun σ' H' μ' F' h1 h2 h3 h4 => h .non H' μ' F' .non h2 h3 (pre h4)
  | ret d s1 => rw [eg] at h; exact fun v H' μ' F' h1 h2 h3 h4 => h v H' μ' F' h1 h2 h3 (pre h4)
  | exc x ρ s1 => rw [eg] at h; exact fun c d σ' H' μ' F' h0 h1 h2 h3 h4 => h c d H' μ' F' h0 h2 h3 (pre h4)
  | brk ρ s1 => rw [eg] at h; exact h.elim
  | cont ρ s1 => rw [eg] at h; exact h.elim
  | bad => rw [eg] at h; exact h.elim
end Pd
end

section -- PdExc
set_option Elab.async false
set_option linter.all false
set_option maxRecDepth 100000
set_option maxHeartbeats 8000000
/-! PdExc: try, the suites of its clauses; raise. -/
namespace Pd
open PySem PySem.Spec PyProof.Rows L2
theorem boo_len : bootBuiltins "len" = some (.builtin "len") := by decide +kernel
theorem boo_abs : bootBuiltins "abs" = some (.builtin "abs") := by decide +kernel
theorem boo_max : bootBuiltins "max" = some (.builtin "max") := by decide +kernel
theorem boo_min : bootBuiltins "min" = some (.builtin "min") := by decide +kernel
theorem boo_all : bootBuiltins "all" = some (.builtin "all") := by decide +kernel
theorem boo_any : bootBuiltins "any" = some (.builtin "any") := by decide +kernel
theorem boo_sum : bootBuiltins "sum" = some (.builtin "sum") := by decide +kernel
theorem boo_int : bootBuiltins "int" = some (.type "int") := by decide +kernel
theorem boo_str : bootBuiltins "str" = some (.type "str") := by decide +kernel
theorem boo_tuple : bootBuiltins "tuple" = some (.type "tuple") := by decide +kernel
theorem boo_list : bootBuiltins "list" = some (.type "list") := by decide +kernel
theorem boo_bool : bootBuiltins "bool" = some (.type "bool") := by decide +kernel
theorem hu_room {A : Around} {k : Nat} (hr : Room k A) : A.units + 102 < cLine ∧ A.units + 100 < cLine := by
  have := hr.un
  omega
abbrev W0 : WX := fun _ _ _ _ => False
section
variable {X : Cx} {T : Ct} {W : WX} {m : Nat} {σ : L2.St} {H : Hp} {μ : List Addr} {F : Addr → Prop} {st : Sto} {pos pos' np : Pos} {ρ : Loc} {D : Ends}
theorem RL.hide {K : PySem.W.Frag} (L : RL K H μ F σ ρ) (i : Nat) (o : Option V) : RL K H μ F (σ.set i o) (ρ.set i none) := by
  refine ⟨by simp [L.len], fun j d h => ?_⟩
  by_cases e : i = j
  · subst e
    by_cases hl : i < ρ.length
    · rw [List.getElem?_set_self hl] at h; cases h
    · rw [List.getElem?_eq_none (by simpa using hl)] at h; cases h
  · rw [List.getElem?_set_ne e] at h ⊢
    exact L.val j d h
theorem RL.clr {K : PySem.W.Frag} (L : RL K H μ F σ ρ) (i : Option Nat) : RL K H μ F (match i with
    | some i => σ.set i none
    | none => σ) (Pd.clr i ρ) := by
  cases i with
  | none => exact L
  | some i => exact L.hide i none
/-- the ends with the clause's slot empty -/
def popE (i : Option Nat) (D : Ends) : Ends := match i with
  | some i => { nx := fun σ' H' => D.nx (σ'.set i none) H', rt := D.rt, bk := fun σ' H' => D.bk (σ'.set i none) H', ct := fun σ' H' => D.ct (σ'.set i none) H' }
  | none => D
theorem tame_post {i : Option Nat} : ∀ {r : RS}, PostS T W m H μ F D (r.tame i) → PostS T W0 m H μ F (popE i D) r
  | .next ρ2 s2, h => fun σ' H' μ' F' h1 h2 h3 h4 => by
    cases i with
    | none => exact h σ' H' μ' F' h1 h2 h3 h4
    | some i => exact h (σ'.set i none) H' μ' F' (h1.hide i none) h2 h3 h4
  | .brk ρ2 s2, h => fun σ' H' μ' F' h1 h2 h3 h4 => by
    cases i with
    | none => exact h σ' H' μ' F' h1 h2 h3 h4
    | some i => exact h (σ'.set i none) H' μ' F' (h1.hide i none) h2 h3 h4
  | .cont ρ2 s2, h => fun σ' H' μ' F' h1 h2 h3 h4 => by
    cases i with
    | none => exact h σ' H' μ' F' h1 h2 h3 h4
    | some i => exact h (σ'.set i none) H' μ' F' (h1.hide i none) h2 h3 h4
  | .ret d s2, h => fun v H' μ' F' h1 h2 h3 h4 => by
    cases i with
    | none => exact h v H' μ' F' h1 h2 h3 h4
    | some i => exact h v H' μ' F' h1 h2 h3 h4
  | .exc x ρ2 s2, h => h.elim
  | .bad, h => h.elim
/-- a suite's reading: the exception at a, of the class cls, with the dict d -/
def tU (T : Ct) (m : Nat) (i : Option Nat) (su : Exn → FS) (a : Addr) (cls : Value) (d : Option Addr) : TS := fun D σ H => ∃ x ρ st μ F, RX T H F x cls d ∧ (∀ j, i = some j → σ[j]? = some (some (.ref a))) ∧ m ≤ st.length ∧ RL T.K H μ F σ ρ ∧ RSt T.K H μ F st ∧ PostS T W0 m H μ F D (su x ρ st)
theorem try_reads {i : Option Nat} {g : FS} {sub : Nat → Bool} {su : Exn → FS} {W' : WX} (h : tS T W m (sTry i g sub su) D σ H)
    (hw : ∀ (x : Exn) (cls : Value) (da : Option Addr) (ρ' : Loc) (st' : Sto) (σ' : L2.St) (H' : Hp) (μ' : List Addr) (F' : Addr → Prop), RX T H' F' x cls da → RL T.K H' μ' F' σ' ρ' → RSt T.K H' μ' F' st' →
      (sub x.cls = true → ∀ a, tU T m i su a cls da (popE i D) (match i with
        | some j => σ'.set j (some (.ref a))
        | none => σ') H') → (sub x.cls = false → W cls da σ' H') → W' cls da σ' H') : tS T W' m g D σ H := by
  obtain ⟨ρ, st, μ, F, hm, L, S, h⟩ := h
  refine ⟨ρ, st, μ, F, hm, L, S, ?_⟩
  unfold sTry at h
  cases e : g ρ st with
  | next ρ' s' => rw [e] at h; exact h
  | ret d s' => rw [e] at h; exact h
  | brk ρ' s' => rw [e] at h; exact h
  | cont ρ' s' => rw [e] at h; exact h
  | bad => rw [e] at h; exact h
  | exc x ρ' s' =>
    rw [e] at h
    intro cls da σ' H' μ' F' h0 h1 h2 h3 h4
    refine hw x cls da ρ' s' σ' H' μ' F' h0 h1 h2 (fun hs a => ?_) fun hs => ?_
    · simp only [if_pos hs] at h
      split at h
      case isFalse => exact h.elim
      rename_i hin
      refine ⟨x, Pd.clr i ρ', s', μ', F', h0, fun j hj => ?_, ?_, ?_, h2, ?_⟩
      · subst hj
        have hl : j < ρ'.length := by simpa [inb] using hin
        exact List.getElem?_set_self (by rw [← h1.len]; exact hl)
      · rw [← h2.len]; exact take_len h4 (by rw [S.len]; exact hm)
      · cases i with
        | none => exact h1
        | some j => exact h1.hide j _
      · exact (tame_post h).ext S.sub h3 h4
    · simp only [hs] at h
      exact h cls da σ' H' μ' F' h0 h1 h2 h3 h4
variable {x n : Str} {C : Addr} {body suite : List Stmt} {b₀ : Stmt} {g : FS} {sub : Nat → Bool} {su : Exn → FS} {i : Nat}
theorem ss_tryU (hs : X.stack = X.env :: X.outer) (hf : X.env.frame = some X.env.locals) (hN : X.N.Nodup) (hi : X.N[i]? = some n) (hln : X.env.kindOf n = some .local) (hc : Names X x (.ref C)) (he : ∀ k, PySem.W.exmOne X.K (.ref (T.C k)) (.ref C) = some (sub k)) (tk : TakesB X X.env.locals W) (lv : Lv X X.env.locals)
    (hb : ∀ (W' : WX) (pn : List (Addr × Obj)) (xe : Value → Shared → Prop), Lv (X.tr pn xe) X.env.locals → TakesB (X.tr pn xe) X.env.locals W' → PassesOwn (model X.prog X.w) X.A X.env xe → PSs (X.tr pn xe) body (tS T W' m g))
    (hsu : ∀ (a : Addr) (oe : Obj) (cls : Value) (d : Option Addr) (pn : List (Addr × Obj)), Zc cls d oe → (∃ vs, oe.data = .fields vs) → PSs (X.suite a ((a, oe) :: pn)) (b₀ :: suite) (tU T m (some i) su a cls d)) :
    PS X (.Try body [.ExceptHandler (some (.Name x np)) (some n) (b₀ :: suite) pos'] [] [] pos) (tS T W m (sTry (some i) g sub su)) :=
  PS.imp (ps_try_as (Wout := W) (tb := fun W' => tS T W' m g) (ts := tU T m (some i) su) hs hf hN hi hln hc tk (fun W' pn xe tk' po => hb W' pn xe ⟨lv.stk, lv.fr⟩ tk' po) hsu) fun D σ H h =>
    try_reads h fun y cls da ρ' st' σ' H' μ' F' h0 h1 h2 k1 k2 => ⟨sub y.cls, by rw [h0.1]; exact he _, fun e a _ => k1 e a, k2⟩
theorem ss_tryN (hs : X.stack = X.env :: X.outer) (hf : X.env.frame = some X.env.locals) (hN : X.N.Nodup) (hi : X.N[i]? = some n) (hln : X.env.kindOf n = some .local) (hc : Names X x (.ref C)) (he : ∀ k, PySem.W.exmOne X.K (.ref (T.C k)) (.ref C) = some (sub k)) (tk : TakesB X X.env.locals W) (lv : Lv X X.env.locals) {gs : FS}
    (hb : ∀ (W' : WX) (pn : List (Addr × Obj)) (xe : Value → Shared → Prop), Lv (X.tr pn xe) X.env.locals → TakesB (X.tr pn xe) X.env.locals W' → PassesOwn (model X.prog X.w) X.A X.env xe → PSs (X.tr pn xe) body (tS T W' m g))
    (hsu : ∀ (a : Addr) (oe : Obj) (pn : List (Addr × Obj)), PSs (X.suite a ((a, oe) :: pn)) (b₀ :: suite) (tS T W0 m gs)) :
    PS X (.Try body [.ExceptHandler (some (.Name x np)) (some n) (b₀ :: suite) pos'] [] [] pos) (tS T W m (sTry (some i) g sub (fun _ => gs))) :=
  ss_tryU hs hf hN hi hln hc he tk lv hb fun a oe cls d pn _ _ => PSs.imp (hsu a oe pn) fun D σ H ⟨y, ρ, st, μ, F, _, _, h1, h2, h3, h4⟩ => ⟨ρ, st, μ, F, h1, h2, h3, h4⟩
theorem ss_try (hs : X.stack = X.env :: X.outer) (hf : X.env.frame = some X.env.locals) (hc : Names X x (.ref C)) (he : ∀ k, PySem.W.exmOne X.K (.ref (T.C k)) (.ref C) = some (sub k)) (tk : TakesB X X.env.locals W) (lv : Lv X X.env.locals) {gs : FS}
    (hb : ∀ (W' : WX) (pn : List (Addr × Obj)) (xe : Value → Shared → Prop), Lv (X.tr pn xe) X.env.locals → TakesB (X.tr pn xe) X.env.locals W' → PassesOwn (model X.prog X.w) X.A X.env xe → PSs (X.tr pn xe) body (tS T W' m g))
    (hsu : ∀ (a : Addr) (oe : Obj) (pn : List (Addr × Obj)), PSs (X.suite a ((a, oe) :: pn)) (b₀ :: suite) (tS T W0 m gs)) :
    PS X (.Try body [.ExceptHandler (some (.Name x np)) none (b₀ :: suite) pos'] [] [] pos) (tS T W m (sTry none g sub (fun _ => gs))) :=
  PS.imp (ps_try_only (Wout := W) (tb := fun W' => tS T W' m g) (ts := tU T m none (fun _ => gs)) hs hf hc tk (fun W' pn xe tk' po => hb W' pn xe ⟨lv.stk, lv.fr⟩ tk' po)
    fun a oe cls d pn _ _ => PSs.imp (hsu a oe pn) fun D σ H ⟨y, ρ, st, μ, F, _, _, h1, h2, h3, h4⟩ => ⟨ρ, st, μ, F, h1, h2, h3, h4⟩) fun D σ H h =>
    try_reads h fun y cls da ρ' st' σ' H' μ' F' h0 h1 h2 k1 k2 => ⟨sub y.cls, by rw [h0.1]; exact he _, fun e a _ => k1 e a, k2⟩
/-! ### what a suite asks of its exception -/
def tY (T : Ct) (i : Nat) (a : Addr) (cls : Value) (d : Option Addr) (q : Exn → Option Bool) (x : Exn) : TE := fun σ H Q => σ[i]? = some (some (.ref a)) ∧ (∃ F, RX T H F x cls d) ∧ ∃ b, q x = some b ∧ Q (.bl b) H
theorem sy_ret {Y : Cx} {e : Expr} {a : Addr} {cls : Value} {d : Option Addr} {q : Exn → Option Bool} (h : ∀ x, PE Y e (tY T i a cls d q x)) : PSs Y [.Return (some e) pos] (tU T m (some i) (sRetW q) a cls d) :=
  pss_one (PS.imp (ps_ret (te := fun σ H Q => ∃ x, tY T i a cls d q x σ H Q) ⟨fun pins s σ H Q I ⟨x, hx⟩ => (h x).run pins s σ H Q I hx⟩) fun D σ H ⟨x, ρ, st, μ, F, h0, hi, hm, L, S, h⟩ => by
    refine ⟨x, hi i rfl, ⟨F, h0⟩, ?_⟩
    unfold sRetW at h
    cases e : q x with
    | none => rw [e] at h; exact h.elim
    | some b =>
      rw [e] at h
      exact ⟨b, rfl, h (.bl b) H μ F (.bl b) S (Ext.refl _ _ _) rfl⟩)
section
variable {Y : Cx} {e b : Expr} {rest : List Expr} {a : Addr} {cls : Value} {d : Option Addr} {q r : Exn → Option Bool} {y : Exn}
theorem sy_one {op : BoolOp} (h : PE Y e (tY T i a cls d q y)) : PE Y (.BoolOp op [e] pos) (tY T i a cls d q y) := pe_one h
theorem sy_and (h1 : PE Y e (tY T i a cls d q y)) (h2 : PE Y (.BoolOp .And (b :: rest) pos) (tY T i a cls d r y)) : PE Y (.BoolOp .And (e :: b :: rest) pos) (tY T i a cls d (wAnd q r) y) := PE.imp (pe_and h1 h2) fun σ H Q ⟨hi, hx, k, hk, hQ⟩ => by
  unfold wAnd at hk
  cases e1 : q y with
  | none => rw [e1] at hk; cases hk
  | some b1 =>
    rw [e1] at hk
    refine ⟨hi, hx, b1, e1, b1, rfl, ifb (fun e => ?_) fun e => ?_⟩
    · subst e
      exact ⟨hi, hx, k, hk, hQ⟩
    · subst e
      cases (Option.some.inj hk : false = k)
      exact hQ
theorem sy_not (h1 : PE Y e (tY T i a cls d q y)) : PE Y (.UnaryOp .Not e pos) (tY T i a cls d (wNot q) y) := PE.imp (pe_not h1) fun σ H Q ⟨hi, hx, k, hk, hQ⟩ => by
  unfold wNot at hk
  cases e1 : q y with
  | none => rw [e1] at hk; cases hk
  | some b1 =>
    rw [e1] at hk
    cases (Option.some.inj hk : (!b1) = k)
    exact ⟨hi, hx, b1, e1, b1, rfl, hQ⟩
end
/-- what the top says of an exception's class -/
structure XcOk (K : PySem.W.Frag) (C : Addr) : Prop where
  cl : (PySem.W.clsIn K C).isSome = true
  ga : PySem.W.findIn K (.ref C) "__getattribute__" = some (some (.builtin "BaseException.__getattribute__"))
  gg : PySem.W.findIn K (.ref C) "__getattr__" = some none
  su : PySem.W.subIn K (.ref C) (.type "BaseException") = some true
  hd : PySem.W.hasDictIn K C = true
  ca : PySem.W.findIn K (.ref C) "__class__" = some (some (.builtin "object.__class__"))
  gs : PySem.W.specialIn K (.builtin "object.__class__") "__get__" = some (some (.builtin "getset_descriptor.__get__"))
  tk : PySem.W.takesIn K (.builtin "object.__class__") = some true
  ob : PySem.W.mroIn K C (.type "object") = some true
  ty : PySem.W.typeIn K (.ref C) = some (.type "type")
/-- why.field == k -/
theorem sy_eq {c k : Nat} {nm fl : Str} {a : Addr} {oe : Obj} {cls : Value} {d : Option Addr} {pn : List (Addr × Obj)} {y : Exn} {p1 p2 p3 : Pos} {j : Nat} (XC : XcOk X.K (T.C c)) (hno : PySem.W.findIn X.K (.ref (T.C c)) fl = some none) (hfl : T.fn c = fl) (hz : Zc cls d oe) (hf : ∃ vs, oe.data = .fields vs)
    (hi : X.N[i]? = some nm := by rfl) (hv : Vis X.env.scope nm := by exact Or.inl rfl) (hd : (nm == ("__debug__" : Str)) = false := by decide) (hcd : (nm == ("__classdict__" : Str)) = false := by decide)
    (hb : attributeBase (.Name nm p1) fl X.env (eval (.Name nm p1) X.env) = eval (.Name nm p1) X.env := by rfl) :
    PE (X.suite a ((a, oe) :: pn)) (.Compare (.Attribute (.Name nm p1) fl p2) [.Eq] [.Constant (.int k) j p3] pos) (tY T i a cls d (wEqI c k) y) :=
  PE.imp (pe_cmpR op_eq (pe_xf ⟨XC.ga, XC.gg, XC.su, XC.hd⟩ hno hz hf (pe_var (X := X.suite a ((a, oe) :: pn)) hi hv hd hcd) hb) pe_int (nomark _)) fun σ H Q ⟨hi, ⟨F, h1, h2⟩, b, hb, hQ⟩ => by
    unfold wEqI at hb
    split at hb
    · rename_i ec
      cases ev : y.val with
      | none => rw [ev] at hb; cases hb
      | some p =>
        rw [ev] at hb h2
        obtain ⟨da, v, ed, eh, fz⟩ := h2
        split at hb
        · rename_i j' ej
          cases (Option.some.inj ej : p = .int j')
          cases fz
          cases (Option.some.inj hb : (j' == (k : Int)) = b)
          refine ⟨_, hi, rfl, by rw [h1, ec], da, _, _, ed, eh, by rw [ec, hfl]; exact List.lookup_cons_self, rfl, ?_⟩
          rw [dec_int]
          exact hQ
        · cases hb
    · cases hb
/-- isinstance(why, C) -/
theorem sy_is {nm cn : Str} {C : Addr} {a : Addr} {oe : Obj} {cls : Value} {d : Option Addr} {pn : List (Addr × Obj)} {y : Exn} {p0 p1 p2 : Pos} (hm : X.mg "isinstance" = none) (hC : X.mg cn = some (.ref C)) (XC : ∀ k, XcOk X.K (T.C k)) (hk : ∀ k, PySem.W.kitOne X.K (.ref (T.C k)) (.ref C) = some (sub k)) (hz : Zc cls d oe) (hf : ∃ vs, oe.data = .fields vs)
    (hi : X.N[i]? = some nm := by rfl) (hv : Vis X.env.scope nm := by exact Or.inl rfl) (hd : (nm == ("__debug__" : Str)) = false := by decide) (hcd : (nm == ("__classdict__" : Str)) = false := by decide) (hg : Gl X "isinstance" := by rfl) (hgC : Gl X cn := by rfl) (hdC : (cn == ("__debug__" : Str)) = false := by decide)
    (hs : starEach (Expr.Name nm p1 :: [.Name cn p2]) X.env = (false, eval (.Name nm p1) X.env) :: starEach [.Name cn p2] X.env := by rfl) (hs2 : starEach [.Name cn p2] X.env = (false, eval (.Name cn p2) X.env) :: starEach [] X.env := by rfl) :
    PE (X.suite a ((a, oe) :: pn)) (.Call (.Name "isinstance" p0) [.Name nm p1, .Name cn p2] [] pos) (tY T i a cls d (wIs sub) y) := by
  have rule : CallR (X.suite a ((a, oe) :: pn)) (.builtin "isinstance") (fun xs H Q => xs = [.ref a, .ref C] ∧ (∃ F, RX T H F y cls d) ∧ Q (.bl (sub y.cls)) H) := by
    intro pins s σ H xs us Q I r h
    obtain ⟨rfl, ⟨F, h1, h2⟩, hQ⟩ := h
    cases r with
    | cons rx rr =>
      cases rr with
      | cons rt rr =>
        cases rr
        cases rx
        cases rt
        obtain ⟨hget, _⟩ := I.pin (a, oe) (List.mem_append.mpr (.inl List.mem_cons_self))
        obtain ⟨vs, hv⟩ := hf
        have hK : X.K.In s.heap := I.kIn
        have nc : PySem.W.notCls oe = true := by unfold PySem.W.notCls; rw [hv]
        obtain ⟨od, J⟩ : ∃ od, PySem.W.InstAt s.heap a oe (T.C y.cls) od := by
          cases d with
          | none => exact ⟨none, hget, by rw [hz.1, h1], nc, by rw [hz.2]; trivial⟩
          | some dd =>
            cases ev : y.val with
            | none => rw [ev] at h2; cases h2
            | some p =>
              rw [ev] at h2
              obtain ⟨da, v, ed, eh, _⟩ := h2
              cases ed
              have hx : ObjOk X.prog X.w H s.heap dd (.xd [(T.fn y.cls, v)]) := I.hok dd _ eh
              obtain ⟨mA, hns, _⟩ := hx
              obtain ⟨od, ho, _⟩ := lookIn_ns hns
              exact ⟨some od, hget, by rw [hz.1, h1], nc, by rw [hz.2]; exact ho⟩
        have c := XC y.cls
        refine PySem.W.kia_one (PySem.W.kitx_exc c.cl c.ga c.gg c.su c.ca c.gs c.tk c.ob) I.kIn J (hk y.cls) (fun z => nomatch z) fun tk => ⟨.bl (sub y.cls), H, I.kept (t' := tk) fun _ _ z => z, rfl, hQ⟩
  exact PE.imp (pe_callB rule hg hm PyProof.Rows.boot_isinstance (pa_cons (pe_var (X := X.suite a ((a, oe) :: pn)) hi hv hd hcd) (pa_cons (pe_glob (X := X.suite a ((a, oe) :: pn)) (v := .ref C) hgC hC rfl hdC) pa_nil hs2) hs) (he := hs)) fun σ H Q ⟨hi, hx, b, hb, hQ⟩ => by
    cases (Option.some.inj hb : sub y.cls = b)
    exact ⟨_, hi, rfl, hx, hQ⟩
end
end Pd
end

section -- PdRaise
set_option Elab.async false
set_option linter.all false
set_option maxRecDepth 100000
set_option maxHeartbeats 8000000
/-! PdRaise: an exception whose __init__ hands its line to super().__init__ and keeps it; raise. -/
namespace Pd
open PySem PySem.Spec PySem.W PySem.Calls PyProof.Rows L2
def bfA (p1 p2 : Pos) : Arguments := { posonlyargs := [], args := [{ arg := "self", annotation := none, pos := p1 }, { arg := "line", annotation := none, pos := p2 }], vararg := none, kwonlyargs := [], kw_defaults := [], kwarg := none, defaults := [] }
def bf1 (q1 q2 q3 q4 q5 q6 : Pos) : Stmt := .Expr (.Call (.Attribute (.Call (.Name "super" q1) [] [] q2) "__init__" q3) [.Name "line" q4] [] q5) q6
def bf2 (q7 q8 q9 q0 : Pos) : Stmt := .Assign [.Attribute (.Name "self" q7) "line" q8] (.Name "line" q9) q0
def bfS : Scope := { kind := .function, names := [(PySem.Str.ofString "self", .local), (PySem.Str.ofString "line", .local), (PySem.Str.ofString "__class__", .free), (PySem.Str.ofString "super", .globalImplicit)], isGenerator := false, isCoroutine := false, more := [] }
/-- a method's call is evaluated by its receiver, its method, its arguments -/
def EvOk (o : Expr) (name : Str) (apos : Pos) (args : List Expr) (pos : Pos) : Prop := ∀ env : Env, ∃ pl : Sem Bool, eval (.Call (.Attribute o name apos) args [] pos) env = (do
  let ov ← attributeBase o name env (eval o env)
  standAt apos.atName
  let (f, first) ← holding [ov] (getMethod ov name pl)
  callWith pos f first (backTo pos (starEach args env)) [])
/-- what the top says of the class at C and of its __init__ at fI -/
structure BfTxt (K : Frag) (prog : Program) (mg : Str → Option Value) (C fI : Addr) : Prop where
  ex : PySem.W.excInitIn K C PySem.HandSPX.veTail "ValueError.__new__" = true
  cls : ∃ cd, clsIn K C = some cd ∧ PySem.HandSPX.refsVE cd.mro = true ∧ cd.hasDict = true
  al : ks_superIn K C C "__init__" = some (some (.builtin "ValueError.__init__"))
  sa : findIn K (.ref C) "__setattr__" = some (some (.builtin "object.__setattr__"))
  noN : findIn K (.ref C) "line" = some none
  iC : findIn K (.ref C) "__init__" = some (some (.ref fI))
  tC : typeIn K (.ref fI) = some (.type "function")
  kC : keepIn K (.ref C) = true
  exC : subIn K (.ref C) (.type "BaseException") = some true
  veC : subIn K (.ref C) (.type "ValueError") = some true
  meC : mroIn K C (.ref C) = some true
  tyC : typeIn K (.ref C) = some (.type "type")
  nT : nsIn K cStatics "thirdparty.any" = some none
  zs : mg "super" = none
  top : (prog.main.scope.names.lookup ("super" : Str)).isSome = false
  fn : ∃ (oc : Value) (od : Option Addr) (dV kV doc pm : Value) (an : Option Addr) (ct : Value) (osl : Array (Option Value)) (p1 p2 q1 q2 q3 q4 q5 q6 q7 q8 q9 q0 : Pos) (cda cc : Addr) (ccl : Value) (cdd : Option Addr) (vs : Array Value) (ccs : Array (Option Value)) (file : Str) (tf : Tok) (cl : Value) (cld : Option Addr) (csl : Array (Option Value)),
    K.lookup fI = some ⟨oc, od, .func (ksFn "__init__" "BadForm.__init__" (bfA p1 p2) [bf1 q1 q2 q3 q4 q5 q6, bf2 q7 q8 q9 q0] bfS .none kV doc pm an (.ref cda) ct cc), osl⟩ ∧ codeIn K (.ref cda) "BadForm.__init__" = true ∧
      K.lookup cda = some ⟨ccl, cdd, .fields vs, ccs⟩ ∧ vs[2]? = some (.str file tf) ∧ ((prog.main.file : Str) == file) = true ∧ EvOk (.Call (.Name "super" q1) [] [] q2) "__init__" q3 [.Name "line" q4] q5 ∧ K.lookup cc = some ⟨cl, cld, .cell (some (.ref C)), csl⟩
/-- what __init__ leaves of the exception at x -/
structure BfEnd (h h' : Heap) (x C dx t1 : Addr) (v : Value) : Prop where
  keep : ∀ b o, b ≠ x → h.get? b = some o → h'.get? b = some o
  obj : h'.get? x = some { cls := .ref C, dict := some dx, data := .fields #[.ref t1, .none, .none, .none, .bool false, .none] }
  dbig : h.objs.size ≤ dx
  dne : dx ≠ x
  ns : h'.Ns1 dx (fun y => if y = "line" then some v else none)
structure BfMade (h h' : Heap) (e C d : Addr) (v : Value) : Prop where
  keep : ∀ b o, h.get? b = some o → h'.get? b = some o
  new : h.objs.size ≤ e
  obj : ∃ oe vs, h'.get? e = some oe ∧ oe.cls = .ref C ∧ oe.dict = some d ∧ oe.data = .fields vs ∧ vs[1]? = some .none
  dbig : h.objs.size ≤ d
  dne : d ≠ e
  ns : h'.Ns1 d (fun y => if y = "line" then some v else none)
section
variable {prog : Program} {w : World} {A : Around} {E : Value → Shared → Prop} {R : Result → Shared → Prop} {s : Shared} {K : Frag} {mg : Str → Option Value} {C fI : Addr}
/-- the bound __init__ of ValueError is called -/
theorem mw_call {u x t0 : Addr} {rest : List Value} {Q : Value → Shared → Prop} (X : K.In s.heap) (T : BfTxt K prog mg C fI) (hu : s.heap.get? u = some (kxs_mw "ValueError.__init__" x)) (hx : s.heap.get? x = some (PySem.HandSPX.excO C t0)) (hz : rest.length ≤ sizeLine)
    (hq : ∀ h' t1, (∀ b o, b ≠ x → s.heap.get? b = some o → h'.get? b = some o) → h'.get? x = some (PySem.HandSPX.excO C t1) → Q .none { s with heap := h' }) : wpAny (model prog w) A (call (.ref u) rest) Q E s := by
  obtain ⟨nm, N', qn, bs, bm, hdct, sn, sub, ab, col, dd, k0, k1, k2, k3, k5, hC, hT⟩ := excInit_of X T.ex
  obtain ⟨hh, g, d, tk, os⟩ := s
  refine wpAny_call (codeAny_of_tree (show wpAny (model prog w) A.in1 (callAny (.ref u) ⟨rest, []⟩) _ _ _ from ?_))
  simp only [callAny]
  refine wpAny_bind (wpAny_load (a := u) hu ?_)
  have e1 : (Value.type "method-wrapper" == Value.type "method" || Value.type "method-wrapper" == Value.type "builtin_function_or_method" || Value.type "method-wrapper" == Value.type "method-wrapper") = true := by decide
  simp only [kxs_mw, e1, if_true]
  refine KFB.if_so (by decide) (wpAny_bind (check_bound_init PySem.F.excBase_ValueError.toExcCallFacts hC hx rfl (wpAny_bind (wpAny_pure (wpAny_pure ?_)))))
  refine ⟨plainId_quiet PySem.F.excBase_ValueError.init.plain _, codeAny_builtin PySem.F.excBase_ValueError.initEntry ?_⟩
  exact exc_init_tree (cls := .ref C) (t0 := t0) (dv := none) (c2 := .none) (c3 := .none) (b4 := .bool false) hx hz fun h' k e' _ => hq h' _ k e'
theorem bf_init (T : BfTxt K prog mg C fI) {x t0 : Addr} {v : Value} (X : K.In s.heap) (hlim : s.heap.NoLimit) (G : s.heap.Ns mainGlobals mg) (B : ∃ mb, s.heap.Ns builtinsNs mb ∧ ∀ y : Str, y ≠ "__name__" → mb y = bootBuiltins y)
    (hx : s.heap.get? x = some (PySem.HandSPX.excO C t0)) (hnx : K.lookup x = none) (hroom : A.depth < recursionLimit) (hq : ∀ h' tk dx t1, BfEnd s.heap h' x C dx t1 v → R (.ok (.ret .none)) { s with heap := h', toks := tk }) :
    codeAny (model prog w) A (.call (.ref fI) ⟨[.ref x, v], []⟩) R s := by
  obtain ⟨oc, od, dV, kV, doc, pm, an, ct, osl, p1, p2, q1, q2, q3, q4, q5, q6, q7, q8, q9, q0, cda, cc, ccl, cdd, vs, ccs, file, tf, cl, cld, csl, ho, hcd, hcode, hvs, hfile, hev, hcell⟩ := T.fn
  obtain ⟨cd, hcl, hmro, hdct⟩ := T.cls
  have hal := T.al
  unfold ks_superIn at hal
  rw [hcl] at hal
  obtain ⟨mb, B1, B2⟩ := B
  refine ks_codeAny_call_defAt (binds := [("self", .ref x), ("line", v)]) hroom (X _ _ ho) rfl hlim (codeRec_of X hcd) rfl (BindsTo.of_eq (by first | rfl | with_unfolding_all rfl)) (show ∀ y ∈ bfS.names, y.2 ≠ NameKind.cell by decide +kernel) ?loc (fun h₀ hns k₀ => ?_) rfl rfl rfl
  case loc =>
    intro y hy
    have hy : y = ((("self" : Str), Value.ref x) : Str × Value) ∨ y = ((("line" : Str), v) : Str × Value) := by simpa using hy
    rcases hy with rfl | rfl
    · exact (show bfS.names.lookup ("self" : Str) = some NameKind.local by decide +kernel)
    · exact (show bfS.names.lookup ("line" : Str) = some NameKind.local by decide +kernel)
  generalize hL : s.heap.objs.size = L at hns
  have hxL : x ≠ L := by rw [← hL]; exact Nat.ne_of_lt (Heap.lt_size hx)
  have X₀ : K.In h₀ := X.keeps k₀
  have hx₀ := k₀ _ _ hx
  obtain ⟨oD, hD1, hD2⟩ : ∃ oD, h₀.get? C = some oD ∧ oD.data = .cls cd := by
    unfold clsIn at hcl
    split at hcl
    · rename_i c' d' cd' sl' hoC
      cases hcl
      exact ⟨_, X₀ _ _ hoC, rfl⟩
    · cases hcl
  have inst : ∀ {h : Heap} {t1 : Addr}, h.get? x = some (PySem.HandSPX.excO C t1) → InstAt h x (PySem.HandSPX.excO C t1) C none := fun e => ⟨e, rfl, rfl, trivial⟩
  have hxC : x ≠ C := fun z => by
    rw [z] at hx₀
    rw [hx₀] at hD1
    cases hD1
    cases hD2
  -- super().__init__(line)
  obtain ⟨pl, hev⟩ := hev (callEnv (ksFn "__init__" "BadForm.__init__" (bfA p1 p2) [bf1 q1 q2 q3 q4 q5 q6, bf2 q7 q8 q9 q0] bfS .none kV doc pm an (.ref cda) ct cc) L fI)
  refine ks_wpAt_execs_cons (ks_wpAt_Expr_any (ks_wpAt_MethodCall (pl := pl) (ks_wpAt_super_base rfl rfl rfl rfl (X₀ _ _ ho) rfl rfl rfl (X₀ _ _ hcode) rfl hvs hfile T.top ?_) hev))
  refine ks_loadName_global rfl rfl (loadGlobal_builtin (mg := mg) (mb := mb) (G.keeps k₀) T.zs (B1.keeps k₀) ((B2 _ (by decide)).trans (show bootBuiltins "super" = some (.type "super") by decide +kernel)) ⟨rfl, ?_⟩)
  refine wpAny_loadName_free rfl rfl rfl ⟨_, X₀ _ _ hcell, rfl⟩ (wpAny_loadName_local rfl (by first | rfl | with_unfolding_all rfl) hns (show _ = some (Value.ref x) by first | rfl | with_unfolding_all rfl) ?_)
  refine ks_wpAny_isType_cls hD1 hD2 ⟨rfl, ks_wpAny_call_super hD1 hD2 hx₀ rfl (fun c z => nomatch z) (looks_mroIn X₀ T.meC) fun h1 hso k1 => ?_⟩
  have X₁ : K.In h1 := X₀.keeps k1
  have hx₁ := k1 _ _ hx₀
  refine kxs_getMethod kxs_ValueError hso (looks_opaque X₁ T.nT) (l₀ := cd.mro) (fun A Q E s k q => wpAny_bind ((looks_clsIn X₁ hcl) A _ E s k (wpAny_pure q))) rfl X₁ hal ((inst hx₁).type.andThen (looks_subIn X₁ T.veC)) hxC (by decide) ?_
  have k2 : ∀ b o, h1.get? b = some o → (h1.push (kxs_mw "ValueError.__init__" x)).get? b = some o := fun b o e => Heap.get?_push_of_some _ e
  have hmw : (h1.push (kxs_mw "ValueError.__init__" x)).get? h1.objs.size = some (kxs_mw "ValueError.__init__" x) := Heap.get?_push_at rfl rfl
  have k02 : ∀ b o, h₀.get? b = some o → (h1.push (kxs_mw "ValueError.__init__" x)).get? b = some o := fun b o e => k2 b o (k1 b o e)
  have hns2 : (h1.push (kxs_mw "ValueError.__init__" x)).Ns L (fun y => [(("self" : Str), Value.ref x), (("line" : Str), v)].reverse.lookup y) := hns.keeps k02
  show wpAny _ _ (callWith _ _ [] (backTo _ ((false, eval (.Name "line" q4) _) :: starEach [] _)) []) _ _ _
  refine kxs_callWith (i := "ValueError.__init__") (x := x) rfl (evalArgs_plain (args_cons (e := .Name "line" q4) (rest := []) (wpAny_Name (wpAny_loadName_local rfl (by first | rfl | with_unfolding_all rfl) hns2 (show _ = some v by first | rfl | with_unfolding_all rfl) (args_nil ⟨hmw, ?_⟩)) (by decide)) rfl))
  refine mw_call (t0 := t0) (X₁.keeps k2) T hmw (k2 _ _ hx₁) (by rw [sizeLine_eq]; exact (by decide : 1 ≤ 16777216)) fun h3 t1 k3 hx3 => ?_
  -- self.line = line
  have k03 : ∀ b o, b ≠ x → h₀.get? b = some o → h3.get? b = some o := fun b o n e => k3 b o n (k02 b o e)
  have X₃ : K.In h3 := fun b o e => k03 b o (fun z => by rw [z, hnx] at e; cases e) (X₀ b o e)
  have hns3 : h3.Ns L (fun y => [(("self" : Str), Value.ref x), (("line" : Str), v)].reverse.lookup y) := by
    obtain ⟨oL, es, ep, hoL, r⟩ := hns2
    exact ⟨oL, es, ep, k3 _ _ hxL.symm hoL, r⟩
  refine ks_wpAt_execs_cons (ks_wpAt_Assign_Attr (wpAt_of_wpAny (wpAny_Name (wpAny_loadName_local rfl (by first | rfl | with_unfolding_all rfl) hns3 (show _ = some v by first | rfl | with_unfolding_all rfl) ?_) (by decide))))
  refine wpAny_Name (wpAny_loadName_local rfl (by first | rfl | with_unfolding_all rfl) hns3 (show _ = some (Value.ref x) by first | rfl | with_unfolding_all rfl) ?_) (by decide)
  refine set_plain X₃ (inst hx3) T.sa (PySem.HandSPX.exc_osa X₃ hx3 hcl hmro hdct T.noN fun h4 tk4 dx k4 dn dne hx4 hn4 => ?_)
  refine wpAt_of_wpAny (wpAny_execs_nil (hq h4 tk4 dx t1 ⟨fun b o hb e => k4 b o hb (k03 b o hb (k₀ b o e)), hx4, ?_, dne, hn4⟩))
  have z : L < h3.objs.size := hns3.lt
  exact Nat.le_trans (Nat.le_of_eq hL) (Nat.le_trans (Nat.le_of_lt z) dn)
theorem bf_made (T : BfTxt K prog mg C fI) {v : Value} (X : K.In s.heap) (hlim : s.heap.NoLimit) (G : s.heap.Ns mainGlobals mg) (B : ∃ mb, s.heap.Ns builtinsNs mb ∧ ∀ y : Str, y ≠ "__name__" → mb y = bootBuiltins y) (hroom : A.depth + 1 < recursionLimit)
    (hq : ∀ h' tk e d, BfMade s.heap h' e C d v → R (.ok (.ret (.ref e))) { s with heap := h', toks := tk }) : codeAny (model prog w) A (.call (.ref C) ⟨[v], []⟩) R s := by
  obtain ⟨nm, N', qn, bs, bm, hdct, sn, sub, ab, col, dd, k0, k1, k2, k3, k5, hC, hT⟩ := excInit_of X T.ex
  obtain ⟨hp, g, dr, tk, os⟩ := s
  have k : ∀ b o, hp.get? b = some o → ((hp.push (kdv_tup [v])).push (PySem.HandSPX.excO C hp.objs.size)).get? b = some o := fun b o e => Heap.get?_push_of_some _ (Heap.get?_push_of_some _ e)
  have hget : ((hp.push (kdv_tup [v])).push (PySem.HandSPX.excO C hp.objs.size)).get? (hp.objs.size + 1) = some (PySem.HandSPX.excO C hp.objs.size) := by heap_get
  have hnx : K.lookup (hp.objs.size + 1) = none := by
    cases e : K.lookup (hp.objs.size + 1) with
    | none => rfl
    | some o =>
      have z : hp.objs.size + 1 < hp.objs.size := Heap.lt_size (show hp.get? (hp.objs.size + 1) = some o from X _ _ e)
      omega
  obtain ⟨mb, B1, B2⟩ := B
  refine PySem.HandSPX.call_own PySem.F.excBase_ValueError hT hC (looks_findIn X T.iC) (fun self => bind_fn X self T.tC) (by rw [sizeLine_eq]; exact (by decide : 1 ≤ 16777216)) ?_
  refine bf_init (s := ⟨(hp.push (kdv_tup [v])).push (PySem.HandSPX.excO C hp.objs.size), g, dr, tk, os⟩) T (X.keeps k) (hlim.keeps k) (G.keeps k) ⟨mb, B1.keeps k, B2⟩ hget hnx hroom fun h' tk' dx t1 ⟨k', hx, dn, dne, hns⟩ => ?_
  have z : hp.objs.size + 1 + 1 ≤ dx := by
    have q : ((hp.push (kdv_tup [v])).push (PySem.HandSPX.excO C hp.objs.size)).objs.size ≤ dx := dn
    rw [Heap.size_push, Heap.size_push] at q
    exact q
  refine ⟨rfl, hq h' tk' (hp.objs.size + 1) dx ⟨fun b o e => k' b o (Nat.ne_of_lt (Nat.lt_succ_of_lt (Heap.lt_size e))) (k b o e), Nat.le_succ _, ⟨_, _, hx, rfl, rfl, rfl, rfl⟩, (show hp.objs.size ≤ dx by omega), dne, hns⟩⟩
end
theorem kit_ref {K : Frag} {C : Addr} {cls : Value} {b : Bool} (x : XcOk K C) (hs : subIn K (.ref C) (.ref C) = some true) (h4 : subIn K cls (.ref C) = some b) : kitOne K cls (.ref C) = some b := by
  unfold kitOne
  by_cases e : (cls == Value.ref C) = true
  · rw [if_pos e]
    rw [beq_iff_eq.mp e, hs] at h4
    exact h4
  · rw [if_neg e]
    show (if ((clsIn K C).isSome && typeIn K (.ref C) == some (.type "type")) = true then subIn K cls (.ref C) else none) = some b
    rw [if_pos (by rw [x.cl, x.ty]; rfl)]
    exact h4
theorem relO_line {v : V} {v' : Value} (r : RelV v v') (f : Str) : RelO (List.lookup f [(("line" : Str), v)]) (if f = "line" then some v' else none) := by
  by_cases hw : f = "line"
  · subst hw
    rw [if_pos rfl, show List.lookup ("line" : Str) [(("line" : Str), v)] = some v from List.lookup_cons_self]
    exact r
  · have qw : (f == ("line" : Str)) = false := by simpa using hw
    rw [if_neg hw, show List.lookup f [(("line" : Str), v)] = none from by simp [List.lookup, qw]]
    trivial
section
variable {X : Cx} {T : Ct} {W : WX} {m : Nat} {pos pos2 p : Pos} {C fI : Addr}
theorem pmk_bf {a : Expr} {ta : TA} {k : Nat} {x : Str} (B : BfTxt X.K X.prog X.mg C fI) (gC : X.mg x = some (.ref C)) (hr : Room k X.A) (ha : PA X [a] ta) (hg : Gl X x := by rfl) (hdb : (x == ("__debug__" : Str)) = false := by decide)
    (he : starEach (a :: []) X.env = (false, eval a X.env) :: starEach [] X.env := by rfl) (hpl : (backTo pos (starEach [] X.env)).any (·.1) = false := by rfl) :
    PMk X (.Call (.Name x p) [a] [] pos) (fun σ H Q => ta σ H fun vs H1 => ∃ v, vs = [v] ∧ ∀ d, H1 d = none → Q (.ref C) (some d) (upd H1 d (.xd [(("line" : Str), v)]))) := by
  intro pins s σ H Q I h
  refine wpAny_Call_Name_kw (ld_glob I hg gC (PySem.W.callWith_K (h₀ := X.base) I.ok.mod.kin B.kC (thn (ha.run pos pins s σ H _ I h) fun us s1 hh => ?_) he hpl) hdb)
  obtain ⟨vs, H1, I1, r1, v, ev, q1⟩ := hh
  subst ev
  refine ⟨I1.kIn, ?_⟩
  cases r1 with
  | cons rv rn =>
    rename_i v' us'
    cases rn
    show wpAny _ _ (call (.ref C) [v']) _ _ _
    have hlim := I1.nolimit
    obtain ⟨mb, b1, b2⟩ := I1.mod.blt
    have Gs := I1.mod.glob.keeps I1.bk
    have Bs := b1.keeps I1.bk
    obtain ⟨hp, g, dr, tk, os⟩ := s1
    refine wpAny_call (bf_made B I1.kIn hlim Gs ⟨mb, Bs, b2⟩ (by have := hr.dp; omega) fun h' tk' e d M => ?_)
    show MkP X pins σ Q (.ref e) ⟨h', g, dr, tk', os⟩
    obtain ⟨oe, fv, hoe, hc, hd, hdat, h1⟩ := M.obj
    have hns := M.ns
    obtain ⟨G', g1, g2⟩ := restrict h' fun b => decide (b ≠ e)
    have gk : ∀ b, b ≠ e → G'.get? b = h'.get? b := fun b hb => g1 b (decide_eq_true hb)
    have ge : G'.get? e = none := g2 e (by simp)
    have old : ∀ b o, hp.get? b = some o → G'.get? b = some o := fun b o q => (gk b (Nat.ne_of_lt (Nat.lt_of_lt_of_le (Heap.lt_size q) M.new))).trans (M.keep b o q)
    have ob : ObjOk X.prog X.w (upd H1 d (.xd [(("line" : Str), v)])) G' d (.xd [(("line" : Str), v)]) :=
      ⟨_, hns.at (fun o q => (gk d M.dne).trans q), fun f => relO_line rv f⟩
    have J : Inv X pins σ (upd H1 d (.xd [(("line" : Str), v)])) ⟨G', g, dr, tk', os⟩ := I1.laid (t' := tk') old M.dbig ob
    refine ⟨e, oe, fv, ⟨G', g, dr, tk', os⟩, _, .ref C, some d, rfl, J, fun b o q => ?_, ge, hoe, ⟨hc, hd⟩, hdat, h1, ?_, rfl, I1.bare, raises_own B.exC B.tyC, q1 d (I1.hok.fresh M.dbig)⟩
    · by_cases hb : b = e
      · have q' : G'.get? b = some o := q
        rw [hb, ge] at q'; cases q'
      · exact (gk b hb).symm.trans q
    · rw [upd_ne (Ne.symm M.dne)]
      exact I1.hok.fresh M.new
theorem ss_raiseF {a : Expr} {f : FE} {k c : Nat} {x : Str} (hc : X.calm = true) (hK : X.K = T.K) (B : BfTxt X.K X.prog X.mg (T.C c) fI) (gC : X.mg x = some (.ref (T.C c))) (hfn : T.fn c = "line") (hr : Room k X.A) (tk : TakesB X X.env.locals W) (ha : PA X [a] (tX T W (rPs T.K) (fItems [(false, f)])))
    (hg : Gl X x := by rfl) (hdb : (x == ("__debug__" : Str)) = false := by decide) (he : starEach (a :: []) X.env = (false, eval a X.env) :: starEach [] X.env := by rfl) (hpl : (backTo pos (starEach [] X.env)).any (·.1) = false := by rfl) :
    PS X (.Raise (some (.Call (.Name x p) [a] [] pos)) none pos2) (tS T W m (sRaiseF c f)) := PS.imp (ps_raise (W := W) hc tk (pmk_bf B gC hr ha hg hdb he hpl)) fun D σ H h => by
  obtain ⟨ρ, st, μ, F, hm, L, S, h⟩ := h
  have hm' : m ≤ μ.length := by rw [S.len]; exact hm
  unfold sRaiseF at h
  have h' : PostS T W m H μ F D (RS.of ρ (fItems [(false, f)] ρ st) fun xs s1 => match xs with
      | [x] => .exc ⟨c, some x⟩ ρ s1
      | _ => .bad) := by
    unfold fItems
    cases e : fPure f ρ st with
    | ok x s1 => rw [e] at h; exact h
    | exc x s1 => rw [e] at h; exact h
    | bad => rw [e] at h; exact h
  refine ⟨ρ, st, μ, F, L, S, PostS.of (R := rPs T.K) L S hm h' fun vs H1 μ1 F1 xs s1 _ a1 a2 a3 a4 a5 h => ?_⟩
  split at h
  · rename_i y
    cases a1 with
    | cons r t =>
      cases t
      rename_i v
      refine ⟨v, rfl, fun d hd => ?_⟩
      obtain ⟨S2, e2⟩ := a2.alloc hd (.xd [(("line" : Str), v)])
      refine h (.ref (T.C c)) (some d) σ _ μ1 F1 ⟨rfl, d, v, rfl, ?_, r.mono e2 a2.sub⟩ (a5.mono e2 a2.sub (List.prefix_refl _)) S2 (a3.trans S.sub e2) (pre_take a4 hm')
      rw [upd_same]
      show some (HO.xd [(("line" : Str), v)]) = some (HO.xd [(T.fn c, v)])
      rw [hfn]
  · exact h.elim
end
end Pd
end

section -- PdEnd
set_option Elab.async false
set_option linter.all false
set_option maxRecDepth 100000
/-! PdEnd: what a law's last theorem wants. -/
namespace Pd
open PySem PySem.Spec PySem.W PyProof.Rows L2
/-- law's promise: a list of at most n ints is handed in, True comes out -/
def spLaw (n : Nat) (K : Frag) : Sp := fun vs H Q _ => ∃ (aa : Addr) (ns : List Int), vs = [.ref aa] ∧ SqL K H aa (ns.map V.int) ∧ ns.length ≤ n ∧ ∀ H', Q (.bl true) H'
theorem ints_fz {K : Frag} {H : Hp} {F : Addr → Prop} : ∀ ns : List Int, FzL K H F (ns.map V.int) (ns.map P.int)
  | [] => .nil
  | n :: ns => .cons (.int n) (ints_fz ns)
theorem law_imp {T : Ct} {G : FF} {n : Nat} (h : ∀ ns : List Int, ns.length ≤ n → ∃ st, G [.p (.ro (ns.map P.int))] [] = .ok (.p (.bl true)) st) {vs : List V} {H : Hp} {Q : VK} {E : XK} : spLaw n T.K vs H Q E → spF T 1 G vs H Q E := by
  rintro ⟨aa, ns, rfl, hS, hl, hQ⟩
  obtain ⟨st, e⟩ := h ns hl
  have no : ¬ (fun _ : Addr => False) aa := fun z => z
  refine ⟨rfl, [.p (.ro (ns.map P.int))], [], [], fun _ => False, .cons (Fz.ro ?_ (ints_fz ns)) .nil, ⟨rfl, List.nodup_nil, fun a h => (List.not_mem_nil h).elim, fun a h => h.elim, fun i a o h => by simp at h⟩, ?_⟩
  · rcases hS with hS | hS
    · exact .inl ⟨hS, no⟩
    · exact .inr (.inr hS)
  · rw [e]
    intro b H' μ' F' h1 h2 h3 h4
    cases (show Fz T.K H' F' b (.bl true) from h1)
    exact hQ H'
theorem passL_end {P : Program} {w : World} {H : Hp} {s : Shared} {e : Value} {s' : Shared} (h : L2.CX P w [] H s (fun _ _ _ => False) e s') : False := by
  obtain ⟨_, _, _, _, _, _, _, _, _, _, _, _, z⟩ := h
  exact z
theorem cls_of {K : Frag} {nm q : Str} {C N : Addr} {bs bm : List Value} {sn : List Str} {sub : List Value} {ab : Bool} {col : Option Bool} {dd : Option Addr} {k0 k1 k2 k3 k5 : Option Value} {n : String} (hC : K.lookup C = some (excClassObj nm q C N bs bm true sn sub ab col dd k0 k1 k2 k3 k5 n)) :
    ∃ cd, clsIn K C = some cd ∧ cd.mro = .ref C :: bm ∧ cd.hasDict = true := by
  unfold clsIn
  rw [hC]
  exact ⟨_, rfl, rfl, rfl⟩
end Pd
end

section -- PdMore
set_option Elab.async false
set_option linter.all false
set_option maxRecDepth 100000
set_option maxHeartbeats 8000000
/-! PdMore: stars in displays, items set, names changed in place. -/
namespace Pd
open PySem PySem.Spec PyProof.Rows L2
section
variable {X : Cx} {T : Ct} {W : WX} {m : Nat} {σ : L2.St} {H : Hp} {μ : List Addr} {F : Addr → Prop} {st : Sto} {pos p : Pos} {ρ : Loc} {D : Ends}
/-- the values of what is starred -/
theorem nw_star {K : PySem.W.Frag} {v : V} {y : P} {ys : List P} (n : Nw K H F v y) (e : y = .lst ys ∨ y = .tup ys) : ∃ a vs, v = .ref a ∧ (SqT K H a vs ∨ SqL K H a vs) ∧ FzL K H F vs ys := by
  rcases e with rfl | rfl
  · obtain ⟨a, vs, rfl, t, l⟩ := nw_lst n
    exact ⟨a, vs, rfl, .inr (.of t), l⟩
  · obtain ⟨a, vs, rfl, t, l⟩ := nw_tup n
    exact ⟨a, vs, rfl, .inl t.sq, l⟩
theorem si_star {e : Expr} {es : List Expr} {f : FE} {fs : List (Bool × FE)} (hK : X.K = T.K) (he : PE X e (tX T W (rD T.K) f)) (hr : PA X es (tX T W (rPs T.K) (fItems fs))) (hs : starEach (.Starred e p :: es) X.env = (true, eval e X.env) :: starEach es X.env := by rfl) :
    PA X (.Starred e p :: es) (tX T W (rPs T.K) (fItems ((true, f) :: fs))) := PA.imp (StX.pa_star he hr hs) fun σ H Q h => by
  obtain ⟨ρ, st, μ, F, L, S, h⟩ := h
  refine ⟨ρ, st, μ, F, L, S, Post.bind0 (R1 := rD T.K) S.sub (Ext.refl _ _ _) (List.prefix_refl _) (fun _ _ _ w => w) h fun v H1 μ1 F1 d s1 _ a1 a2 a3 a4 h => ?_⟩
  obtain ⟨t, e0⟩ := cutback S a2 a3 a4
  have L1 := L.mono e0 S.sub (List.prefix_refl _)
  have key : ∀ ys : List P, (∃ y, asP d s1 = some y ∧ (y = .lst ys ∨ y = .tup ys)) → Post T W (rPs T.K) σ H μ F Q ((fItems fs ρ (s1.take st.length)).bind fun xs s2 => .ok (ys ++ xs) s2) →
      ∃ q xs, v = V.ref q ∧ (SqT X.K H1 q xs ∨ SqL X.K H1 q xs) ∧ tX T W (rPs T.K) (fItems fs) σ H1 fun zs H2 => Q (xs ++ zs) H2 := fun ys ⟨y, e1, e2⟩ h => by
    obtain ⟨a, vs, rfl, q, l⟩ := nw_star (now_of a2 a1 e1) e2
    refine ⟨a, vs, rfl, by rw [hK]; exact q, ρ, s1.take st.length, μ, F1, L1, t, Post.bind0 (R1 := rPs T.K) S.sub e0 (List.prefix_refl _) (fun _ _ _ w => w) h fun us H2 μ2 F2 xs s2 _ b1 b2 b3 b4 h => ?_⟩
    exact h (vs ++ us) H2 μ2 F2 ((l.mono b3 t.sub).append b1) b2 (e0.trans S.sub b3) b4
  cases e1 : asP d s1 with
  | none => rw [e1] at h; exact h.elim
  | some y =>
    rw [e1] at h
    cases y with
    | lst ys => exact key ys ⟨_, e1, .inl rfl⟩ h
    | tup ys => exact key ys ⟨_, e1, .inr rfl⟩ h
    | _ => exact h.elim
/-- xs[i] = e -/
theorem ss_setI {o i e : Expr} {fo fi f : FE} {spos : Pos} (he : PE X e (tX T W (rD T.K) f)) (ho : PE X o (tX T W (rD T.K) fo)) (hi : PE X i (tX T W (rD T.K) fi))
    (ha : ∀ v, assign (.Subscript o i pos) X.env v = (do
      let ov ← holding [v] (eval o X.env)
      let iv ← holding [v, ov] (eval i X.env)
      standAt pos
      holding [v, ov, iv] (setItem ov iv v)
      release [v, ov, iv] []) := by intro _; rfl) (hs : swapsWithSole [.Subscript o i pos] e spos.line X.env = pure false := by rfl) (hw : swappedStores [.Subscript o i pos] e X.env = pure none := by rfl)
    (h1 : (assignEach [.Subscript o i pos] X.env).map (·.2) = [assign (.Subscript o i pos) X.env] := by rfl) : PS X (.Assign [.Subscript o i pos] e spos) (tS T W m (sSet fo fi f)) :=
  PS.imp (ps_asg he (pg_sub ho hi set_list ha) hs hw h1) fun D σ H h => by
    obtain ⟨ρ, st, μ, F, hm, L, S, h⟩ := h
    have hm' : m ≤ μ.length := by rw [S.len]; exact hm
    refine ⟨ρ, st, μ, F, L, S, frz_post S (PostS.of (R := rP T.K) L S hm h fun x H1 μ1 F1 p s1 _ a1 a2 a3 a4 a5 h => ?_)⟩
    have h := h.ext S.sub a3 (pre_take a4 hm')
    have hm1' : m ≤ μ1.length := Nat.le_trans hm' a4.length_le
    have hm1 : m ≤ s1.length := by rw [← a2.len]; exact hm1'
    refine ⟨ρ, s1, μ1, F1, a5, a2, PostS.of (R := rD T.K) a5 a2 hm1 h fun o H2 μ2 F2 d s2 _ b1 b2 b3 b4 b5 h => ?_⟩
    have h := h.ext a2.sub b3 (pre_take b4 hm1')
    have hm2' : m ≤ μ2.length := Nat.le_trans hm1' b4.length_le
    have hm2 : m ≤ s2.length := by rw [← b2.len]; exact hm2'
    refine ⟨ρ, s2, μ2, F2, b5, b2, nrm_post b2 (PostS.of (R := rD T.K) b5 b2 hm2 h fun iv H3 μ3 F3 k s3 _ c1 c2 c3 c4 c5 h => ?_)⟩
    cases d with
    | p y => exact h.elim
    | r j =>
    cases k with
    | r y => exact h.elim
    | p k' =>
    cases k' with
    | int z =>
      obtain ⟨a, ha, rfl⟩ := (show RD T.K H2 μ2 F2 o (.r j) from b1)
      cases (show Fz T.K H3 F3 iv (.int z) from c1)
      simp only at h
      cases e1 : s3[j]? with
      | none => rw [e1] at h; exact h.elim
      | some ob =>
        rw [e1] at h
        cases ob with
        | gone => exact h.elim
        | lst ys =>
          simp only at h
          cases e2 : Pd.ixN ys.length z with
          | none => rw [e2] at h; exact h.elim
          | some q =>
            rw [e2] at h
            have ha3 : μ3[j]? = some a := by
              obtain ⟨t, rfl⟩ := c4
              rw [List.getElem?_append_left (List.getElem?_eq_some_iff.mp ha).1]; exact ha
            obtain ⟨vs, g1, g2⟩ := c2.obj j a _ ha3 e1
            have fx : Fz T.K H3 F3 x p := (a1.mono b3 a2.sub).mono c3 b2.sub
            obtain ⟨S4, E4⟩ := c2.set ha3 (g2.set fx q)
            refine ⟨a, vs, z, q, rfl, rfl, g1, by rw [g2.length]; exact e2, ?_⟩
            exact h σ _ μ3 F3 (c5.mono E4 c2.sub (List.prefix_refl _)) S4 (c3.trans b2.sub E4) (pre_take c4 hm2')
    | _ => exact h.elim
/-- what the top says of an exception's class without an __init__ of its own -/
structure NiTxt (K : PySem.W.Frag) (C : Addr) : Prop where
  ex : PySem.W.excIn K C PySem.HandSPX.veTail "ValueError.__new__" = true
  kC : PySem.W.keepIn K (.ref C) = true
/-- raise X('..') -/
theorem ss_raise {c j : Nat} {x msg : Str} {p2 pos2 : Pos} (hc : X.calm = true) (N : NiTxt X.K (T.C c)) (xc : XcOk X.K (T.C c)) (gC : X.mg x = some (.ref (T.C c))) (tk : TakesB X X.env.locals W) (hg : Gl X x := by rfl) (hdb : (x == ("__debug__" : Str)) = false := by decide) :
    PS X (.Raise (some (.Call (.Name x p) [.Constant (.str msg) j p2] [] pos)) none pos2) (tS T W m (sRaise c)) :=
  PS.imp (ps_raise (W := W) hc tk (pmk_own PySem.F.excBase_ValueError N.ex gC N.kC (raises_own xc.su xc.ty) hg hdb)) fun D σ H h => by
    obtain ⟨ρ, st, μ, F, hm, L, S, h⟩ := h
    exact h (.ref (T.C c)) none σ H μ F ⟨rfl, rfl⟩ L S (Ext.refl _ _ _) rfl
/-- name += e and its like: ints -/
theorem ss_aug {i : Nat} {x : Str} {e : Expr} {f : FE} {op : Operator} {g : P → P → Option NV} {gi : Int → Int → Int} {pos' : Pos} (hN : X.N.Nodup) (he : PE X e (tX T W (rD T.K) f)) (ho : PIp X op (ipI gi)) (hg : ∀ x y z, g x y = some z → ∃ a b, x = .int a ∧ y = .int b ∧ z = .p (.int (gi a b))) (hi : X.N[i]? = some x := by rfl) (hx : L2.Loc X.env.scope x := by first | exact Or.inl rfl | exact Or.inr rfl)
    (hf : X.fn x = true ∨ X.env.scope.names.lookup x = some .local := by first | exact .inl rfl | exact .inr rfl) : PS X (.AugAssign (.Name x pos') op e pos) (tS T W m (sAug g i f)) := PS.imp (ps_aug hN hi hx he ho hf) fun D σ H h => by
  obtain ⟨ρ, st, μ, F, hm, L, S, h⟩ := h
  unfold sAug at h
  split at h
  · rename_i z ez
    obtain ⟨v, h1, h2⟩ := L.val i _ ez
    refine ⟨v, h1, ρ, st, μ, F, L, S, nrm_post S (PostS.of (R := rD T.K) L S hm h fun w H1 μ1 F1 d s1 _ a1 a2 a3 a4 a5 h => ?_)⟩
    cases e1 : asP d s1 with
    | none => rw [e1] at h; exact h.elim
    | some y =>
      rw [e1] at h
      simp only at h
      cases e2 : g z y with
      | none => rw [e2] at h; exact h.elim
      | some r =>
        obtain ⟨a, b, rfl, rfl, rfl⟩ := hg _ _ _ e2
        rw [e2] at h
        cases (show Fz T.K H F v (.int a) from h2)
        cases nw_int (now_of a2 a1 e1)
        obtain ⟨t, e0⟩ := cutback S a2 a3 a4
        refine ⟨a, b, rfl, rfl, h _ H1 μ F1 ?_ t e0 rfl⟩
        exact (L.mono e0 S.sub (List.prefix_refl _)).set (d := .p (.int (gi a b))) (.int _)
  · exact h.elim
theorem addI_int (x y : P) (z : NV) (h : oAddI x y = some z) : ∃ a b, x = .int a ∧ y = .int b ∧ z = .p (.int (a + b)) := by
  unfold oAddI at h
  split at h
  · exact ⟨_, _, rfl, rfl, (Option.some.inj h).symm⟩
  · cases h
theorem sub_int' (x y : P) (z : NV) (h : oSub x y = some z) : ∃ a b, x = .int a ∧ y = .int b ∧ z = .p (.int (a - b)) := by
  unfold oSub at h
  split at h
  · exact ⟨_, _, rfl, rfl, (Option.some.inj h).symm⟩
  · cases h
end
/-- a < b < c as a test -/
theorem st_chain {X : Cx} {T : Ct} {W : WX} {pos : Pos} {a b c : Expr} {fa fb fc : FE} {cop cop' : CmpOp} {g g' : P → P → Option NV} (ho : OpR X (compareOp cop) (r2 T W g)) (ho' : OpR X (compareOp cop') (r2 T W g')) (ha : PE X a (tX T W (rD T.K) fa)) (hb : PE X b (tX T W (rD T.K) fb)) (hc : PE X c (tX T W (rD T.K) fc)) (hm : lastMarks [cop, cop'] [b, c] = false := by with_unfolding_all rfl) :
    PT X (.Compare a [cop, cop'] [b, c] pos) (tX T W rB (tOf (eChain g g' fa fb fc))) := PT.imp (pt_chain ho ho' ha hb hc hm) fun _ _ _ h => chain_reads (tOf_reads h)
/-- a def whose semantics says nothing -/
theorem fn_bad {P : Program} {w : World} {T : Ct} {mg : Str → Option Value} {base : Heap} {k np : Nat} {f : Addr} {fd : FuncData} {ps : List Str} (hp : ps.length = np) : FnOk P w T.K mg base (L2.CX P w) k f fd ps (spF T np (fun _ _ => .bad)) :=
  ⟨fun vs H Q E h => h.1.trans hp.symm, fun A outer s H args us vs Q E _ _ _ _ h => by
    obtain ⟨_, ds, st, μ, F, _, _, h⟩ := h
    exact h.elim⟩
end Pd
end

section -- PdMove
set_option Elab.async false
set_option linter.all false
set_option maxRecDepth 100000
set_option maxHeartbeats 8000000
/-! PdMove: a new list is taken as data; a name's new list takes the place of its old one; loops that keep only what stands below b. -/
namespace Pd
open PySem PySem.Spec PyProof.Rows L2
section
variable {X : Cx} {T : Ct} {W : WX} {m : Nat} {σ : L2.St} {H H1 : Hp} {μ μ1 : List Addr} {F F1 : Addr → Prop} {st : Sto} {pos : Pos} {ρ : Loc} {D D' : Ends}
variable {e c : Expr} {f : FE} {ft : FT} {g : FS}
theorem frz_reads {Q : V → Hp → Prop} (h : tX T W (rD T.K) (eFrz f) σ H Q) : tX T W (rD T.K) f σ H Q := by
  obtain ⟨ρ, st, μ, F, L, S, h⟩ := h
  refine ⟨ρ, st, μ, F, L, S, frz_post S ?_⟩
  unfold eFrz at h
  cases e : frz st.length (f ρ st) with
  | ok x s =>
    rw [e] at h
    exact fun b H' μ' F' h1 h2 h3 h4 => h b H' μ' F' h1 h2 h3 h4
  | exc x s => rw [e] at h; exact h
  | bad => rw [e] at h; exact h
/-- a new list as data -/
theorem se_frz (he : PE X e (tX T W (rD T.K) f)) : PE X e (tX T W (rD T.K) (eFrz f)) := PE.imp he fun _ _ _ h => frz_reads h
/-! ### a name's new list takes the place of its old one -/
theorem RL.swap {K : PySem.W.Frag} {i j k : Nat} {a : Addr} {v : V} (L : RL K H μ F σ ρ) (hi : i < ρ.length) (hv : v = .ref a) (ha : μ[k]? = some a) (hjk : j < k) (hnk : ∀ s : Nat, ρ[s]? ≠ some (some (.r k))) (hb : ∀ (s q : Nat), ρ[s]? = some (some (.r q)) → q < k) (hj : ((ρ.set i none).any (hasR j)) = false) :
    RL K H ((μ.set j a).take k) F (σ.set i (some v)) (ρ.set i (some (.r j))) := by
  refine ⟨by simp [L.len], fun s d h => ?_⟩
  by_cases z : i = s
  · subst z
    rw [List.getElem?_set_self hi] at h
    cases h
    have hl : i < σ.length := by rw [← L.len]; exact hi
    refine ⟨v, by rw [List.getElem?_set_self hl], a, ?_, hv⟩
    have hk := (List.getElem?_eq_some_iff.mp ha).1
    rw [List.getElem?_take, if_pos hjk, List.getElem?_set_self (by omega)]
  · rw [List.getElem?_set_ne z] at h
    obtain ⟨u, h1, h2⟩ := L.val s d h
    refine ⟨u, by rw [List.getElem?_set_ne z]; exact h1, ?_⟩
    cases d with
    | p x => exact h2
    | r q =>
      obtain ⟨b, h3, h4⟩ := h2
      have hq := hb s q h
      have hne : j ≠ q := fun e => by
        subst e
        have hs : (ρ.set i none)[s]? = some (some (D.r j)) := by rw [List.getElem?_set_ne z]; exact h
        have : (ρ.set i none).any (hasR j) = true := List.any_eq_true.mpr ⟨_, List.mem_of_getElem? hs, by simp [hasR]⟩
        rw [hj] at this; cases this
      exact ⟨b, by rw [List.getElem?_take, if_pos hq, List.getElem?_set_ne hne]; exact h3, h4⟩
theorem RSt.swap {K : PySem.W.Frag} {j k : Nat} {a : Addr} {o : O} (S : RSt K H μ F st) (ha : μ[k]? = some a) (ho : st[k]? = some o) (hjk : j < k) : RSt K H ((μ.set j a).take k) F ((st.set j o).take k) := by
  have hk := (List.getElem?_eq_some_iff.mp ha).1
  have mem : ∀ s b, ((μ.set j a).take k)[s]? = some b → s < k ∧ (if s = j then b = a else μ[s]? = some b) := fun s b h => by
    rw [List.getElem?_take] at h
    split at h
    · rename_i hs
      refine ⟨hs, ?_⟩
      by_cases z : s = j
      · subst z
        rw [List.getElem?_set_self (by omega)] at h
        rw [if_pos rfl]; exact (Option.some.inj h).symm
      · rw [List.getElem?_set_ne (fun e => z e.symm)] at h
        rw [if_neg z]; exact h
    · cases h
  refine ⟨by simp [S.len], ?_, fun b h => ?_, S.live, fun s b u h1 h2 => ?_⟩
  · show List.Pairwise (· ≠ ·) _
    rw [List.pairwise_iff_getElem]
    intro s q hs hq hsq e
    obtain ⟨q1, q2⟩ := mem q _ (List.getElem?_eq_getElem hq)
    obtain ⟨s1, s2⟩ := mem s _ (List.getElem?_eq_getElem hs)
    rw [e] at s2
    have nd : ∀ {x y : Nat} {c : Addr}, μ[x]? = some c → μ[y]? = some c → x = y := fun h1 h2 => nd_ix S.nd h1 h2
    by_cases zs : s = j
    · rw [if_pos zs] at s2
      by_cases zq : q = j
      · omega
      · rw [if_neg zq, s2] at q2
        have := nd q2 ha
        omega
    · rw [if_neg zs] at s2
      by_cases zq : q = j
      · rw [if_pos zq] at q2
        rw [q2] at s2
        have := nd s2 ha
        omega
      · rw [if_neg zq] at q2
        have := nd q2 s2
        omega
  · have := List.mem_of_mem_take h
    rcases List.mem_or_eq_of_mem_set this with h | h
    · exact S.sub b h
    · rw [h]; exact S.sub a (List.mem_of_getElem? ha)
  · obtain ⟨s1, s2⟩ := mem s b h1
    rw [List.getElem?_take, if_pos s1] at h2
    by_cases z : s = j
    · subst z
      rw [if_pos rfl] at s2
      subst s2
      have : s < st.length := by rw [← S.len]; omega
      rw [List.getElem?_set_self this] at h2
      cases h2
      exact S.obj k b _ ha ho
    · rw [if_neg z] at s2
      rw [List.getElem?_set_ne (fun e => z e.symm)] at h2
      exact S.obj s b u s2 h2
theorem asgM_reads {b i : Nat} (hb : m ≤ b) (h : tS T W m (sAsgM b i f) D σ H) : tX T W (rD T.K) f σ H (fun x H1 => D.nx (σ.set i (some x)) H1) := by
  obtain ⟨ρ, st, μ, F, hm, L, S, h⟩ := h
  have hm' : m ≤ μ.length := by rw [S.len]; exact hm
  refine ⟨ρ, st, μ, F, L, S, PostS.of (R := rD T.K) L S hm h fun v H1 μ1 F1 d s1 _ a1 a2 a3 a4 a5 h => ?_⟩
  have plain : PostS T W m H μ F D (.next (ρ.set i (some d)) s1) → D.nx (σ.set i (some v)) H1 := fun h => h _ H1 μ1 F1 (a5.set a1) a2 a3 (pre_take a4 hm')
  split at h
  · rename_i j k hj _
    split at h
    · rename_i cnd
      simp only [Bool.and_eq_true, decide_eq_true_eq, Bool.not_eq_true'] at cnd
      obtain ⟨⟨⟨⟨c1, c2⟩, c3⟩, c4⟩, c5⟩ := cnd
      split at h
      · rename_i o ho
        obtain ⟨a, ha, hv⟩ := a1
        have hi : i < ρ.length := (List.getElem?_eq_some_iff.mp hj).1
        have bnd : ∀ (s q : Nat), ρ[s]? = some (some (.r q)) → q < st.length := fun s q hs => by
          obtain ⟨u, _, b', h3, _⟩ := L.val s _ hs
          rw [← S.len]
          exact (List.getElem?_eq_some_iff.mp h3).1
        refine h _ H1 _ F1 (a5.swap hi hv ha c3 (fun s hs => absurd (bnd s k hs) (by omega)) (fun s q hs => by have := bnd s q hs; omega) c5) (a2.swap ha ho c3) ⟨a3.keep, a3.fr, a3.old, fun b' mb => ?_⟩ ?_
        · rcases List.mem_or_eq_of_mem_set (List.mem_of_mem_take mb) with z | z
          · exact a3.new b' z
          · rw [z]; exact a3.new a (List.mem_of_getElem? ha)
        · have hjm : m ≤ j := by omega
          rw [List.take_take, Nat.min_eq_left (by omega), List.take_set_of_le hjm]
          exact pre_take a4 hm'
      · exact h.elim
    · exact plain h
  · exact plain h
theorem ss_setM {b i : Nat} {x : Str} {pos' : Pos} (hb : m ≤ b) (hN : X.N.Nodup) (he : PE X e (tX T W (rD T.K) f)) (hi : X.N[i]? = some x := by rfl) (hx : L2.Loc X.env.scope x := by first | exact Or.inl rfl | exact Or.inr rfl) (hs : swapsWith e (some (.Name x pos')) pos.line X.env = pure false := by rfl) (hf : X.fn x = true ∨ X.env.scope.names.lookup x = some .local := by first | exact .inl rfl | exact .inr rfl) :
    PS X (.Assign [.Name x pos'] e pos) (tS T W m (sAsgM b i f)) := PS.imp (ps_set hN hi hx he hs hf) fun D σ H h => asgM_reads hb h
/-! ### a while that keeps what stands below b -/
variable {body : List Stmt} {vs : List Nat}
theorem whileB_reads {b k : Nat} (hmb : m ≤ b) (h : tS T W m (sWhB b k ft g vs) D σ H) : tWhile (tX T W rB ft) (tS T W b g) D σ H := by
  obtain ⟨ρ, st, μ, F, hm, L, S, h⟩ := h
  unfold sWhB at h
  by_cases hbl : b ≤ st.length
  · rw [if_pos hbl] at h
    let Wn : Nat → L2.St → Hp → Prop := fun i σ2 H2 => ∃ ρ2 st2 μ2 F2, RL T.K H2 μ2 F2 σ2 ρ2 ∧ RSt T.K H2 μ2 F2 st2 ∧ Ext H μ F H2 μ2 F2 ∧ μ2.take b = μ.take b ∧ b ≤ st2.length ∧ PostS T W m H μ F D (whL ft g vs b i ρ2 st2)
    refine ⟨Wn, ⟨k, ρ, st, μ, F, L, S, Ext.refl _ _ _, rfl, hbl, h⟩, ?_⟩
    rintro i σ2 H2 ⟨ρ2, st2, μ2, F2, L2', S2, e2, p2, hl2, h2⟩
    cases i with
    | zero => exact h2.elim
    | succ i =>
      rw [whL] at h2
      have h2' := h2
      have hW : ∀ {r : Res Bool} {k : Bool → Sto → RS}, PostS T W m H μ F D (RS.of ρ2 r k) → ∀ {Q : Bool → Hp → Prop}, (∀ b H1 μ1 F1 s1, r = .ok b s1 → RSt T.K H1 μ1 F1 s1 → Ext H2 μ2 F2 H1 μ1 F1 → μ2 <+: μ1 → RL T.K H1 μ1 F1 σ2 ρ2 → PostS T W m H μ F D (k b s1) → Q b H1) → Post T W rB σ2 H2 μ2 F2 Q r := fun {r k} h {Q} n => by
        cases r with
        | ok a s1 => exact fun b H' μ' F' h1 h2 h3 h4 => by cases h1; exact n _ H' μ' F' s1 rfl h2 h3 h4 (L2'.mono h3 S2.sub h4) h
        | exc x s1 => exact fun c d H' μ' F' h1 h2 h3 h4 => h c d σ2 H' μ' F' h1 (L2'.mono h3 S2.sub h4) h2 (e2.trans S.sub h3) (take_less hmb (by rw [pre_take h4 (by rw [S2.len]; exact hl2), p2]))
        | bad => exact h
      refine ⟨ρ2, st2, μ2, F2, L2', S2, hW h2' fun c H3 μ3 F3 s3 _ a2 a3 a4 a5 h => ?_⟩
      have E3 := e2.trans S.sub a3
      have P3 : μ3.take b = μ.take b := by rw [pre_take a4 (by rw [S2.len]; exact hl2), p2]
      have hl3 : b ≤ s3.length := by rw [← a2.len]; exact Nat.le_trans (by rw [S2.len]; exact hl2) a4.length_le
      refine ifb (fun e => ?_) fun e => ?_
      · subst e
        simp only [if_true] at h
        refine ⟨Wn i, fun σ' H' nx => ⟨i, by omega, nx⟩, ρ2, s3, μ3, F3, hl3, a5, a2, ?_⟩
        refine turn_post (n := b) hmb S.sub E3 P3 a2.sub h (fun ρ4 s4 σ4 H4 μ4 F4 c1 c2 c3 c4 h3 => ?_) fun ρ4 s4 σ4 H4 μ4 F4 c1 c2 c3 c4 h3 => ?_
        · have hl4 : b ≤ s4.length := by rw [← c2.len]; exact take_len c4 (by rw [a2.len]; exact hl3)
          obtain ⟨μ', d1, d2, d3, d4, d5⟩ := clean_ok (vs := vs) c1 c2 hl4
          have E4 := E3.trans S.sub c3
          exact ⟨_, _, μ', F4, d1, d2, ⟨E4.keep, E4.fr, E4.old, fun a ma => E4.new a (d4 a ma)⟩, by rw [d3, c4, P3], d5, h3⟩
        · have hl4 : b ≤ s4.length := by rw [← c2.len]; exact take_len c4 (by rw [a2.len]; exact hl3)
          obtain ⟨μ', d1, d2, d3, d4, d5⟩ := clean_ok (vs := vs) c1 c2 hl4
          have E4 := E3.trans S.sub c3
          exact h3 σ4 H4 μ' F4 d1 d2 ⟨E4.keep, E4.fr, E4.old, fun a ma => E4.new a (d4 a ma)⟩ (take_less hmb (by rw [d3, c4, P3]))
      · subst e
        exact h σ2 H3 μ3 F3 a5 a2 E3 (take_less hmb P3)
  · rw [if_neg hbl] at h; exact h.elim
theorem ss_whileB {b k : Nat} (hmb : m ≤ b) (hp : PassesOwn (model X.prog X.w) X.A X.env X.xe) (hc : PT X c (tX T W rB ft)) (hb : PSs X body (tS T W b g)) : PS X (.While c body [] pos) (tS T W m (sWhB b k ft g vs)) := PS.imp (ps_while hp hc hb) fun D σ H h => whileB_reads hmb h
end
section
variable {X : Cx} {T : Ct} {W : WX} {m : Nat} {L : Addr}
variable {elt tg iter e : Expr} {ifs : List Expr} {scope : Scope} {own : List (Str × Nat)} {t : Tg} {w : FW} {cond : FT} {fe f : FE}
theorem ss_setLcF {i : Nat} {y : Str} {py pos spos : Pos} (lv : Lv X L) (tk : TakesB X L W) (hc : X.calm = true) (hN : X.N.Nodup) (hi : PI X tg iter (tW T W w)) (ok : BlkOk X.N X.env.scope scope own) (sub : ∀ i ∈ t.ixs, i ∈ own.map (·.2))
    (hg : ∀ (s : Shared) (H : Hp) (C : Addr) (cl : List (Str × Addr)) (fp : List Addr) (xe : Value → Shared → Prop), PG (blkX X s H scope (compEnvC scope cl C X.env) fp xe) tg (tG T t))
    (ht : ∀ (s : Shared) (H : Hp) (C : Addr) (cl : List (Str × Addr)) (fp : List Addr) (xe : Value → Shared → Prop) (W' : WX), TakesB (blkX X s H scope (compEnvC scope cl C X.env) fp xe) L W' → PTs (blkX X s H scope (compEnvC scope cl C X.env) fp xe) ifs (tX T W' rB cond))
    (he : ∀ (s : Shared) (H : Hp) (C : Addr) (cl : List (Str × Addr)) (fp : List Addr) (xe : Value → Shared → Prop) (W' : WX), TakesB (blkX X s H scope (compEnvC scope cl C X.env) fp xe) L W' → PE (blkX X s H scope (compEnvC scope cl C X.env) fp xe) elt (tX T W' (rD T.K) fe))
    (hy : X.N[i]? = some y := by rfl) (hyl : X.env.scope.names.lookup y = some .local := by rfl) (hsw : swapsWith (.ListComp elt [⟨tg, iter, ifs, 0⟩] scope pos) (some (.Name y py)) spos.line X.env = pure true := by rfl)
    (hs : ∀ x, foldedSetIterable iter X.env x = pure x := by intro _; rfl) : PS X (.Assign [.Name y py] (.ListComp elt [⟨tg, iter, ifs, 0⟩] scope pos) spos) (tS T W m (sAsg i (eFrz (eComp fe t w cond (own.map (·.2)))))) :=
  PS.imp (ps_setLcX (tt := fun W' => tX T W' rB cond) (te := fun W' => tX T W' (rD T.K) fe) lv tk hc hN hy hyl hsw hi ok hg ht he hs) fun D σ H h => lc_reads sub (frz_reads (asg_reads h))
end
theorem def_okB {P : Program} {w : World} {T : Ct} {mg : Str → Option Value} {base : Heap} {x qual : Str} {st : Stmt} {f : Addr} {fd : FuncData} {N ps : List Str} {k n np : Nat} {g : Nat → FS} (Fn : Fun T.K x qual st f fd) (S : FnScope N ps (defScope st))
    (hbody : ∀ (cdv : Value) (A : Around) (outer : List Env) (s : Shared) (H : Hp) (E : XK) (m : Nat) (X : Cx), X = cxOf (L2.CX P w) P w T.K mg base N qual (defScope st) f cdv A outer s H E → Room k X.A → TakesB X X.env.locals (fun cls d _ H' => E cls d H') → Lv X X.env.locals → PassesOwn (model X.prog X.w) X.A X.env X.xe →
      PSs (cxOf (L2.CX P w) P w T.K mg base N qual (defScope st) f cdv A outer s H E) (defBody st) (tS T (fun cls d _ H' => E cls d H') m (g m))) (hn : N.length = n := by rfl) (hp : ps.length = np := by rfl) : FnOk P w T.K mg base (L2.CX P w) (k + 1) f fd ps (spF T np (fDefB n g)) := by
  subst hn hp
  refine Fn.okX S (fun vs H Q E h => h.1) (fun cdv A outer s H vs Q E hr h => ?_)
  obtain ⟨hl, ds, sto, μ, F, R, Sr, h⟩ := h
  refine ⟨_, hbody cdv A outer s H E sto.length _ rfl hr (takesB_def (takes_of rfl rfl rfl rfl)) ⟨⟨_, _, rfl, rfl⟩, rfl⟩ (passes_of rfl), _, sto, μ, F, Nat.le_refl _, start_rl R, Sr, ?_⟩
  have pre : ∀ {μ' : List Addr}, μ'.take sto.length = μ.take sto.length → μ <+: μ' := fun {μ'} e => by
    rw [← Sr.len, List.take_length] at e
    exact taken e
  unfold fDefB fDef at h
  cases eg : g sto.length (ds.map some ++ List.replicate (N.length - ds.length) none) sto with
  | next ρ s1 => rw [eg] at h; exact fun σ' H' μ' F' h1 h2 h3 h4 => h .non H' μ' F' .non h2 h3 (pre h4)
  | ret d s1 => rw [eg] at h; exact fun v H' μ' F' h1 h2 h3 h4 => h v H' μ' F' h1 h2 h3 (pre h4)
  | exc x ρ s1 => rw [eg] at h; exact fun c d σ' H' μ' F' h0 h1 h2 h3 h4 => h c d H' μ' F' h0 h2 h3 (pre h4)
  | brk ρ s1 => rw [eg] at h; exact h.elim
  | cont ρ s1 => rw [eg] at h; exact h.elim
  | bad => rw [eg] at h; exact h.elim
end Pd
end

section -- PdTop
set_option Elab.async false
set_option linter.all false
set_option maxRecDepth 100000
set_option maxHeartbeats 8000000
/-! PdTop: tuples and dicts of the module. -/
namespace Pd
open PySem PySem.Spec PyProof.Rows L2
/-- flat values -/
inductive KV : Value → P → Prop
  | str {s : List Nat} {t : Tok} : okS s = true → KV (.str (sS s) t) (.str s)
  | int {i : Int} {t : Tok} : KV (.int i t) (.int i)
inductive KVs : List Value → List P → Prop
  | nil : KVs [] []
  | cons {v : Value} {x : P} {vs : List Value} {xs : List P} : KV v x → KVs vs xs → KVs (v :: vs) (x :: xs)
theorem KV.fz {K : PySem.W.Frag} {u : Value} {x : P} (h : KV u x) : ∃ v, RelV v u ∧ ∀ H F, Fz K H F v x := by
  cases h with
  | @str s t h => exact ⟨.str (sS s), ⟨t, rfl⟩, fun _ _ => .str h⟩
  | @int i t => exact ⟨.int i, ⟨t, rfl⟩, fun _ _ => .int i⟩
theorem KVs.fz {K : PySem.W.Frag} : ∀ {us : List Value} {xs : List P}, KVs us xs → ∃ vs, Vals vs us ∧ ∀ H F, FzL K H F vs xs
  | _, _, .nil => ⟨[], .nil, fun _ _ => .nil⟩
  | _, _, .cons h t => by
    obtain ⟨v, h1, h2⟩ := h.fz (K := K)
    obtain ⟨vs, t1, t2⟩ := t.fz (K := K)
    exact ⟨v :: vs, .cons h1 t1, fun H F => .cons (h2 H F) (t2 H F)⟩
/-- a tuple of the module -/
structure TopT (K : PySem.W.Frag) (A : Addr) (xs : List P) : Prop where
  at_ : ∃ (o : Obj) (its : Array Value) (n : Nat), K.lookup A = some o ∧ o.cls = .type "tuple" ∧ o.data = .seq its n ∧ its.size ≤ sizeLine ∧ KVs its.toList xs
theorem topT_mk {K : PySem.W.Frag} {A : Addr} {od : Option Addr} {its : Array Value} {n : Nat} {sl : Array (Option Value)} {xs : List P} (h : K.lookup A = some ⟨.type "tuple", od, .seq its n, sl⟩) (hs : its.size ≤ 1000) (k : KVs its.toList xs) : TopT K A xs :=
  ⟨_, its, n, h, rfl, rfl, by rw [sizeLine_eq]; omega, k⟩
theorem TopT.fz {K : PySem.W.Frag} {A : Addr} {xs : List P} (h : TopT K A xs) (H : Hp) (F : Addr → Prop) : Fz K H F (.ref A) (.tup xs) := by
  obtain ⟨o, its, n, h1, h2, h3, h4, h5⟩ := h.at_
  obtain ⟨vs, v1, v2⟩ := h5.fz (K := K)
  exact .tup (.inr (.inr ⟨o, its, n, h1, h2, h3, h4, v1⟩)) (v2 H F)
/-- the entries of a dict of the module: text keys -/
inductive KEs : List DictEntry → List (List Nat × P) → Prop
  | nil : KEs [] []
  | cons {hs : Int} {k : List Nat} {t : Tok} {u : Value} {x : P} {es : List DictEntry} {tb : List (List Nat × P)} : KV u x → KEs es tb → KEs (⟨hs, .str (sS k) t, u⟩ :: es) ((k, x) :: tb)
structure TopD (K : PySem.W.Frag) (w : World) (A : Addr) (tb : List (List Nat × P)) : Prop where
  at_ : ∃ (es : Array DictEntry) (n : Nat), KDict K w A es n ∧ KEs es.toList tb
theorem topD_mk {K : PySem.W.Frag} {w : World} {A : Addr} {es : Array DictEntry} {n : Nat} {tb : List (List Nat × P)} (h : K.lookup A = some ⟨.type "dict", none, .dict es n, #[]⟩) (hk : PySem.W.KeysLit w.params es.toList) (hl : (A == sysModules) = false) (k : KEs es.toList tb) : TopD K w A tb :=
  ⟨es, n, ⟨h, hk, hl⟩, k⟩
theorem isStr_sS (k z : List Nat) (t : Tok) : (Value.str (sS k) t).isStr (sS z) = (k == z) := by
  show ((sS k : Str) == sS z) = _
  by_cases h : k = z
  · subst h; simp
  · have : ¬ (sS k = sS z) := fun e => h (by
      have := congrArg (fun s : Str => s.cps.toList) e
      simpa using this)
    rw [beq_eq_false_iff_ne.mpr this, beq_eq_false_iff_ne.mpr h]
theorem KEs.find {K : PySem.W.Frag} (z : List Nat) : ∀ {es : List DictEntry} {tb : List (List Nat × P)}, KEs es tb → (match es.find? (·.key.isStr (sS z)) with
    | some e => ∃ x, tget tb z = some x ∧ KV e.val x
    | none => tget tb z = none ∧ es.any (·.refKey) = false)
  | _, _, .nil => ⟨rfl, rfl⟩
  | _, _, .cons (hs := hs) (k := k) (t := t) (u := u) (x := x) (es := es) (tb := tb) h r => by
    have ih := r.find (K := K) z
    rw [List.find?_cons]
    simp only [isStr_sS]
    unfold tget at *
    rw [List.find?_cons]
    cases hk : k == z with
    | true => exact ⟨x, rfl, h⟩
    | false =>
      simp only
      cases e : es.find? (·.key.isStr (sS z)) with
      | some e' => rw [e] at ih; exact ih
      | none =>
        rw [e] at ih
        refine ⟨ih.1, ?_⟩
        rw [List.any_cons, ih.2]
        rfl
theorem KEs.nsIn {K : PySem.W.Frag} {w : World} {A : Addr} {es : Array DictEntry} {n : Nat} {tb : List (List Nat × P)} (D : KDict K w A es n) (k : KEs es.toList tb) (z : List Nat) :
    (∃ x u, tget tb z = some x ∧ KV u x ∧ PySem.W.nsIn K A (sS z) = some (some u)) ∨ (tget tb z = none ∧ PySem.W.nsIn K A (sS z) = some none) := by
  have f := k.find (K := K) z
  unfold PySem.W.nsIn
  rw [D.at_]
  simp only
  cases e : es.toList.find? (·.key.isStr (sS z)) with
  | some e' =>
    rw [e] at f
    obtain ⟨x, f1, f2⟩ := f
    exact .inl ⟨x, e'.val, f1, f2, rfl⟩
  | none =>
    rw [e] at f
    refine .inr ⟨f.1, ?_⟩
    simp only [f.2]
    rfl
section
variable {X : Cx} {T : Ct} {W : WX} {pos p : Pos} {x : Str} {A : Addr} {tb : List (List Nat × P)} {a : Expr} {fa : FE}
theorem se_globT {xs : List P} (D : TopT T.K A xs) (hm : X.mg x = some (.ref A)) (hg : Gl X x := by rfl) (hd : (x == ("__debug__" : Str)) = false := by decide) : PE X (.Name x pos) (tX T W (rD T.K) (eLit (.tup xs))) :=
  se_glob (v := .ref A) (.tup xs) hm rfl (fun H F => D.fz H F) hg hd
theorem getK_reads {g : P → Option NV} {R : V → Hp → VK → Prop} (hR : ∀ σ st μ F v H Q z, RSt T.K H μ F st → v = .str (sS z) → Post T W (rD T.K) σ H μ F Q (putO (g (.str z)) st) → R v H Q) (hg : ∀ x, (∀ z, x ≠ .str z) → g x = none) {σ : L2.St} {H : Hp} {Q : VK} (h : tX T W (rD T.K) (e1 g fa) σ H Q) : tX T W (rD T.K) fa σ H fun v H1 => R v H1 Q := by
  obtain ⟨ρ, st, μ, F, L, S, h⟩ := h
  have h := nrm_post S h
  refine ⟨ρ, st, μ, F, L, S, Post.bind S.sub h fun v1 H1 μ1 F1 d1 s1 _ a1 a2 a3 a4 h => ?_⟩
  cases e1 : asP d1 s1 with
  | none => rw [e1] at h; exact h.elim
  | some x =>
    rw [e1] at h
    have n := now_of a2 a1 e1
    by_cases c : ∃ z, x = .str z
    · obtain ⟨z, rfl⟩ := c
      exact hR σ s1 μ1 F1 v1 H1 Q z a2 (nw_str n).1 h
    · have := hg x fun z e => c ⟨z, e⟩
      simp only [this] at h
      exact h.elim
theorem inK_r (D : TopD X.K X.w A tb) {σ : L2.St} {st : Sto} {μ : List Addr} {F : Addr → Prop} {v : V} {H : Hp} {Q : VK} {z : List Nat} (S : RSt T.K H μ F st) (e : v = .str (sS z)) (h : Post T W (rD T.K) σ H μ F Q (putO (oInK tb (.str z)) st)) :
    ∃ (es : Array DictEntry) (n : Nat), KDict X.K X.w A es n ∧ ∃ (z : Str) (r : Option Value), v = .str z ∧ V.ref A = .ref A ∧ PySem.W.nsIn X.K A z = some r ∧ Q (.bl r.isSome) H := by
  obtain ⟨es, n, kd, ke⟩ := D.at_
  refine ⟨es, n, kd, sS z, ?_⟩
  rcases ke.nsIn kd z with ⟨x, u, e1, _, e3⟩ | ⟨e1, e3⟩
  · refine ⟨some u, e, rfl, e3, ?_⟩
    simp only [oInK, e1] at h
    exact put_p S h (.bl _)
  · refine ⟨none, e, rfl, e3, ?_⟩
    simp only [oInK, e1] at h
    exact put_p S h (.bl _)
theorem notInK_r (D : TopD X.K X.w A tb) {σ : L2.St} {st : Sto} {μ : List Addr} {F : Addr → Prop} {v : V} {H : Hp} {Q : VK} {z : List Nat} (S : RSt T.K H μ F st) (e : v = .str (sS z)) (h : Post T W (rD T.K) σ H μ F Q (putO (oNotInK tb (.str z)) st)) :
    ∃ (es : Array DictEntry) (n : Nat), KDict X.K X.w A es n ∧ ∃ (z : Str) (r : Option Value), v = .str z ∧ V.ref A = .ref A ∧ PySem.W.nsIn X.K A z = some r ∧ Q (.bl (!r.isSome)) H := by
  obtain ⟨es, n, kd, ke⟩ := D.at_
  refine ⟨es, n, kd, sS z, ?_⟩
  rcases ke.nsIn kd z with ⟨x, u, e1, _, e3⟩ | ⟨e1, e3⟩
  · refine ⟨some u, e, rfl, e3, ?_⟩
    simp only [oNotInK, e1] at h
    exact put_p S h (.bl _)
  · refine ⟨none, e, rfl, e3, ?_⟩
    simp only [oNotInK, e1] at h
    exact put_p S h (.bl _)
theorem opIn_any : OpR X (compareOp .In) (fun v y H Q => ∃ A es n, y = .ref A ∧ KDict X.K X.w A es n ∧ ∃ (z : Str) (r : Option Value), v = .str z ∧ V.ref A = .ref A ∧ PySem.W.nsIn X.K A z = some r ∧ Q (.bl r.isSome) H) := by
  intro pins s σ H x y v u Q I rx ry h
  obtain ⟨A, es, n, rfl, kd, h⟩ := h
  exact op_in_kd kd pins s σ H x (.ref A) v u Q I rx ry h
theorem opNotIn_any : OpR X (compareOp .NotIn) (fun v y H Q => ∃ A es n, y = .ref A ∧ KDict X.K X.w A es n ∧ ∃ (z : Str) (r : Option Value), v = .str z ∧ V.ref A = .ref A ∧ PySem.W.nsIn X.K A z = some r ∧ Q (.bl (!r.isSome)) H) := by
  intro pins s σ H x y v u Q I rx ry h
  obtain ⟨A, es, n, rfl, kd, h⟩ := h
  exact op_notIn_kd kd pins s σ H x (.ref A) v u Q I rx ry h
theorem inK_none {tb : List (List Nat × P)} (x : P) (h : ∀ z, x ≠ .str z) : oInK tb x = none := by
  cases x <;> first | rfl | exact absurd rfl (h _)
theorem notInK_none {tb : List (List Nat × P)} (x : P) (h : ∀ z, x ≠ .str z) : oNotInK tb x = none := by
  cases x <;> first | rfl | exact absurd rfl (h _)
theorem getK_none {tb : List (List Nat × P)} (x : P) (h : ∀ z, x ≠ .str z) : oGetK tb x = none := by
  cases x <;> first | rfl | exact absurd rfl (h _)
theorem se_inK (D : TopD X.K X.w A tb) (hm : X.mg x = some (.ref A)) (ha : PE X a (tX T W (rD T.K) fa)) (hg : Gl X x := by rfl) (hd : (x == ("__debug__" : Str)) = false := by decide) (hb : behindInMarks .In (.Name x p) = false := by first | exact nomark _ | rfl) :
    PE X (.Compare a [.In] [.Name x p] pos) (tX T W (rD T.K) (e1 (oInK tb) fa)) :=
  PE.imp (pe_cmpR opIn_any ha (pe_glob (v := .ref A) hg hm rfl hd) hb) fun σ H Q h => getK_reads (R := fun v H1 Q => tC (.ref A) σ H1 fun y H2 => ∃ A es n, y = .ref A ∧ KDict X.K X.w A es n ∧ ∃ (z : Str) (r : Option Value), v = .str z ∧ V.ref A = .ref A ∧ PySem.W.nsIn X.K A z = some r ∧ Q (.bl r.isSome) H2)
    (fun σ st μ F v H Q z S e h => by obtain ⟨es, n, kd, h⟩ := inK_r D S e h; exact ⟨A, es, n, rfl, kd, h⟩) inK_none h
theorem se_notInK (D : TopD X.K X.w A tb) (hm : X.mg x = some (.ref A)) (ha : PE X a (tX T W (rD T.K) fa)) (hg : Gl X x := by rfl) (hd : (x == ("__debug__" : Str)) = false := by decide) (hb : behindInMarks .NotIn (.Name x p) = false := by first | exact nomark _ | rfl) :
    PE X (.Compare a [.NotIn] [.Name x p] pos) (tX T W (rD T.K) (e1 (oNotInK tb) fa)) :=
  PE.imp (pe_cmpR opNotIn_any ha (pe_glob (v := .ref A) hg hm rfl hd) hb) fun σ H Q h => getK_reads (R := fun v H1 Q => tC (.ref A) σ H1 fun y H2 => ∃ A es n, y = .ref A ∧ KDict X.K X.w A es n ∧ ∃ (z : Str) (r : Option Value), v = .str z ∧ V.ref A = .ref A ∧ PySem.W.nsIn X.K A z = some r ∧ Q (.bl (!r.isSome)) H2)
    (fun σ st μ F v H Q z S e h => by obtain ⟨es, n, kd, h⟩ := notInK_r D S e h; exact ⟨A, es, n, rfl, kd, h⟩) notInK_none h
theorem st_inK (D : TopD X.K X.w A tb) (hm : X.mg x = some (.ref A)) (ha : PE X a (tX T W (rD T.K) fa)) (hg : Gl X x := by rfl) (hd : (x == ("__debug__" : Str)) = false := by decide) (hb : behindInMarks .In (.Name x p) = false := by first | exact nomark _ | rfl) :
    PT X (.Compare a [.In] [.Name x p] pos) (tX T W rB (tOf (e1 (oInK tb) fa))) :=
  PT.imp (pt_cmpR opIn_any ha (pe_glob (v := .ref A) hg hm rfl hd) hb) fun σ H Q h => getK_reads (R := fun v H1 Q => tC (.ref A) σ H1 fun y H2 => ∃ A es n, y = .ref A ∧ KDict X.K X.w A es n ∧ ∃ (z : Str) (r : Option Value), v = .str z ∧ V.ref A = .ref A ∧ PySem.W.nsIn X.K A z = some r ∧ Q (.bl r.isSome) H2)
    (fun σ st μ F v H Q z S e h => by obtain ⟨es, n, kd, h⟩ := inK_r D S e h; exact ⟨A, es, n, rfl, kd, h⟩) inK_none (tOf_reads h)
theorem st_notInK (D : TopD X.K X.w A tb) (hm : X.mg x = some (.ref A)) (ha : PE X a (tX T W (rD T.K) fa)) (hg : Gl X x := by rfl) (hd : (x == ("__debug__" : Str)) = false := by decide) (hb : behindInMarks .NotIn (.Name x p) = false := by first | exact nomark _ | rfl) :
    PT X (.Compare a [.NotIn] [.Name x p] pos) (tX T W rB (tOf (e1 (oNotInK tb) fa))) :=
  PT.imp (pt_cmpR opNotIn_any ha (pe_glob (v := .ref A) hg hm rfl hd) hb) fun σ H Q h => getK_reads (R := fun v H1 Q => tC (.ref A) σ H1 fun y H2 => ∃ A es n, y = .ref A ∧ KDict X.K X.w A es n ∧ ∃ (z : Str) (r : Option Value), v = .str z ∧ V.ref A = .ref A ∧ PySem.W.nsIn X.K A z = some r ∧ Q (.bl (!r.isSome)) H2)
    (fun σ st μ F v H Q z S e h => by obtain ⟨es, n, kd, h⟩ := notInK_r D S e h; exact ⟨A, es, n, rfl, kd, h⟩) notInK_none (tOf_reads h)
/-- d[e] -/
theorem se_getK (D : TopD X.K X.w A tb) (hm : X.mg x = some (.ref A)) (ha : PE X a (tX T W (rD T.K) fa)) (hs : PlainIx a := by exact fun _ _ => rfl) (hg : Gl X x := by rfl) (hd : (x == ("__debug__" : Str)) = false := by decide) :
    PE X (.Subscript (.Name x p) a pos) (tX T W (rD T.K) (e1 (oGetK tb) fa)) :=
  PE.imp (pe_ix ix_kdict (pe_glob (v := .ref A) hg hm rfl hd) ha hs) fun σ H Q h => by
    refine (getK_reads (R := fun v H1 Q => rIxD X.K X.w (.ref A) v H1 Q) (fun σ st μ F v H Q z S e h => ?_) getK_none h : tX T W (rD T.K) fa σ H fun y H2 => rIxD X.K X.w (.ref A) y H2 Q)
    obtain ⟨es, n, kd, ke⟩ := D.at_
    rcases ke.nsIn kd z with ⟨y, u, e1, e2, e3⟩ | ⟨e1, e3⟩
    · simp only [oGetK, e1, Option.map_some] at h
      obtain ⟨v0, r1, r2⟩ := e2.fz (K := T.K)
      exact ⟨A, sS z, v0, rfl, e, ⟨es, n, u, kd.at_, kd.lit, e3, r1⟩, put_p S h (r2 _ _)⟩
    · simp only [oGetK, e1, Option.map_none] at h
      exact h.elim
end
end Pd
end

section -- PdZip
set_option Elab.async false
set_option linter.all false
set_option maxRecDepth 100000
set_option maxHeartbeats 8000000
/-! PdZip: zip of a text and a sequence. -/
namespace Pd
open PySem PySem.Spec PyProof.Rows L2
/-- the cells of a zip lie apart, and apart from a -/
structure ZSep (z TI TO i1 i2 a : Addr) : Prop where
  zTI : TI ≠ z
  zTO : TO ≠ z
  TT : TI ≠ TO
  T1 : TI ≠ i1
  T2 : TI ≠ i2
  z1 : z ≠ i1
  z2 : z ≠ i2
  O1 : TO ≠ i1
  O2 : TO ≠ i2
  i12 : i1 ≠ i2
  az : z ≠ a
  aO : TO ≠ a
  a1 : i1 ≠ a
  a2 : a ≠ i2
theorem ZSep.two {z TI TO i1 i2 a : Addr} (D : ZSep z TI TO i1 i2 a) : ZipSep2 z TI TO i1 i2 [i1] [i2, a] := ⟨D.zTI, D.zTO, D.TT, D.T1, by simp, by simpa using D.z1, by simpa using D.O1, D.T2, by simp, by simp [D.z2, D.az], by simp [D.O2, D.aO], by simp [D.i12, D.a1], by simpa using D.i12.symm⟩
/-- a text's signs and what sq tells, in new pairs -/
def ItZS (x : Str) (sq : Hp → List V → Prop) : It :=
  ⟨fun i H => i < x.cps.size ∧ ∃ (ys : List V) (y : V), sq H ys ∧ ys[i]? = some y,
    fun i H v H' => ∃ (T : Addr) (c : Nat) (y : V), v = .ref T ∧ H T = none ∧ H' = upd H T (.tup [.str ⟨#[c]⟩, y]) ∧ x.cps[i]? = some c ∧ ∀ ys, sq H ys → ys[i]? = some y,
    fun i H => i ≤ x.cps.size ∧ ∃ ys : List V, sq H ys ∧ i ≤ ys.length ∧ (i = x.cps.size ∨ i = ys.length)⟩
theorem strIter_at {h h' : Heap} {i n : Nat} {ty : String} {x : Str} {t : Tok} (e : h.IsStrIter i ty x t n) (k : ∀ o, h.get? i = some o → h'.get? i = some o) : h'.IsStrIter i ty x t n := by
  obtain ⟨o, h1, h2⟩ := e
  exact ⟨o, k o h1, h2⟩

theorem turn_zipSL {P : Program} {w : World} {K : PySem.W.Frag} {elts : List Expr} {kk : Nat} {tpos : Pos} {x : Str} {t : Tok} {a z TI TO i1 i2 : Addr} (D : ZSep z TI TO i1 i2 a) :
    Turn P w K (.Tuple elts kk tpos) (ItZS x (fun H ys => SqL K H a ys)) [z, TI, TO, i1, i2] z (fun i h => IsZip h z TI TO .none ∧ IsTupOf2 h TI (.ref i1) (.ref i2) ∧ (∃ x y, IsTupOf2 h TO x y) ∧ h.IsStrIter i1 (strIterType x) x t i ∧ h.IsListIter i2 a i) where
  mem := by simp
  obj := fun i h st c hc => by
    obtain ⟨hz, hTI, ⟨x, y, hTO⟩, ⟨o1, e1, _, d1⟩, ⟨o2, e2, _, d2⟩⟩ := st
    have e' : c = z ∨ c = TI ∨ c = TO ∨ c = i1 ∨ c = i2 := by simpa using hc
    rcases e' with q | q | q | q | q
    · rw [q]; exact ⟨_, hz, fun v q => nomatch q⟩
    · rw [q]; exact ⟨_, hTI, fun v q => nomatch q⟩
    · rw [q]; exact ⟨_, hTO, fun v q => nomatch q⟩
    · rw [q]; exact ⟨o1, e1, fun v q => by rw [d1] at q; cases q⟩
    · rw [q]; exact ⟨o2, e2, fun v q => by rw [d2] at q; cases q⟩
  keep := fun i h h' st k => by
    obtain ⟨hz, hTI, ⟨x, y, hTO⟩, h1, h2⟩ := st
    exact ⟨k z (by simp) _ hz, k TI (by simp) _ hTI, ⟨x, y, k TO (by simp) _ hTO⟩, strIter_at h1 fun o q => k i1 (by simp) o q, h2.at fun o q => k i2 (by simp) o q⟩
  item := by
    intro X hP hw hK hc i pins s σ H E I hf st hg
    subst hP hw hK
    obtain ⟨hz, hTI, ⟨x0, y0, hTO⟩, h1, h2⟩ := st
    obtain ⟨hix, ys, y, hqy, hy⟩ := hg
    obtain ⟨its, rv, p, _⟩ := I.list hqy
    obtain ⟨u2, hu2, ru2⟩ := rv.get hy
    have hiy : i < its.toArray.size := by
      have := (List.getElem?_eq_some_iff.mp hu2).1
      simpa using this
    have hzl : z < s.heap.objs.size := Heap.lt_size hz
    have hh : X.A.in1.handled = none := I.ok.hd hc
    refine wpAny_pyNext_zipD2_item D.two (Draws.text hh i1 x t) (Draws.list hh i2 a D.a2 its.toArray) hz hTI hTO h1 ⟨h2, p.isList⟩ hix hiy fun v1 v2 h' tk p1 p2 z' TO' h1' h2' hT hsz hk => ?_
    obtain ⟨c, u, hcx, rfl⟩ := p1
    have p2 : its.toArray[i]? = some v2 := p2
    have ev2 : u2 = v2 := by
      rw [List.getElem?_toArray, hu2] at p2
      exact Option.some.inj p2
    subst ev2
    refine ⟨_, rfl, wpAny_letOwnedTupleGo_zip (s := { s with heap := h', toks := tk }) z' fun h'' z'' sb => ?_⟩
    have hT2 : h''.get? s.heap.objs.size = some { cls := .type "tuple", data := .seq #[.str ⟨#[c]⟩ u, u2] } := (sb.2 _ (Nat.ne_of_gt hzl)).trans hT
    have new : ObjOk X.prog X.w (upd H s.heap.objs.size (.tup [.str ⟨#[c]⟩, y])) h'' s.heap.objs.size (.tup [.str ⟨#[c]⟩, y]) :=
      ⟨by show 2 ≤ sizeLine; decide, [.str ⟨#[c]⟩ u, u2], .cons ⟨u, rfl⟩ (.cons ru2 .nil), ⟨_, hT2, rfl, _, rfl⟩⟩
    have I1 : Inv X pins σ (upd H s.heap.objs.size (.tup [.str ⟨#[c]⟩, y])) { s with heap := h'', toks := tk } :=
      I.turnedNew (t' := tk) (ch := [z, TI, TO, i1, i2]) (fun c o hb q => (sb.2 c (fun q' => hb (by simp [q']))).trans (hk c o (fun q' => hb (by simp [q'])) (fun q' => hb (by simp [q'])) (fun q' => hb (by simp [q'])) (fun q' => hb (by simp [q'])) q)) hf (Nat.le_refl _) new
    refine ⟨.ref s.heap.objs.size, _, I1, rfl, ⟨_, c, y, rfl, I.hok.fresh (Nat.le_refl _), rfl, hcx, fun l hl => by rw [I.list_inj hl hqy]; exact hy⟩, ⟨z'', ?_, ⟨.str ⟨#[c]⟩ u, u2, ?_⟩, ?_, ?_⟩, fun c hcm => ?_⟩
    · exact (sb.2 _ D.zTI).trans (hk _ _ D.zTI D.TT D.T1 D.T2 hTI)
    · exact (sb.2 _ D.zTO).trans TO'
    · exact strIter_at h1' fun o q => (sb.2 _ D.z1.symm).trans q
    · exact h2'.1.at fun o q => (sb.2 _ D.z2.symm).trans q
    · have hlt : c < s.heap.objs.size := by
        have e' : c = z ∨ c = TI ∨ c = TO ∨ c = i1 ∨ c = i2 := by simpa using hcm
        rcases e' with q | q | q | q | q
        · rw [q]; exact hzl
        · rw [q]; exact Heap.lt_size hTI
        · rw [q]; exact Heap.lt_size hTO
        · rw [q]; obtain ⟨_, e1, _⟩ := h1; exact Heap.lt_size e1
        · rw [q]; obtain ⟨_, e2, _⟩ := h2; exact Heap.lt_size e2
      rw [upd_ne (Nat.ne_of_lt hlt)]
      exact (hf c hcm).1
  done := by
    intro X hP hw hK hc i pins s σ H E I hf st hg
    subst hP hw hK
    obtain ⟨hz, hTI, ⟨x0, y0, hTO⟩, h1, h2⟩ := st
    obtain ⟨hix, ys, hqy, hiy, hend⟩ := hg
    obtain ⟨its, rv, p, _⟩ := I.list hqy
    have l2 := rv.length
    have hh : X.A.in1.handled = none := I.ok.hd hc
    exact wpAny_pyNext_zipD2_end D.two (Draws.text hh i1 x t) (Draws.list hh i2 a D.a2 its.toArray) hz hTI hTO h1 ⟨h2, p.isList⟩ hix (by simp; omega) (by rcases hend with q | q; exact .inl q; exact .inr (by simp; omega)) fun h' tk hk => ⟨rfl, I.turnedL (t' := tk) (ch := [z, TI, TO, i1, i2]) (fun c o hb q =>
      hk c o (fun q' => hb (by simp [q'])) (fun q' => hb (by simp [q'])) (fun q' => hb (by simp [q'])) (fun q' => hb (by simp [q'])) q) hf⟩
  self := fun A i s Q E st h => wpAny_pyIter_zip st.1 h

theorem turn_zipST {P : Program} {w : World} {K : PySem.W.Frag} {elts : List Expr} {kk : Nat} {tpos : Pos} {x : Str} {t : Tok} {a z TI TO i1 i2 : Addr} (D : ZSep z TI TO i1 i2 a) :
    Turn P w K (.Tuple elts kk tpos) (ItZS x (fun H ys => SqT K H a ys)) [z, TI, TO, i1, i2] z (fun i h => IsZip h z TI TO .none ∧ IsTupOf2 h TI (.ref i1) (.ref i2) ∧ (∃ x y, IsTupOf2 h TO x y) ∧ h.IsStrIter i1 (strIterType x) x t i ∧ h.IsTupleIter i2 a i) where
  mem := by simp
  obj := fun i h st c hc => by
    obtain ⟨hz, hTI, ⟨x, y, hTO⟩, ⟨o1, e1, _, d1⟩, ⟨o2, e2, _, d2⟩⟩ := st
    have e' : c = z ∨ c = TI ∨ c = TO ∨ c = i1 ∨ c = i2 := by simpa using hc
    rcases e' with q | q | q | q | q
    · rw [q]; exact ⟨_, hz, fun v q => nomatch q⟩
    · rw [q]; exact ⟨_, hTI, fun v q => nomatch q⟩
    · rw [q]; exact ⟨_, hTO, fun v q => nomatch q⟩
    · rw [q]; exact ⟨o1, e1, fun v q => by rw [d1] at q; cases q⟩
    · rw [q]; exact ⟨o2, e2, fun v q => by rw [d2] at q; cases q⟩
  keep := fun i h h' st k => by
    obtain ⟨hz, hTI, ⟨x, y, hTO⟩, h1, h2⟩ := st
    exact ⟨k z (by simp) _ hz, k TI (by simp) _ hTI, ⟨x, y, k TO (by simp) _ hTO⟩, strIter_at h1 fun o q => k i1 (by simp) o q, h2.at fun o q => k i2 (by simp) o q⟩
  item := by
    intro X hP hw hK hc i pins s σ H E I hf st hg
    subst hP hw hK
    obtain ⟨hz, hTI, ⟨x0, y0, hTO⟩, h1, h2⟩ := st
    obtain ⟨hix, ys, y, hqy, hy⟩ := hg
    obtain ⟨its, rv, p, _⟩ := I.tuple hqy
    obtain ⟨u2, hu2, ru2⟩ := rv.get hy
    have hiy : i < its.toArray.size := by
      have := (List.getElem?_eq_some_iff.mp hu2).1
      simpa using this
    have hzl : z < s.heap.objs.size := Heap.lt_size hz
    have hh : X.A.in1.handled = none := I.ok.hd hc
    refine wpAny_pyNext_zipD2_item D.two (Draws.text hh i1 x t) (Draws.tuple hh i2 a D.a2 its.toArray) hz hTI hTO h1 ⟨h2, p⟩ hix hiy fun v1 v2 h' tk p1 p2 z' TO' h1' h2' hT hsz hk => ?_
    obtain ⟨c, u, hcx, rfl⟩ := p1
    have p2 : its.toArray[i]? = some v2 := p2
    have ev2 : u2 = v2 := by
      rw [List.getElem?_toArray, hu2] at p2
      exact Option.some.inj p2
    subst ev2
    refine ⟨_, rfl, wpAny_letOwnedTupleGo_zip (s := { s with heap := h', toks := tk }) z' fun h'' z'' sb => ?_⟩
    have hT2 : h''.get? s.heap.objs.size = some { cls := .type "tuple", data := .seq #[.str ⟨#[c]⟩ u, u2] } := (sb.2 _ (Nat.ne_of_gt hzl)).trans hT
    have new : ObjOk X.prog X.w (upd H s.heap.objs.size (.tup [.str ⟨#[c]⟩, y])) h'' s.heap.objs.size (.tup [.str ⟨#[c]⟩, y]) :=
      ⟨by show 2 ≤ sizeLine; decide, [.str ⟨#[c]⟩ u, u2], .cons ⟨u, rfl⟩ (.cons ru2 .nil), ⟨_, hT2, rfl, _, rfl⟩⟩
    have I1 : Inv X pins σ (upd H s.heap.objs.size (.tup [.str ⟨#[c]⟩, y])) { s with heap := h'', toks := tk } :=
      I.turnedNew (t' := tk) (ch := [z, TI, TO, i1, i2]) (fun c o hb q => (sb.2 c (fun q' => hb (by simp [q']))).trans (hk c o (fun q' => hb (by simp [q'])) (fun q' => hb (by simp [q'])) (fun q' => hb (by simp [q'])) (fun q' => hb (by simp [q'])) q)) hf (Nat.le_refl _) new
    refine ⟨.ref s.heap.objs.size, _, I1, rfl, ⟨_, c, y, rfl, I.hok.fresh (Nat.le_refl _), rfl, hcx, fun l hl => by rw [I.tuple_inj hl hqy]; exact hy⟩, ⟨z'', ?_, ⟨.str ⟨#[c]⟩ u, u2, ?_⟩, ?_, ?_⟩, fun c hcm => ?_⟩
    · exact (sb.2 _ D.zTI).trans (hk _ _ D.zTI D.TT D.T1 D.T2 hTI)
    · exact (sb.2 _ D.zTO).trans TO'
    · exact strIter_at h1' fun o q => (sb.2 _ D.z1.symm).trans q
    · exact h2'.1.at fun o q => (sb.2 _ D.z2.symm).trans q
    · have hlt : c < s.heap.objs.size := by
        have e' : c = z ∨ c = TI ∨ c = TO ∨ c = i1 ∨ c = i2 := by simpa using hcm
        rcases e' with q | q | q | q | q
        · rw [q]; exact hzl
        · rw [q]; exact Heap.lt_size hTI
        · rw [q]; exact Heap.lt_size hTO
        · rw [q]; obtain ⟨_, e1, _⟩ := h1; exact Heap.lt_size e1
        · rw [q]; obtain ⟨_, e2, _⟩ := h2; exact Heap.lt_size e2
      rw [upd_ne (Nat.ne_of_lt hlt)]
      exact (hf c hcm).1
  done := by
    intro X hP hw hK hc i pins s σ H E I hf st hg
    subst hP hw hK
    obtain ⟨hz, hTI, ⟨x0, y0, hTO⟩, h1, h2⟩ := st
    obtain ⟨hix, ys, hqy, hiy, hend⟩ := hg
    obtain ⟨its, rv, p, _⟩ := I.tuple hqy
    have l2 := rv.length
    have hh : X.A.in1.handled = none := I.ok.hd hc
    exact wpAny_pyNext_zipD2_end D.two (Draws.text hh i1 x t) (Draws.tuple hh i2 a D.a2 its.toArray) hz hTI hTO h1 ⟨h2, p⟩ hix (by simp; omega) (by rcases hend with q | q; exact .inl q; exact .inr (by simp; omega)) fun h' tk hk => ⟨rfl, I.turnedL (t' := tk) (ch := [z, TI, TO, i1, i2]) (fun c o hb q =>
      hk c o (fun q' => hb (by simp [q'])) (fun q' => hb (by simp [q'])) (fun q' => hb (by simp [q'])) (fun q' => hb (by simp [q'])) q) hf⟩
  self := fun A i s Q E st h => wpAny_pyIter_zip st.1 h

theorem zsep_new {n a : Addr} (h : a < n) : ZSep (n + 4) (n + 2) (n + 3) n (n + 1) a := by
  have h : @LT.lt Nat _ a n := h
  constructor <;> (intro e; have e2 : @Eq Nat _ _ := e; omega)
theorem pair_get {s : List Nat} {ys : List P} {i : Nat} {p : P} (h : (pairS s ys)[i]? = some p) : ∃ c y, s[i]? = some c ∧ ys[i]? = some y ∧ p = .tup [.str [c], y] := by
  unfold pairS at h
  rw [List.getElem?_map] at h
  cases e : (s.zip ys)[i]? with
  | none => rw [e] at h; cases h
  | some q =>
    rw [e] at h
    cases h
    obtain ⟨c, y⟩ := q
    rw [List.getElem?_zip_eq_some] at e
    exact ⟨c, y, e.1, e.2, rfl⟩
theorem pair_len (s : List Nat) (ys : List P) : (pairS s ys).length = min s.length ys.length := by
  unfold pairS
  rw [List.length_map, List.length_zip]
section
variable {X : Cx} {T : Ct} {W : WX}

theorem yields_zipL (hK : X.K = T.K) {s : List Nat} (o : okS s = true) {a : Addr} {ys : List P} : Yields T (ItZS (sS s) (fun H ys => SqL X.K H a ys)) (.ref a) (.p (.lst ys)) (pairS s ys) := by
  intro H μ F st S r stl
  have key : ∃ vs, SqL X.K H a vs ∧ FzL T.K H F vs ys := by
    cases r with | lst h n t => exact ⟨_, .of h, t⟩
  obtain ⟨vs, hq, l⟩ := key
  have ll := l.length
  refine ⟨⟨?_, vs, hq, ?_, ?_⟩, fun i p hp => ?_⟩
  · rw [pair_len]; exact Nat.min_le_left _ _
  · rw [pair_len, ll]; exact Nat.min_le_right _ _
  · rw [pair_len, ll]
    show min s.length ys.length = s.length ∨ _
    omega
  · obtain ⟨c, y, hc, hy, rfl⟩ := pair_get hp
    obtain ⟨v, hv, fv⟩ := l.get hy
    have hi := (List.getElem?_eq_some_iff.mp hc).1
    refine ⟨⟨hi, vs, v, hq, hv⟩, fun u H' yl => ?_⟩
    obtain ⟨Tn, c', y', rfl, hT, rfl, hc', hy'⟩ := yl
    have hc' : s[i]? = some c' := by simpa using hc'
    rw [hc] at hc'; cases hc'
    have := hy' vs hq
    rw [hv] at this
    cases this
    obtain ⟨S2, E2⟩ := S.alloc hT (.tup [.str ⟨#[c]⟩, v])
    have oc : okS [c] = true := by
      unfold okS at *
      simpa using List.all_eq_true.mp o c (List.mem_of_getElem? hc)
    exact ⟨F, S2, E2, .tup (.inl ⟨.inl upd_same, (fresh_no S hT).2⟩) (.cons (.str (s := [c]) oc) (.cons (fv.mono E2 S.sub) .nil))⟩

theorem yields_zipT (hK : X.K = T.K) {s : List Nat} (o : okS s = true) {a : Addr} {ys : List P} : Yields T (ItZS (sS s) (fun H ys => SqT X.K H a ys)) (.ref a) (.p (.tup ys)) (pairS s ys) := by
  intro H μ F st S r stl
  have key : ∃ vs, SqT X.K H a vs ∧ FzL T.K H F vs ys := by
    cases r with | tup h t => exact ⟨_, by rw [hK]; exact h.sq, t⟩
  obtain ⟨vs, hq, l⟩ := key
  have ll := l.length
  refine ⟨⟨?_, vs, hq, ?_, ?_⟩, fun i p hp => ?_⟩
  · rw [pair_len]; exact Nat.min_le_left _ _
  · rw [pair_len, ll]; exact Nat.min_le_right _ _
  · rw [pair_len, ll]
    show min s.length ys.length = s.length ∨ _
    omega
  · obtain ⟨c, y, hc, hy, rfl⟩ := pair_get hp
    obtain ⟨v, hv, fv⟩ := l.get hy
    have hi := (List.getElem?_eq_some_iff.mp hc).1
    refine ⟨⟨hi, vs, v, hq, hv⟩, fun u H' yl => ?_⟩
    obtain ⟨Tn, c', y', rfl, hT, rfl, hc', hy'⟩ := yl
    have hc' : s[i]? = some c' := by simpa using hc'
    rw [hc] at hc'; cases hc'
    have := hy' vs hq
    rw [hv] at this
    cases this
    obtain ⟨S2, E2⟩ := S.alloc hT (.tup [.str ⟨#[c]⟩, v])
    have oc : okS [c] = true := by
      unfold okS at *
      simpa using List.all_eq_true.mp o c (List.mem_of_getElem? hc)
    exact ⟨F, S2, E2, .tup (.inl ⟨.inl upd_same, (fresh_no S hT).2⟩) (.cons (.str (s := [c]) oc) (.cons (fv.mono E2 S.sub) .nil))⟩

theorem sp_zipS {e e2 : Expr} {f f' : FE} {p pos tpos : Pos} {elts : List Expr} {kk : Nat} (hK : X.K = T.K) (hm : X.mg "zip" = none) (ha : PA X [e, e2] (tX T W (rDs T.K) (fAll [f, f']))) (hg : Gl X "zip" := by rfl)
    (hs : starEach [e, e2] X.env = (false, eval e X.env) :: starEach [e2] X.env := by rfl) (hpl : (backTo pos (starEach [e2] X.env)).any (·.1) = false := by rfl) :
    PI X (.Tuple elts kk tpos) (.Call (.Name "zip" p) [e, e2] [] pos) (tW T W (wZipS [f, f'])) := by
  refine ⟨fun pins s σ H R I h => ?_⟩
  obtain ⟨ρ, st, μ, F, L, S, h⟩ := h
  have h2 : tX T W (rDs T.K) (fAll [f, f']) σ H (fun vs H1 => ∃ (z : List Nat) (a : Addr), vs = [.str (sS z), .ref a] ∧ ((∃ ys, SqL X.K H1 a ys ∧ R (ItZS (sS z) (fun H ys => SqL X.K H a ys)) H1) ∨ (∃ ys, SqT X.K H1 a ys ∧ R (ItZS (sS z) (fun H ys => SqT X.K H a ys)) H1))) := by
    refine ⟨ρ, st, μ, F, L, S, Post.bind0 (R1 := rDs T.K) S.sub (Ext.refl _ _ _) (List.prefix_refl _) (fun _ _ _ w => w) h fun vs H1 μ1 F1 ds s1 ef a1 a2 a3 a4 h => ?_⟩
    match ds, h, a1 with
    | [.p (.str z), d2], h, .cons r1 (.cons (v := v2) r2 .nil) =>
      have r1 := nw_str (.inl r1)
      obtain ⟨rfl, oz⟩ := r1
      have stp : Post T W (rD T.K) σ H μ F (fun v H1 => ∃ a, v = .ref a ∧ ((∃ ys, SqL X.K H1 a ys ∧ R (ItZS (sS z) (fun H ys => SqL X.K H a ys)) H1) ∨ (∃ ys, SqT X.K H1 a ys ∧ R (ItZS (sS z) (fun H ys => SqT X.K H a ys)) H1))) (.ok d2 s1) := by
        refine nrm_post S (fro_post S (Post.bind (R1 := rD T.K) S.sub h fun v H2 μ2 F2 d s2 _ b1 b2 b3 b4 h => ?_))
        match d, h, b1 with
        | .p (.lst ys), h, b1 =>
          have go : ∀ J, Yields T J v (.p (.lst ys)) (pairS z ys) → R J H2 := h (v, (pairS z ys, .p (.lst ys))) H2 μ2 F2 ⟨rfl, b1⟩ b2 (Ext.refl _ _ _) (List.prefix_refl _)
          cases b1 with
          | @lst a vs _ q n t => exact ⟨a, rfl, .inl ⟨vs, .of q, go _ (yields_zipL hK oz)⟩⟩
        | .p (.tup ys), h, b1 =>
          have go : ∀ J, Yields T J v (.p (.tup ys)) (pairS z ys) → R J H2 := h (v, (pairS z ys, .p (.tup ys))) H2 μ2 F2 ⟨rfl, b1⟩ b2 (Ext.refl _ _ _) (List.prefix_refl _)
          cases b1 with
          | @tup a vs _ q t => exact ⟨a, rfl, .inr ⟨vs, by rw [hK]; exact q.sq, go _ (yields_zipT hK oz)⟩⟩
        | .p .non, h, _ => exact h.elim
        | .p (.bl _), h, _ => exact h.elim
        | .p (.int _), h, _ => exact h.elim
        | .p (.str _), h, _ => exact h.elim
        | .p (.ro _), h, _ => exact h.elim
        | .r _, h, _ => exact h.elim
      obtain ⟨a, rfl, q⟩ := stp v2 H1 μ1 F1 r2 a2 a3 a4
      exact ⟨z, a, rfl, q⟩
    | [], h, _ => exact h.elim
    | [.r _], h, _ => exact h.elim
    | [.p y], h, _ => cases y <;> exact h.elim
    | .r _ :: _ :: _, h, _ => exact h.elim
    | .p .non :: _ :: _, h, _ => exact h.elim
    | .p (.bl _) :: _ :: _, h, _ => exact h.elim
    | .p (.int _) :: _ :: _, h, _ => exact h.elim
    | .p (.tup _) :: _ :: _, h, _ => exact h.elim
    | .p (.lst _) :: _ :: _, h, _ => exact h.elim
    | .p (.ro _) :: _ :: _, h, _ => exact h.elim
    | .p (.str _) :: _ :: _ :: _, h, _ => exact h.elim
  refine Call_ (ld_blt I hg hm PyProof.Rows.boot_zip (PyProof.Rows.callWith_type1 (thn (ha.run pos pins s σ H _ I h2) fun us s1 ⟨vs, H1, I1, r1, q1⟩ => ?_) hs hpl))
  obtain ⟨z, a, ex, q1⟩ := q1
  subst ex
  cases r1 with
  | cons r rr =>
    cases rr with
    | cons r' rr =>
      cases rr
      obtain ⟨t, rfl⟩ := r
      cases r'
      have fresh5 : ∀ c, c ∈ [s1.heap.objs.size + 4, s1.heap.objs.size + 2, s1.heap.objs.size + 3, s1.heap.objs.size, s1.heap.objs.size + 1] → FpOk X pins H1 c := fun c hcm => by
        have e' : c = s1.heap.objs.size + 4 ∨ c = s1.heap.objs.size + 2 ∨ c = s1.heap.objs.size + 3 ∨ c = s1.heap.objs.size ∨ c = s1.heap.objs.size + 1 := by simpa using hcm
        have hle : s1.heap.objs.size ≤ c := by
          rcases e' with z | z | z | z | z
          · rw [z]; exact Nat.le_add_right _ _
          · rw [z]; exact Nat.le_add_right _ _
          · rw [z]; exact Nat.le_add_right _ _
          · rw [z]; exact Nat.le_refl _
          · rw [z]; exact Nat.le_add_right _ _
        exact I1.fpOk hle (I1.hok.fresh hle)
      rcases q1 with ⟨ys, hqy, q⟩ | ⟨ys, hqy, q⟩
      · obtain ⟨its, rv, p1, _⟩ := I1.list hqy
        have lt : a < s1.heap.objs.size := by obtain ⟨_, e1, _⟩ := p1.isList; exact Heap.lt_size e1
        refine zip_begins2 (begins_text (sS z) t) (begins_list a its.toArray) trivial p1.isList fun h' hz hTI hTO h1 h2 hsz hk => wpAny_pyIter_zip hz ?_
        have I2 : Inv X pins σ H1 { s1 with heap := h' } := I1.kept (t' := s1.toks) hk
        exact ⟨s1.heap.objs.size + 4, [s1.heap.objs.size + 4, s1.heap.objs.size + 2, s1.heap.objs.size + 3, s1.heap.objs.size, s1.heap.objs.size + 1], _, _, H1, rfl, I2, turn_zipSL (t := t) (zsep_new lt), ⟨hz, hTI, ⟨_, _, hTO⟩, ⟨_, h1, rfl, rfl⟩, ⟨_, h2, rfl, rfl⟩⟩, fresh5, q⟩
      · obtain ⟨its, rv, p1, _⟩ := I1.tuple hqy
        have p1 : s1.heap.IsTuple a its.toArray := p1
        have lt : a < s1.heap.objs.size := by obtain ⟨_, e1, _⟩ := id p1; exact Heap.lt_size e1
        refine zip_begins2 (begins_text (sS z) t) (begins_tuple a its.toArray) trivial p1 fun h' hz hTI hTO h1 h2 hsz hk => wpAny_pyIter_zip hz ?_
        have I2 : Inv X pins σ H1 { s1 with heap := h' } := I1.kept (t' := s1.toks) hk
        exact ⟨s1.heap.objs.size + 4, [s1.heap.objs.size + 4, s1.heap.objs.size + 2, s1.heap.objs.size + 3, s1.heap.objs.size, s1.heap.objs.size + 1], _, _, H1, rfl, I2, turn_zipST (t := t) (zsep_new lt), ⟨hz, hTI, ⟨_, _, hTO⟩, ⟨_, h1, rfl, rfl⟩, ⟨_, h2, rfl, rfl⟩⟩, fresh5, q⟩
end
end Pd
end

section -- PdRepT
set_option Elab.async false
set_option linter.all false
set_option maxRecDepth 100000
set_option maxHeartbeats 8000000
/-! PdRepT: a tuple, a list times an int. -/
namespace Pd
open PySem PySem.Spec PyProof.Rows L2
theorem tuple_mul1 (l : Addr) (items : Array Value) (n : Nat) (dd : Option Addr) (sl : Array (Option Value)) (u : Tok) :
    Meets (Builtin.«tuple.__mul__» ⟨[.ref l, .int 1 u], []⟩) (fun _ R s => s.heap.get? l = some { cls := .type "tuple", dict := dd, data := .seq items n, slots := sl } ∧
      R (.ok (.ret (Value.ref l))) s) :=
  .of_wp fun prog w A R s h => by
    obtain ⟨hp, g, d, tk, os⟩ := s
    obtain ⟨hl, h⟩ := h
    have f1 := AutoSeq1.idx_int
    wp_walk using wpAny_loadPart' hl
    repeat (first
      | (refine wpAny_ite_false (decide_eq_false (by decide)) ?_; wp_walk using wpAny_loadPart' hl)
      | (refine wpAny_ite_true (decide_eq_true (by simp)) ?_; wp_walk using wpAny_loadPart' hl))
    exact ⟨_, rfl, h⟩
theorem tuple_mul0 (l : Addr) (items : Array Value) (n : Nat) (dd : Option Addr) (sl : Array (Option Value)) (x : Int) (u : Tok) (c0 : (decide (x < -(2 ^ 63)) || decide (x ≥ 2 ^ 63)) = false) (c1 : (items.isEmpty || x == 1) = false) (c2 : (decide (x ≤ 0) || items.isEmpty) = true) :
    Meets (Builtin.«tuple.__mul__» ⟨[.ref l, .int x u], []⟩) (fun _ R s => s.heap.get? l = some { cls := .type "tuple", dict := dd, data := .seq items n, slots := sl } ∧
      R (.ok (.ret (Value.ref s.heap.objs.size))) { s with heap := s.heap.push { cls := Value.type "tuple", data := Data.seq #[] }, toks := s.toks }) :=
  .of_wp fun prog w A R s h => by
    obtain ⟨hp, g, d, tk, os⟩ := s
    obtain ⟨hl, h⟩ := h
    have f1 := AutoSeq1.idx_int
    wp_walk using wpAny_loadPart' hl
    repeat (first
      | (refine wpAny_ite_false (decide_eq_false (by rw [c0]; exact Bool.false_ne_true)) ?_; wp_walk using wpAny_loadPart' hl)
      | (refine wpAny_ite_false (decide_eq_false (by rw [c1]; exact Bool.false_ne_true)) ?_; wp_walk using wpAny_loadPart' hl)
      | (refine wpAny_ite_true (decide_eq_true (by rw [c2])) ?_; wp_walk using wpAny_loadPart' hl))
    exact ⟨_, rfl, h⟩
section
variable {X : Cx}
theorem op_repT1 : OpR X (binaryOp .Mult) (fun x y H Q => ∃ l xs, x = .ref l ∧ y = .int 1 ∧ SqT X.K H l xs ∧ Q (.ref l) H) := by
  intro pins s σ H x y v u Q I rx ry h
  obtain ⟨l, xs, rfl, rfl, hT, q⟩ := h
  cases rx
  obtain ⟨t, rfl⟩ := ry
  obtain ⟨its, r, ⟨⟨cls, dd, data, sl⟩, ho, hc, n, hd⟩, hs⟩ := I.tuple hT
  simp only at hc hd
  subst hc hd
  refine wpAny_binaryOp_repeat_ref (T := "tuple") (U := "int") (by decide) ⟨_, ho, rfl⟩ (fun s' => typeIs_int s' 1 t) noFill_tuple_mul F.fills_int_mul F.slot_int_rmul repeat_tuple F.slot_int_index.lookup
    (call_meets F.slot_int_rmul (typeIs_int s 1 t) F.entry_int_rmul (F.args_int_rmul_2 _ _) (int_rmul_tuple 1 t l its.toArray n dd sl)
      ⟨ho, rfl, ⟨_, ho, rfl⟩, call_meets F.slot_tuple_mul ⟨_, ho, rfl⟩ F.entry_tuple_mul (F.args_tuple_mul_2 _ _) (tuple_mul1 l its.toArray n dd sl t) ⟨ho, ?_⟩⟩)
  exact ⟨.ref l, H, I, rfl, q⟩
theorem op_repT0 : OpR X (binaryOp .Mult) (fun x y H Q => ∃ l k xs, x = .ref l ∧ y = .int k ∧ SqT X.K H l xs ∧ xs ≠ [] ∧ -1000000 ≤ k ∧ k ≤ 0 ∧ ∀ p, H p = none → Q (.ref p) (upd H p (.tup []))) := by
  intro pins s σ H x y v u Q I rx ry h
  obtain ⟨l, k, xs, rfl, rfl, hT, hne, h1, h2, q⟩ := h
  cases rx
  obtain ⟨t, rfl⟩ := ry
  obtain ⟨its, r, ⟨⟨cls, dd, data, sl⟩, ho, hc, n, hd⟩, hs⟩ := I.tuple hT
  simp only at hc hd
  subst hc hd
  have hle : its.length = xs.length := r.length.symm
  have hn : its ≠ [] := fun e => hne (by
    rw [e] at hle
    exact List.eq_nil_of_length_eq_zero hle.symm)
  have hi : its.toArray.isEmpty = false := by
    cases its with
    | nil => exact absurd rfl hn
    | cons a b => rfl
  have c0 : (decide (k < -(2 ^ 63)) || decide (k ≥ 2 ^ 63)) = false := by
    rw [decide_eq_false (by omega), decide_eq_false (by omega)] <;> rfl
  have c1 : (its.toArray.isEmpty || k == 1) = false := by
    rw [hi, Bool.false_or]
    exact beq_eq_false_iff_ne.mpr (by omega)
  have c2 : (decide (k ≤ 0) || its.toArray.isEmpty) = true := by
    rw [decide_eq_true h2]
    rfl
  refine wpAny_binaryOp_repeat_ref (T := "tuple") (U := "int") (by decide) ⟨_, ho, rfl⟩ (fun s' => typeIs_int s' k t) noFill_tuple_mul F.fills_int_mul F.slot_int_rmul repeat_tuple F.slot_int_index.lookup
    (call_meets F.slot_int_rmul (typeIs_int s k t) F.entry_int_rmul (F.args_int_rmul_2 _ _) (int_rmul_tuple k t l its.toArray n dd sl)
      ⟨ho, rfl, ⟨_, ho, rfl⟩, call_meets F.slot_tuple_mul ⟨_, ho, rfl⟩ F.entry_tuple_mul (F.args_tuple_mul_2 _ _) (tuple_mul0 l its.toArray n dd sl k t c0 c1 c2) ⟨ho, ?_⟩⟩)
  refine ⟨.ref s.heap.objs.size, _, I.laid (t' := s.toks) (o := .tup []) (fun b ob q => Heap.get?_push_of_some _ q) (Nat.le_refl _) ?_, rfl, q _ (I.hok.fresh (Nat.le_refl _))⟩
  exact ⟨by show 0 ≤ sizeLine; exact Nat.zero_le _, [], .nil, IsTup.new _ _⟩
variable {T : Ct} {W : WX}
theorem FzL.rep {K : PySem.W.Frag} {H : Hp} {F : Addr → Prop} {vs : List V} {xs : List P} (h : FzL K H F vs xs) : ∀ n : Nat, FzL K H F (List.replicate n vs).flatten (List.replicate n xs).flatten
  | 0 => .nil
  | n + 1 => by
    rw [List.replicate_succ, List.replicate_succ, List.flatten_cons, List.flatten_cons]
    exact h.append (FzL.rep h n)
theorem so_mulX (hK : X.K = T.K) : OpR X (binaryOp .Mult) (r2 T W oMulX) := by
  intro pins s σ H x y v u Q I rx ry h
  obtain ⟨σ', st, μ, F, p, q, S, n1, n2, h⟩ := h
  unfold oMulX at h
  split at h
  · rename_i a k
    obtain ⟨⟨c1, c2, c3, c4⟩, h⟩ := put_gd h
    obtain ⟨p1, vs, rfl, t1, l1⟩ := nw_tup n1
    cases nw_int n2
    have ll := l1.length
    have hne : vs ≠ [] := fun e => c1 (by subst e; cases l1; rfl)
    by_cases k1 : k = 1
    · subst k1
      refine op_repT1 pins s σ H _ _ v u Q I rx ry ⟨p1, vs, rfl, rfl, by rw [hK]; exact t1.sq, ?_⟩
      have e : (List.replicate (1 : Int).toNat a).flatten = a := by simp
      rw [e] at h
      exact put_p S h (.tup t1 l1)
    · by_cases k0 : k ≤ 0
      · refine op_repT0 pins s σ H _ _ v u Q I rx ry ⟨p1, k, vs, rfl, rfl, by rw [hK]; exact t1.sq, hne, by omega, k0, fun p hp => ?_⟩
        have e : k.toNat = 0 := by omega
        rw [e] at h
        exact put_tup S h (.nil) hp
      · exact op_repT pins s σ H _ _ v u Q I rx ry ⟨p1, k, vs, rfl, rfl, by rw [hK]; exact t1.sq, hne, by omega, by omega, by omega, fun p hp => put_tup S h (FzL.rep l1 _) hp⟩
  · rename_i a k
    obtain ⟨⟨c1, c2, c3⟩, h⟩ := put_gd h
    obtain ⟨p1, vs, rfl, t1, l1⟩ := nw_lst n1
    cases nw_int n2
    have ll := l1.length
    exact op_rep pins s σ H _ _ v u Q I rx ry ⟨p1, k, vs, rfl, rfl, t1, by omega, by omega, by rw [ll, line_eq]; exact c1, fun p hp => put_l S h (FzL.rep l1 _) hp⟩
  · exact h.elim
/-! ### {..}[e] of a display with text keys -/
def vP : P → V
  | .str s => .str (sS s)
  | .int i => .int i
  | _ => .non
def flatP : P → Bool
  | .str s => okS s
  | .int _ => true
  | _ => false
theorem vP_fz {K : PySem.W.Frag} {H : Hp} {F : Addr → Prop} {x : P} (h : flatP x = true) : Fz K H F (vP x) x := by
  cases x with
  | str s => exact .str h
  | int i => exact .int i
  | _ => cases h
theorem tPairs_const (σ : L2.St) (H : Hp) (l : List (V × V)) (Q : List (V × V) → Hp → Prop) : tPairs (l.map fun q => (tC q.1, tC q.2)) σ H Q = Q l H := by
  induction l generalizing Q with
  | nil => rfl
  | cons q r ih => exact ih _
theorem val_tget (z : List Nat) : ∀ tb : List (List Nat × P), valV (tb.map fun q => ((.inr (sS q.1) : Key), vP q.2)) (.inr (sS z)) = (tget tb z).map vP
  | [] => rfl
  | q :: r => by
    have ih := val_tget z r
    unfold tget at *
    rw [List.map_cons, List.find?_cons]
    by_cases h : q.1 = z
    · rw [valV_pos (by rw [h])]
      simp [h]
    · have hb : (q.1 == z) = false := beq_eq_false_iff_ne.mpr h
      rw [hb]
      have hne : ¬ ((Sum.inr (sS q.1) : Key) = .inr (sS z)) := fun e => h (by
        have e := Sum.inr.inj e
        have := congrArg (fun s : Str => s.cps.toList) e
        simpa using this)
      have : valV (((Sum.inr (sS q.1) : Key), vP q.2) :: r.map fun q => ((.inr (sS q.1) : Key), vP q.2)) (.inr (sS z)) = valV (r.map fun q => ((.inr (sS q.1) : Key), vP q.2)) (.inr (sS z)) := by
        unfold valV
        rw [List.find?_cons]
        simp [hne]
      rw [this]
      exact ih
theorem se_dlit {pos dp : Pos} {keys : List (Option Expr)} {values : List Expr} {tb : List (List Nat × P)} {e : Expr} {fe : FE} (hu : X.A.units + 1 < cLine) (pp : PPs X dp keys values ((tb.map fun q => ((.str (sS q.1) : V), vP q.2)).map fun q => (tC q.1, tC q.2))) (he : PE X e (tX T W (rD T.K) fe))
    (hf : tb.all (fun q => flatP q.2) = true) (hm : mergeK [] (tb.map fun q => ((.inr (sS q.1) : Key), vP q.2)) = tb.map fun q => ((.inr (sS q.1) : Key), vP q.2)) (h15 : tb.length ≤ 15)
    (hall : keys.all (·.isSome) = true := by rfl) (hl : keys.length = values.length := by rfl) (h0 : keys ≠ [] := by exact List.cons_ne_nil _ _) (hk : keys.length ≤ 15 := by decide) (hs : NoSl e := by exact fun _ _ => rfl) :
    PE X (.Subscript (.Dict keys values dp) e pos) (tX T W (rD T.K) (e1 (oGetK tb) fe)) := PE.imp (pe_dget hu (pe_disp pp hall hl h0 hk) he hs) fun σ H Q h => by
  intro p hp
  rw [tPairs_const]
  refine ⟨upd_same, tb.map fun q => ((.inr (sS q.1) : Key), vP q.2), by simp [kV], by simpa using h15, ?_⟩
  rw [upd_upd, hm]
  obtain ⟨ρ, st, μ, F, L, S, h⟩ := h
  have h := nrm_post S h
  obtain ⟨S1, E1⟩ := S.alloc hp (.dK (tb.map fun q => ((.inr (sS q.1) : Key), vP q.2)))
  have np : p ∉ μ := (fresh_no S hp).1
  refine ⟨ρ, st, μ, F, L.mono E1 S.sub (List.prefix_refl _), S1, Post.bind S1.sub (h.ext S.sub E1 (List.prefix_refl _)) fun v1 H1 μ1 F1 d1 s1 _ a1 a2 a3 a4 h => ?_⟩
  have hd : H1 p = some (.dK (tb.map fun q => ((.inr (sS q.1) : Key), vP q.2))) := a3.keep p _ upd_same np
  cases e1 : asP d1 s1 with
  | none => rw [e1] at h; exact h.elim
  | some x =>
    rw [e1] at h
    have n := now_of a2 a1 e1
    cases x with
    | str z =>
      obtain ⟨rfl, _⟩ := nw_str n
      simp only [oGetK] at h
      cases e2 : tget tb z with
      | none => rw [e2] at h; exact h.elim
      | some y =>
        rw [e2] at h
        have fy : flatP y = true := by
          unfold tget at e2
          cases e3 : tb.find? (·.1 == z) with
          | none => rw [e3] at e2; cases e2
          | some q =>
            rw [e3] at e2
            cases e2
            exact List.all_eq_true.mp hf q (List.mem_of_find?_eq_some e3)
        have g := DGet.k (k := .inr (sS z)) hd
        rw [val_tget, e2] at g
        exact ⟨p, vP y, rfl, g, put_p a2 h (vP_fz fy)⟩
    | _ => exact h.elim
end
end Pd
end

section -- PdPure
set_option linter.all false
set_option autoImplicit false
set_option maxRecDepth 100000
/-! PdPure: what the plain semantics computes: calls of data, comprehensions, loops; texts and numbers. -/
namespace Pd
/-- a def's outcome on data -/
def pv (r : Res D) : Res P := match r with
  | .ok (.p v) _ => .ok v []
  | .exc x _ => .exc x []
  | _ => .bad
@[simp] theorem nrm_p (n : Nat) (x : P) (st : Sto) : nrm n (.ok (.p x) st) = .ok (.p x) (st.take n) := rfl
@[simp] theorem nrm_exc (n : Nat) (x : Exn) (st : Sto) : nrm n (.exc x st) = .exc x (st.take n) := rfl
@[simp] theorem nrm_bad (n : Nat) : nrm n .bad = .bad := rfl
theorem nrm_new (st : Sto) (o : O) : nrm st.length (.ok (.r st.length) (st ++ [o])) = .ok (.r st.length) (st ++ [o]) := by
  unfold nrm norm
  simp
@[simp] theorem frz_p (n : Nat) (x : P) (st : Sto) : frz n (.ok (.p x) st) = .ok x (st.take n) := rfl
@[simp] theorem frz_exc (n : Nat) (x : Exn) (st : Sto) : frz n (.exc x st) = .exc x (st.take n) := rfl
@[simp] theorem frz_bad (n : Nat) : frz n .bad = .bad := rfl
theorem frz_new (st : Sto) (xs : List P) : frz st.length (.ok (.r st.length) (st ++ [.lst xs])) = .ok (.lst xs) st := by
  unfold frz
  simp
@[simp] theorem fro_p (n : Nat) (x : P) (st : Sto) : fro n (.ok (.p x) st) = .ok (.p x) (st.take n) := rfl
@[simp] theorem fro_exc (n : Nat) (x : Exn) (st : Sto) : fro n (.exc x st) = .exc x (st.take n) := rfl
theorem fro_new (st : Sto) (xs : List P) : fro st.length (.ok (.r st.length) (st ++ [.lst xs])) = .ok (.p (.lst xs)) st := by
  unfold fro
  simp
theorem asP_new (st : Sto) (xs : List P) : asP (.r st.length) (st ++ [.lst xs]) = some (.lst xs) := by
  unfold asP
  simp
/-! ### expressions of data: f is x at ρ, whatever the store -/
/-- f is the datum x, and leaves the store -/
def Is (f : FE) (ρ : Loc) (st : Sto) (x : P) : Prop := f ρ st = .ok (.p x) st
/-- f is a new list of xs -/
def IsL (f : FE) (ρ : Loc) (st : Sto) (xs : List P) : Prop := f ρ st = .ok (.r st.length) (st ++ [.lst xs])
/-- as data -/
def IsF (f : FE) (ρ : Loc) (st : Sto) (x : P) : Prop := Is f ρ st x ∨ ∃ xs, x = .lst xs ∧ IsL f ρ st xs
theorem is_lit {x : P} {ρ : Loc} {st : Sto} : Is (eLit x) ρ st x := rfl
theorem is_var {i : Nat} {ρ : Loc} {st : Sto} {x : P} (h : ρ[i]? = some (some (.p x))) : Is (eVar i) ρ st x := by
  unfold Is eVar; rw [h]
/-- what is there of f's value behind it -/
theorem isF_at {f : FE} {ρ : Loc} {st : Sto} {x : P} (h : IsF f ρ st x) : ∃ d t, f ρ st = .ok d (st ++ t) ∧ asP d (st ++ t) = some x ∧ (∀ u, asP d (st ++ t ++ u) = some x) := by
  rcases h with h | ⟨xs, rfl, h⟩
  · exact ⟨_, [], by rw [List.append_nil]; exact h, rfl, fun _ => rfl⟩
  · refine ⟨_, [.lst xs], h, asP_new st xs, fun u => ?_⟩
    unfold asP
    simp
theorem is_e2 {g : P → P → Option NV} {fa fb : FE} {ρ : Loc} {st : Sto} {x y z : P} (ha : Is fa ρ st x) (hb : Is fb ρ st y) (hg : g x y = some (.p z)) : Is (e2 g fa fb) ρ st z := by
  unfold Is at *
  simp [e2, ha, hb, asP, hg, putO, NV.put]
theorem isL_e2 {g : P → P → Option NV} {fa fb : FE} {ρ : Loc} {st : Sto} {x y : P} {zs : List P} (ha : Is fa ρ st x) (hb : Is fb ρ st y) (hg : g x y = some (.l zs)) : IsL (e2 g fa fb) ρ st zs := by
  unfold Is IsL at *
  simp [e2, ha, hb, asP, hg, putO, NV.put, nrm_new]
/-- the first value a new list -/
theorem is_e2l {g : P → P → Option NV} {fa fb : FE} {ρ : Loc} {st : Sto} {xs : List P} {y z : P} (ha : IsL fa ρ st xs) (hb : Is fb ρ (st ++ [.lst xs]) y) (hg : g (.lst xs) y = some (.p z)) : Is (e2 g fa fb) ρ st z := by
  unfold Is IsL at *
  simp [e2, ha, hb, asP_new, asP, hg, putO, NV.put]
theorem is_e1 {g : P → Option NV} {fa : FE} {ρ : Loc} {st : Sto} {x z : P} (ha : Is fa ρ st x) (hg : g x = some (.p z)) : Is (e1 g fa) ρ st z := by
  unfold Is at *
  simp [e1, ha, asP, hg, putO, NV.put]
/-- a builtin of one datum -/
theorem is_bi1 {g : List P → Option NV} {f : FE} {ρ : Loc} {st : Sto} {x z : P} (h : IsF f ρ st x) (hg : g [x] = some (.p z)) : Is (eBi g [f]) ρ st z := by
  obtain ⟨d, t, h1, h2, _⟩ := isF_at h
  unfold Is
  simp [eBi, fAll, h1, asPs, h2, hg, putO, NV.put]
theorem isL_bi1 {g : List P → Option NV} {f : FE} {ρ : Loc} {st : Sto} {x : P} {zs : List P} (h : Is f ρ st x) (hg : g [x] = some (.l zs)) : IsL (eBi g [f]) ρ st zs := by
  unfold Is at h
  unfold IsL
  simp [eBi, fAll, h, asPs, asP, hg, putO, NV.put, nrm_new]
theorem is_bi2 {g : List P → Option NV} {f f' : FE} {ρ : Loc} {st : Sto} {x y z : P} (h : Is f ρ st x) (h' : Is f' ρ st y) (hg : g [x, y] = some (.p z)) : Is (eBi g [f, f']) ρ st z := by
  unfold Is at *
  simp [eBi, fAll, h, h', asPs, asP, hg, putO, NV.put]
theorem is_m1 {g : List Nat → P → Option NV} {f f' : FE} {ρ : Loc} {st : Sto} {a : List Nat} {y z : P} (h : Is f ρ st (.str a)) (h' : IsF f' ρ st y) (hg : g a y = some (.p z)) : Is (eM1 g f f') ρ st z := by
  obtain ⟨d, t, h1, h2, _⟩ := isF_at h'
  unfold Is at *
  simp [eM1, h, h1, h2, hg, putO, NV.put]
theorem isL_m1 {g : List Nat → P → Option NV} {f f' : FE} {ρ : Loc} {st : Sto} {a : List Nat} {y : P} {zs : List P} (h : Is f ρ st (.str a)) (h' : Is f' ρ st y) (hg : g a y = some (.l zs)) : IsL (eM1 g f f') ρ st zs := by
  unfold Is IsL at *
  simp [eM1, h, h', asP, hg, putO, NV.put, nrm_new]
/-- an index into a list that stands in the store -/
theorem is_ixr {fa fb : FE} {ρ : Loc} {st : Sto} {i : Nat} {xs : List P} {k : Int} {z : P} (ha : fa ρ st = .ok (.r i) st) (hi : st[i]? = some (.lst xs)) (hb : Is fb ρ st (.int k)) (hg : atI xs k = some z) : Is (e2 oIdx fa fb) ρ st z := by
  unfold Is at *
  simp [e2, ha, hb, asP, hi, oIdx, hg, putO, NV.put]
theorem is_lenr {fa : FE} {ρ : Loc} {st : Sto} {i : Nat} {xs : List P} (ha : fa ρ st = .ok (.r i) st) (hi : st[i]? = some (.lst xs)) : Is (eBi bLen [fa]) ρ st (.int xs.length) := by
  unfold Is
  simp [eBi, fAll, ha, asPs, asP, hi, bLen, putO, NV.put]
theorem is_if {c : FT} {f g : FE} {ρ : Loc} {st : Sto} {x : P} {b : Bool} (hc : c ρ st = .ok b st) (h1 : b = true → Is f ρ st x) (h2 : b = false → Is g ρ st x) : Is (eIf c f g) ρ st x := by
  unfold Is at *
  unfold eIf
  rw [hc]
  cases b
  · simpa using h2 rfl
  · simpa using h1 rfl
theorem is_sl {fa : FE} {fl fh : Option FE} {ρ : Loc} {st : Sto} {x z : P} {l h : Option Int} (ha : Is fa ρ st x) (hl : fPart fl ρ st = .ok l st) (hh : fPart fh ρ st = .ok h st) (hg : oSl x l h = some (.p z)) : Is (eSl fa fl fh) ρ st z := by
  unfold Is at *
  simp [eSl, ha, hl, hh, asP, hg, putO, NV.put]
theorem part_so {f : FE} {ρ : Loc} {st : Sto} {k : Int} (h : Is f ρ st (.int k)) : fPart (some f) ρ st = .ok (some k) st := by
  unfold Is at h
  simp [fPart, h]
/-- displays of data -/
inductive Its (ρ : Loc) (st : Sto) : List (Bool × FE) → List P → Prop
  | nil : Its ρ st [] []
  | cons {f : FE} {fs : List (Bool × FE)} {x : P} {xs : List P} : Is f ρ st x → Its ρ st fs xs → Its ρ st ((false, f) :: fs) (x :: xs)
theorem its_eq {ρ : Loc} {st : Sto} {fs : List (Bool × FE)} {xs : List P} (h : Its ρ st fs xs) : fItems fs ρ st = .ok xs st := by
  induction h with
  | nil => rfl
  | cons h _ ih =>
    unfold Is at h
    simp [fItems, fPure, h, ih]
theorem is_tup {ρ : Loc} {st : Sto} {fs : List (Bool × FE)} {xs : List P} (h : Its ρ st fs xs) (hl : xs.length ≤ line) : Is (eTup fs) ρ st (.tup xs) := by
  unfold Is eTup
  rw [its_eq h]
  simp [putO, gd_pos hl, NV.put]
theorem isL_lst {ρ : Loc} {st : Sto} {fs : List (Bool × FE)} {xs : List P} (h : Its ρ st fs xs) (hl : xs.length ≤ line) : IsL (eLst fs) ρ st xs := by
  unfold IsL eLst
  rw [its_eq h]
  simp [putO, gd_pos hl, NV.put]
/-! ### calls -/
/-- arguments that are data -/
inductive Ars (ρ : Loc) (st : Sto) : List FE → List P → Prop
  | nil : Ars ρ st [] []
  | cons {f : FE} {fs : List FE} {x : P} {xs : List P} : Is f ρ st x → Ars ρ st fs xs → Ars ρ st (f :: fs) (x :: xs)
theorem ars_eq {ρ : Loc} {st : Sto} {fs : List FE} {xs : List P} (h : Ars ρ st fs xs) : fAll fs ρ st = .ok (xs.map .p) st := by
  induction h with
  | nil => rfl
  | cons h _ ih =>
    unfold Is at h
    simp [fAll, h, ih]
theorem refs_p : ∀ xs : List P, refs (xs.map D.p) = []
  | [] => rfl
  | _ :: r => refs_p r
theorem ren_p (xs : List P) : (xs.map D.p).map (ren []) = xs.map D.p := by
  rw [List.map_map]
  rfl
theorem iso_p (G : FF) (xs : List P) (st : Sto) : iso G (xs.map .p) st = match G (xs.map .p) [] with
    | .ok (.p x) s => .ok (.p x) st
    | .ok (.r j) s => (match s[j]? with
      | some o => .ok (.r st.length) (st ++ [o])
      | none => .bad)
    | .exc x s => .exc x st
    | .bad => .bad := by
  have hb : ∀ s : Sto, back [] s st = st := fun s => by cases s <;> rfl
  unfold iso
  simp only [refs_p, ren_p, List.map_nil, List.all_nil, if_true, List.length_nil, Nat.not_lt_zero, if_false, hb]
  all_goals
    cases G (xs.map .p) [] with
    | ok d s =>
      cases d with
      | p x => simp [hb]
      | r i =>
        simp only [hb, List.length_nil, Nat.not_lt_zero, if_false]
        cases s[i]? <;> rfl
    | exc x s => simp [hb]
    | bad => rfl
theorem is_call {G : FF} {fs : List FE} {ρ : Loc} {st : Sto} {xs : List P} {v : P} (ha : Ars ρ st fs xs) (h : pv (G (xs.map .p) []) = .ok v []) : Is (eCall G fs) ρ st v := by
  unfold Is eCall
  rw [ars_eq ha, Res.bind_ok, iso_p]
  cases e : G (xs.map .p) [] with
  | ok d s =>
    rw [e] at h
    cases d with
    | p x => cases h; simp
    | r j => cases h
  | exc x s => rw [e] at h; cases h
  | bad => rw [e] at h; cases h
theorem exc_call {G : FF} {fs : List FE} {ρ : Loc} {st : Sto} {xs : List P} {x : Exn} (ha : Ars ρ st fs xs) (h : pv (G (xs.map .p) []) = .exc x []) : eCall G fs ρ st = .exc x st := by
  unfold eCall
  rw [ars_eq ha, Res.bind_ok, iso_p]
  cases e : G (xs.map .p) [] with
  | ok d s => rw [e] at h; cases d <;> cases h
  | exc y s => rw [e] at h; cases h; simp
  | bad => rw [e] at h; cases h
/-! ### comprehensions over data -/
def tr (ex : Exn) (g : P → Option P) : List P → Option (List P)
  | [] => some []
  | x :: r => (g x).bind fun y => (tr ex g r).map (y :: ·)
def toR {α : Type} (ex : Exn) (st : Sto) : Option α → Res α
  | some a => .ok a st
  | none => .exc ex st
theorem still_p (all : List P) (x : P) (st : Sto) : still all (.p x) st = true := rfl
theorem compL_tr {elt : FE} {i : Nat} {ρ : Loc} {all : List P} {x0 : P} {st : Sto} {ex : Exn} {g : P → Option P} : ∀ {xs : List P}, (∀ x ∈ xs, fPure elt (ρ.set i (some (.p x))) st = toR ex st (g x)) → compL elt (.one i) tTrue ρ all (.p x0) xs st = toR ex st (tr ex g xs)
  | [], _ => rfl
  | x :: r, h => by
    have ih := compL_tr (all := all) (x0 := x0) (fun y hy => h y (List.mem_cons_of_mem _ hy))
    have h1 := h x List.mem_cons_self
    unfold compL
    simp only [still_p, if_true, Tg.put, tTrue, Res.bind_ok, h1]
    cases e : g x with
    | none => simp [toR, tr, e]
    | some y =>
      simp only [toR, Res.bind_ok, tr, e, Option.bind_some]
      rw [ih]
      cases tr ex g r <;> rfl
theorem tr_some {ex : Exn} {f : P → P} : ∀ xs : List P, tr ex (fun x => some (f x)) xs = some (xs.map f)
  | [] => rfl
  | x :: r => by simp [tr, tr_some r]
/-- [elt for i in w]: each element a datum, or all from the first that raises ex -/
theorem comp_tr {elt : FE} {i : Nat} {w : FW} {own : List Nat} {ρ : Loc} {st : Sto} {xs : List P} {x0 : P} {ex : Exn} {g : P → Option P} (hw : w ρ st = .ok (xs, .p x0) st) (hl : xs.length ≤ line)
    (h : ∀ x ∈ xs, fPure elt ((wipe ρ own).set i (some (.p x))) st = toR ex st (g x)) : eComp elt (.one i) w tTrue own ρ st = match tr ex g xs with
    | some ys => .ok (.r st.length) (st ++ [.lst ys])
    | none => .exc ex st := by
  unfold eComp
  rw [hw]
  simp only [Res.bind_ok, if_pos hl, compL_tr h]
  cases tr ex g xs with
  | none => simp [toR]
  | some ys => simp only [toR, Res.bind_ok, putO, NV.put, nrm_new]
theorem isL_comp {elt : FE} {i : Nat} {w : FW} {own : List Nat} {ρ : Loc} {st : Sto} {xs : List P} {x0 : P} {f : P → P} (hw : w ρ st = .ok (xs, .p x0) st) (hl : xs.length ≤ line)
    (h : ∀ x ∈ xs, Is elt ((wipe ρ own).set i (some (.p x))) st (f x)) : IsL (eComp elt (.one i) w tTrue own) ρ st (xs.map f) := by
  unfold IsL
  rw [comp_tr (ex := ⟨0, none⟩) (g := fun x => some (f x)) hw hl fun x hx => ?_, tr_some]
  have := h x hx
  unfold Is at this
  simp [fPure, this, toR]
theorem walk_is {f : FE} {ρ : Loc} {st : Sto} {x : P} {xs : List P} (h : Is f ρ st x) (hs : seqOf x = some xs) : wSeq f ρ st = .ok (xs, .p x) st := by
  unfold Is at h
  simp [wSeq, h, asP, hs]
theorem walk_isL {f : FE} {ρ : Loc} {st : Sto} {xs : List P} (h : IsL f ρ st xs) : wSeq f ρ st = .ok (xs, .p (.lst xs)) st := by
  unfold IsL at h
  simp [wSeq, h, nrm_new, fro_new, asP, seqOf]
theorem walk_r1 {f : FE} {ρ : Loc} {st : Sto} {j : Int} (h : Is f ρ st (.int j)) (h1 : -big ≤ j) (h2 : j < big) : wRange [f] ρ st = .ok (rng 0 j.toNat, .p .non) st := by
  unfold Is at h
  simp [wRange, fAll, h, asPs, asP, bRange, gd_pos (And.intro h1 h2)]
/-! ### tests -/
theorem t_of {f : FE} {ρ : Loc} {st : Sto} {b : Bool} (h : Is f ρ st (.bl b)) : tOf f ρ st = .ok b st := by
  unfold Is at h
  simp [tOf, h]
theorem t_and {f g : FT} {ρ : Loc} {st : Sto} {a b : Bool} (h1 : f ρ st = .ok a st) (h2 : a = true → g ρ st = .ok b st) : tAnd f g ρ st = .ok (a && b) st := by
  unfold tAnd
  rw [h1]
  cases a
  · rfl
  · simpa using h2 rfl
theorem t_or {f g : FT} {ρ : Loc} {st : Sto} {a b : Bool} (h1 : f ρ st = .ok a st) (h2 : a = false → g ρ st = .ok b st) : tOr f g ρ st = .ok (a || b) st := by
  unfold tOr
  rw [h1]
  cases a
  · simpa using h2 rfl
  · rfl
theorem t_not {f : FT} {ρ : Loc} {st : Sto} {a : Bool} (h1 : f ρ st = .ok a st) : tNot f ρ st = .ok (!a) st := by
  unfold tNot
  rw [h1]
  rfl
/-! ### statements -/
theorem s_asg {i : Nat} {f : FE} {ρ : Loc} {st : Sto} {x : P} (h : Is f ρ st x) : sAsg i f ρ st = .next (ρ.set i (some (.p x))) st := by
  unfold Is at h
  simp [sAsg, h]
theorem s_asgL {i : Nat} {f : FE} {ρ : Loc} {st : Sto} {xs : List P} (h : IsL f ρ st xs) : sAsg i f ρ st = .next (ρ.set i (some (.r st.length))) (st ++ [.lst xs]) := by
  unfold IsL at h
  simp [sAsg, h]
theorem s_ret {f : FE} {ρ : Loc} {st : Sto} {x : P} (h : Is f ρ st x) : sRet f ρ st = .ret (.p x) st := by
  unfold Is at h
  simp [sRet, h]
theorem s_if {c : FT} {a b : FS} {ρ : Loc} {st : Sto} {k : Bool} {r : RS} (h : c ρ st = .ok k st) (h1 : k = true → a ρ st = r) (h2 : k = false → b ρ st = r) : sIf c a b ρ st = r := by
  unfold sIf
  rw [h]
  cases k
  · simpa using h2 rfl
  · simpa using h1 rfl
theorem seq_next {f g : FS} {ρ ρ' : Loc} {st st' : Sto} {r : RS} (h : f ρ st = .next ρ' st') (h2 : g ρ' st' = r) : FS.seq f g ρ st = r := by
  unfold FS.seq
  rw [h]
  exact h2
theorem blk_next {f g : FS} {fs : List FS} {ρ ρ' : Loc} {st st' : Sto} {r : RS} (h : f ρ st = .next ρ' st') (h2 : blk (g :: fs) ρ' st' = r) : blk (f :: g :: fs) ρ st = r := seq_next h h2
theorem blk_end {f g : FS} {fs : List FS} {ρ : Loc} {st : Sto} {r : RS} (h : f ρ st = r) (hr : ∀ ρ' st', r ≠ .next ρ' st') : blk (f :: g :: fs) ρ st = r := by
  show FS.seq f (blk (g :: fs)) ρ st = r
  unfold FS.seq
  rw [h]
  cases r with
  | next ρ' st' => exact absurd rfl (hr ρ' st')
  | _ => rfl
/-- a loop by its invariant, by the turn's number -/
theorem for_ind {tg : Tg} {body : FS} {vs : List Nat} {n : Nat} {all : List P} {d : D} (Iv : Nat → Loc → Sto → Prop) {xs0 : List P}
    (hs : ∀ i ρ st, Iv i ρ st → still all d st = true)
    (hb : ∀ i x ρ st, xs0[i]? = some x → Iv i ρ st → ∃ ρ' ρ2 s2, tg.put x ρ = some ρ' ∧ (body ρ' st = .next ρ2 s2 ∨ body ρ' st = .cont ρ2 s2) ∧ Iv (i + 1) (clean n vs ρ2 s2).1 (clean n vs ρ2 s2).2) :
    ∀ (k : Nat) (ρ : Loc) (st : Sto), k ≤ xs0.length → Iv k ρ st → ∃ ρ' st', forL tg body vs n all d (xs0.drop k) ρ st = .next ρ' st' ∧ Iv xs0.length ρ' st' := by
  intro k
  generalize hm : xs0.length - k = m
  induction m generalizing k with
  | zero =>
    intro ρ st hk h
    have : k = xs0.length := by omega
    subst this
    refine ⟨ρ, st, ?_, h⟩
    rw [List.drop_length, forL, if_pos (hs _ _ _ h)]
  | succ m ih =>
    intro ρ st hk h
    have hlt : k < xs0.length := by omega
    obtain ⟨ρ', ρ2, s2, e1, e2, e3⟩ := hb k xs0[k] ρ st (List.getElem?_eq_getElem hlt) h
    obtain ⟨ρ3, s3, e4, e5⟩ := ih (k + 1) (by omega) _ _ (by omega) e3
    refine ⟨ρ3, s3, ?_, e5⟩
    rw [List.drop_eq_getElem_cons hlt, forL, if_pos (hs _ _ _ h), e1]
    rcases e2 with e2 | e2
    · simp only [e2]; exact e4
    · simp only [e2]; exact e4
theorem s_for {tg : Tg} {w : FW} {body : FS} {vs : List Nat} {ρ : Loc} {st : Sto} {xs : List P} {d : D} (hw : w ρ st = .ok (xs, d) st) (Iv : Nat → Loc → Sto → Prop) (h0 : Iv 0 ρ st)
    (hs : ∀ i ρ st, Iv i ρ st → still xs d st = true)
    (hb : ∀ i x ρ st1, xs[i]? = some x → Iv i ρ st1 → ∃ ρ' ρ2 s2, tg.put x ρ = some ρ' ∧ (body ρ' st1 = .next ρ2 s2 ∨ body ρ' st1 = .cont ρ2 s2) ∧ Iv (i + 1) (clean st.length vs ρ2 s2).1 (clean st.length vs ρ2 s2).2) :
    ∃ ρ' st', sFor tg w body vs ρ st = .next ρ' st' ∧ Iv xs.length ρ' st' := by
  obtain ⟨ρ', st', e, h⟩ := for_ind (n := st.length) (all := xs) (d := d) (vs := vs) Iv hs hb 0 ρ st (Nat.zero_le _) h0
  refine ⟨ρ', st', ?_, h⟩
  unfold sFor
  rw [hw]
  exact e
/-- no list: cleaning forgets names only -/
theorem clean_nil (n : Nat) (ρ : Loc) (st : Sto) (h : n = st.length) (hb : ρ.all (bel n) = true) : clean n [] ρ st = (ρ, st) := by
  subst h
  unfold clean
  simp [killL, live, hb]
end Pd
namespace Pd
/-! ### comprehensions over coded data -/
def mapO {α β : Type} (g : α → Option β) : List α → Option (List β)
  | [] => some []
  | a :: r => (g a).bind fun b => (mapO g r).map (b :: ·)
theorem mapO_mem {α β : Type} {g : α → Option β} : ∀ {l : List α} {r : List β}, mapO g l = some r → ∀ b ∈ r, ∃ a ∈ l, g a = some b
  | [], r, h, b, hb => by cases h; cases hb
  | a :: l, r, h, b, hb => by
    unfold mapO at h
    cases e : g a with
    | none => rw [e] at h; cases h
    | some b1 =>
      rw [e] at h
      cases e2 : mapO g l with
      | none => rw [e2] at h; cases h
      | some r1 =>
        rw [e2] at h
        cases h
        rcases List.mem_cons.mp hb with hb | hb
        · exact ⟨a, List.mem_cons_self, by rw [hb]; exact e⟩
        · obtain ⟨a', h1, h2⟩ := mapO_mem e2 b hb
          exact ⟨a', List.mem_cons_of_mem _ h1, h2⟩
theorem mapO_len {α β : Type} {g : α → Option β} : ∀ {l : List α} {r : List β}, mapO g l = some r → r.length = l.length
  | [], r, h => by cases h; rfl
  | a :: l, r, h => by
    unfold mapO at h
    cases e : g a with
    | none => rw [e] at h; cases h
    | some b1 =>
      rw [e] at h
      cases e2 : mapO g l with
      | none => rw [e2] at h; cases h
      | some r1 =>
        rw [e2] at h
        cases h
        simp [mapO_len e2]
/-- what is read back is what was written -/
theorem mapO_back {α β : Type} {g : α → Option β} {f : β → α} (h : ∀ a b, g a = some b → f b = a) : ∀ {l : List α} {r : List β}, mapO g l = some r → r.map f = l
  | [], r, e => by cases e; rfl
  | a :: l, r, e => by
    unfold mapO at e
    cases e1 : g a with
    | none => rw [e1] at e; cases e
    | some b1 =>
      rw [e1] at e
      cases e2 : mapO g l with
      | none => rw [e2] at e; cases e
      | some r1 =>
        rw [e2] at e
        cases e
        rw [List.map_cons, h a b1 e1, mapO_back h e2]
theorem mapO_map {α β : Type} {g : α → Option β} {f : β → α} : ∀ {r : List β}, (∀ b ∈ r, g (f b) = some b) → mapO g (r.map f) = some r
  | [], _ => rfl
  | b :: r, h => by
    rw [List.map_cons, mapO, h b List.mem_cons_self, Option.bind_some, mapO_map (fun c hc => h c (List.mem_cons_of_mem _ hc))]
    rfl
theorem compL_enc {α β : Type} {elt : FE} {i : Nat} {ρ : Loc} {all : List P} {x0 : P} {st : Sto} {ex : Exn} {enc : α → P} {dec : β → P} {g : α → Option β} : ∀ {as : List α}, (∀ a ∈ as, fPure elt (ρ.set i (some (.p (enc a)))) st = toR ex st ((g a).map dec)) →
    compL elt (.one i) tTrue ρ all (.p x0) (as.map enc) st = toR ex st ((mapO g as).map (·.map dec))
  | [], _ => rfl
  | a :: r, h => by
    have ih := compL_enc (all := all) (x0 := x0) (fun y hy => h y (List.mem_cons_of_mem _ hy))
    have h1 := h a List.mem_cons_self
    rw [List.map_cons]
    unfold compL
    simp only [still_p, if_true, Tg.put, tTrue, Res.bind_ok, h1]
    cases e : g a with
    | none => simp [toR, mapO, e]
    | some y =>
      simp only [toR, Res.bind_ok, mapO, e, Option.bind_some, Option.map_some]
      rw [ih]
      cases mapO g r <;> rfl
theorem comp_enc {α β : Type} {elt : FE} {i : Nat} {w : FW} {own : List Nat} {ρ : Loc} {st : Sto} {x0 : P} {ex : Exn} (enc : α → P) (dec : β → P) (g : α → Option β) {as : List α} (hw : w ρ st = .ok (as.map enc, .p x0) st) (hl : as.length ≤ line)
    (h : ∀ a ∈ as, fPure elt ((wipe ρ own).set i (some (.p (enc a)))) st = toR ex st ((g a).map dec)) : eComp elt (.one i) w tTrue own ρ st = match mapO g as with
    | some bs => .ok (.r st.length) (st ++ [.lst (bs.map dec)])
    | none => .exc ex st := by
  unfold eComp
  rw [hw]
  simp only [Res.bind_ok, List.length_map, if_pos hl, compL_enc h]
  cases mapO g as with
  | none => simp [toR]
  | some ys => simp only [toR, Option.map_some, Res.bind_ok, putO, NV.put, nrm_new]
theorem isL_enc {α : Type} {elt : FE} {i : Nat} {w : FW} {own : List Nat} {ρ : Loc} {st : Sto} {x0 : P} (enc : α → P) (f : α → P) {as : List α} (hw : w ρ st = .ok (as.map enc, .p x0) st) (hl : as.length ≤ line)
    (h : ∀ a ∈ as, Is elt ((wipe ρ own).set i (some (.p (enc a)))) st (f a)) : IsL (eComp elt (.one i) w tTrue own) ρ st (as.map f) := by
  have m : ∀ l : List α, mapO (fun a => some (f a)) l = some (l.map f) := fun l => by
    induction l with
    | nil => rfl
    | cons a r ih => rw [mapO, Option.bind_some, ih]; rfl
  unfold IsL
  rw [comp_enc (ex := ⟨0, none⟩) enc id (fun a => some (f a)) hw hl fun a ha => ?_, m]
  · simp
  · have := h a ha
    unfold Is at this
    simp [fPure, this, toR]
theorem exc_bi1 {g : List P → Option NV} {f : FE} {ρ : Loc} {st : Sto} {x : Exn} (h : f ρ st = .exc x st) : eBi g [f] ρ st = .exc x st := by simp [eBi, fAll, h]
theorem pure_is {f : FE} {ρ : Loc} {st : Sto} {x : P} (h : Is f ρ st x) : fPure f ρ st = .ok x st := by
  unfold Is at h
  simp [fPure, h]
theorem pure_exc {f : FE} {ρ : Loc} {st : Sto} {x : Exn} (h : f ρ st = .exc x st) : fPure f ρ st = .exc x st := by simp [fPure, h]
/-- a call by its outcome -/
theorem pure_call {G : FF} {fs : List FE} {ρ : Loc} {st : Sto} {xs : List P} {ex : Exn} {o : Option P} (ha : Ars ρ st fs xs) (h : pv (G (xs.map .p) []) = toR ex [] o) : fPure (eCall G fs) ρ st = toR ex st o := by
  cases o with
  | some v => exact pure_is (is_call ha h)
  | none => exact pure_exc (exc_call ha h)
theorem s_raise {c : Nat} {f : FE} {ρ : Loc} {st : Sto} {x : P} (h : Is f ρ st x) : sRaiseF c f ρ st = .exc ⟨c, some x⟩ ρ st := by
  unfold sRaiseF
  rw [pure_is h]
  rfl
theorem s_retX {f : FE} {ρ : Loc} {st : Sto} {x : Exn} (h : f ρ st = .exc x st) : sRet f ρ st = .exc x ρ st := by simp [sRet, h]
/-- a def whose body ends so -/
theorem def_ret {n : Nat} {g : FS} {ds : List D} {v : P} {st s : Sto} (h : g (ds.map some ++ List.replicate (n - ds.length) none) st = .ret (.p v) s) : pv (fDef n g ds st) = .ok v [] := by
  unfold fDef
  rw [h]
  rfl
theorem def_exc {n : Nat} {g : FS} {ds : List D} {x : Exn} {ρ : Loc} {st s : Sto} (h : g (ds.map some ++ List.replicate (n - ds.length) none) st = .exc x ρ s) : pv (fDef n g ds st) = .exc x [] := by
  unfold fDef
  rw [h]
  rfl
/-! ### equality of data -/
mutual
theorem eqv_same : ∀ {x y : P}, x = y → P.eqv x y = true
  | .non, _, rfl => rfl
  | .bl a, _, rfl => by simp [P.eqv]
  | .int a, _, rfl => by simp [P.eqv]
  | .str a, _, rfl => by simp [P.eqv]
  | .tup a, _, rfl => by simp [P.eqv, eqvs_same (x := a) rfl]
  | .lst a, _, rfl => by simp [P.eqv, eqvs_same (x := a) rfl]
  | .ro a, _, rfl => by simp [P.eqv, eqvs_same (x := a) rfl]
theorem eqvs_same : ∀ {x y : List P}, x = y → P.eqvs x y = true
  | [], _, rfl => rfl
  | a :: r, _, rfl => by simp [P.eqvs, eqv_same (x := a) rfl, eqvs_same (x := r) rfl]
end
theorem oEq_str (a b : List Nat) : oEq (.str a) (.str b) = some (.p (.bl (a == b))) := by
  unfold oEq
  rw [gd_pos (by unfold deepOk; simp [P.dep])]
  simp [P.eqv]
theorem oNe_str (a b : List Nat) : oNe (.str a) (.str b) = some (.p (.bl (!(a == b)))) := by
  unfold oNe
  rw [gd_pos (by unfold deepOk; simp [P.dep])]
  simp [P.eqv]
theorem oEq_int (a b : Int) : oEq (.int a) (.int b) = some (.p (.bl (a == b))) := by
  unfold oEq
  rw [gd_pos (by unfold deepOk; simp [P.dep])]
  simp [P.eqv]
theorem oNe_int (a b : Int) : oNe (.int a) (.int b) = some (.p (.bl (!(a == b)))) := by
  unfold oNe
  rw [gd_pos (by unfold deepOk; simp [P.dep])]
  simp [P.eqv]
theorem oEq_nil (xs : List P) : oEq (.tup xs) (.tup []) = some (.p (.bl xs.isEmpty)) := by
  unfold oEq
  rw [gd_pos (by unfold deepOk; simp [P.dep, P.deps])]
  cases xs <;> simp [P.eqv, P.eqvs]
theorem oNe_same {x : P} (h : x.dep ≤ 100) : oNe x x = some (.p (.bl false)) := by
  unfold oNe
  rw [gd_pos (by unfold deepOk; omega), eqv_same rfl]
  rfl
theorem oEq_same {x : P} (h : x.dep ≤ 100) : oEq x x = some (.p (.bl true)) := by
  unfold oEq
  rw [gd_pos (by unfold deepOk; omega), eqv_same rfl]
theorem asSs_map : ∀ ps : List (List Nat), asSs (ps.map P.str) = some ps
  | [] => rfl
  | p :: ps => by simp [asSs, asS, asSs_map ps]
theorem asBls_map : ∀ ps : List Bool, asBls (ps.map P.bl) = some ps
  | [] => rfl
  | p :: ps => by simp [asBls, asBl, asBls_map ps]
theorem deps_le {xs : List P} {k : Nat} (h : ∀ x ∈ xs, x.dep ≤ k) : P.deps xs ≤ k := by
  induction xs with
  | nil => simp [P.deps]
  | cons x r ih =>
    have h1 := h x List.mem_cons_self
    have h2 := ih fun y hy => h y (List.mem_cons_of_mem _ hy)
    simp only [P.deps]
    omega
end Pd
namespace Pd
/-! ### lists in the store -/
theorem s_app {o i : Nat} {f : FE} {ρ : Loc} {st : Sto} {xs : List P} {x : P} (hv : ρ[o]? = some (some (.r i))) (hi : st[i]? = some (.lst xs)) (hf : Is f ρ st x) (hl : xs.length < line) : sExpr (eApp mAppend (eVar o) f) ρ st = .next ρ (st.set i (.lst (xs ++ [x]))) := by
  unfold Is at hf
  have e : (st.set i (O.lst (xs ++ [x]))).take st.length = st.set i (.lst (xs ++ [x])) := by
    rw [show st.length = (st.set i (O.lst (xs ++ [x]))).length by simp, List.take_length]
  simp [sExpr, eApp, eVar, hv, isL, hi, fItems, fPure, hf, chg, mAppend, gd_pos hl, e]
theorem is_bir {g : List P → Option NV} {f : FE} {ρ : Loc} {st : Sto} {i : Nat} {xs : List P} {z : P} (hf : f ρ st = .ok (.r i) st) (hi : st[i]? = some (.lst xs)) (hg : g [.lst xs] = some (.p z)) : Is (eBi g [f]) ρ st z := by
  unfold Is
  simp [eBi, fAll, hf, asPs, asP, hi, hg, putO, NV.put]
theorem var_r {o i : Nat} {ρ : Loc} {st : Sto} (hv : ρ[o]? = some (some (.r i))) : eVar o ρ st = .ok (.r i) st := by
  unfold eVar; rw [hv]
theorem bel_p (k : Nat) (o : Option P) : bel k (o.map D.p) = true := by cases o <;> rfl
theorem bel_n (k : Nat) : bel k none = true := rfl
theorem bel_d (k : Nat) (x : P) : bel k (some (.p x)) = true := rfl
theorem bel_r {k i : Nat} (h : i < k) : bel k (some (.r i)) = true := by simpa [bel] using h
def drops (ρ : Loc) : List Nat → Loc
  | [] => ρ
  | v :: vs => drops (ρ.set v none) vs
theorem killL_p {n : Nat} {st : Sto} : ∀ {vs : List Nat} {ρ : Loc}, (∀ v ∈ vs, ∀ i, ρ[v]? ≠ some (some (.r i))) → killL n vs ρ st = (drops ρ vs, st)
  | [], _, _ => rfl
  | v :: vs, ρ, h => by
    have e : kill1 n v ρ st = (ρ.set v none, st) := by
      unfold kill1
      split
      · rename_i i hi
        exact absurd hi (h v List.mem_cons_self i)
      · rfl
    rw [killL, e]
    refine killL_p fun u hu i hi => ?_
    by_cases z : v = u
    · subst z
      by_cases hl : v < ρ.length
      · rw [List.getElem?_set_self hl] at hi; cases hi
      · rw [List.getElem?_eq_none (by simpa using hl)] at hi; cases hi
    · rw [List.getElem?_set_ne z] at hi
      exact h u (List.mem_cons_of_mem _ hu) i hi
theorem clean_p {n : Nat} {vs : List Nat} {ρ : Loc} {st : Sto} (h : ∀ v ∈ vs, ∀ i, ρ[v]? ≠ some (some (.r i))) (hn : n = st.length) (hb : (drops ρ vs).all (bel n) = true) : clean n vs ρ st = (drops ρ vs, st) := by
  subst hn
  unfold clean
  rw [killL_p h]
  simp only [List.drop_length, live, Nat.add_zero, hb, if_true, List.take_length]
theorem ne_r_p {o : Option P} {i : Nat} : (some (o.map D.p) : Option (Option D)) ≠ some (some (.r i)) := by cases o <;> simp
/-- a call that is handed the store's only list, and leaves it -/
theorem is_call1 {G : FF} {fs : List FE} {ρ : Loc} {st : Sto} {xs : List P} {d v : P} (ha : fAll fs ρ st = .ok [.r 0, .p d] st) (hs : st = [.lst xs]) (h : ∃ s, G [.r 0, .p d] [.lst xs] = .ok (.p v) (.lst xs :: s)) : Is (eCall G fs) ρ st v := by
  subst hs
  obtain ⟨s, e⟩ := h
  have hb : back [0] (O.lst xs :: s) [.lst xs] = [.lst xs] := by cases s <;> rfl
  unfold Is eCall
  rw [ha, Res.bind_ok]
  unfold iso
  show nrm _ (match G [.r 0, .p d] [.lst xs] with
    | .ok (.p x) s => Res.ok (.p x) (back [0] s [.lst xs])
    | .ok (.r j) s => if j < [0].length then .ok (.r ([0].getD j 0)) (back [0] s [.lst xs]) else match s[j]? with
      | some o => .ok (.r [O.lst xs].length) (back [0] s [.lst xs] ++ [o])
      | none => .bad
    | .exc x s => .exc x (back [0] s [.lst xs])
    | .bad => .bad) = _
  rw [e]
  simp only [hb]
  rfl
/-- a call of data that gives a new list -/
theorem isL_call {G : FF} {fs : List FE} {ρ : Loc} {st : Sto} {xs : List P} {ys : List P} (ha : Ars ρ st fs xs) (h : ∃ j s, G (xs.map .p) [] = .ok (.r j) s ∧ s[j]? = some (.lst ys)) : IsL (eCall G fs) ρ st ys := by
  obtain ⟨j, s, e, hj⟩ := h
  unfold IsL eCall
  rw [ars_eq ha, Res.bind_ok, iso_p, e]
  simp only [hj, nrm_new]
theorem t_ofb {f : FE} {ρ : Loc} {st : Sto} {b c : Bool} (h : Is f ρ st (.bl b)) (e : b = c) : tOf f ρ st = .ok c st := e ▸ t_of h
end Pd
end

section -- PdText
set_option linter.all false
set_option autoImplicit false
set_option maxRecDepth 100000
/-! PdText: texts apart and together, numbers as texts. -/
namespace Pd
/-! ### split and join -/
theorem splL_ne0 (c : Nat) : ∀ l, splL c l ≠ []
  | [] => by simp [splL]
  | d :: r => by
    unfold splL
    split
    · simp
    · split <;> simp
theorem join_spl (c : Nat) : ∀ l, joinL [c] (splL c l) = l
  | [] => rfl
  | d :: r => by
    have ih := join_spl c r
    unfold splL
    split
    · rename_i h
      subst h
      cases e : splL d r with
      | nil => exact absurd e (splL_ne0 d r)
      | cons p ps =>
        rw [e] at ih
        show [] ++ [d] ++ joinL [d] (p :: ps) = d :: r
        rw [ih]
        rfl
    · cases e : splL c r with
      | nil => exact absurd e (splL_ne0 c r)
      | cons p ps =>
        rw [e] at ih
        cases ps with
        | nil =>
          have ih : p = r := ih
          subst ih
          rfl
        | cons q t =>
          show (d :: p) ++ [c] ++ joinL [c] (q :: t) = d :: r
          rw [← ih]
          rfl
theorem spl_none (c : Nat) : ∀ p, c ∉ p → splL c p = [p]
  | [], _ => rfl
  | d :: r, h => by
    have hd : d ≠ c := fun e => h (by rw [e]; exact List.mem_cons_self)
    unfold splL
    rw [if_neg hd, spl_none c r (fun m => h (List.mem_cons_of_mem _ m))]
theorem spl_app (c : Nat) : ∀ p r, c ∉ p → splL c (p ++ c :: r) = p :: splL c r
  | [], r, _ => by
    show splL c (c :: r) = [] :: splL c r
    rw [splL, if_pos rfl]
  | d :: p, r, h => by
    have hd : d ≠ c := fun e => h (by rw [e]; exact List.mem_cons_self)
    show splL c (d :: (p ++ c :: r)) = _
    rw [splL, if_neg hd, spl_app c p r (fun m => h (List.mem_cons_of_mem _ m))]
theorem spl_join (c : Nat) : ∀ ps, ps ≠ [] → (∀ p ∈ ps, c ∉ p) → splL c (joinL [c] ps) = ps
  | [], h, _ => absurd rfl h
  | [p], _, h => spl_none c p (h p List.mem_cons_self)
  | p :: q :: r, _, h => by
    show splL c (p ++ [c] ++ joinL [c] (q :: r)) = _
    rw [List.append_assoc, List.singleton_append, spl_app c p _ (h p List.mem_cons_self), spl_join c (q :: r) (by simp) (fun x hx => h x (List.mem_cons_of_mem _ hx))]
theorem spl_len (c : Nat) : ∀ l, (splL c l).length ≤ l.length + 1
  | [] => by simp [splL]
  | d :: r => by
    have ih := spl_len c r
    unfold splL
    split
    · simp; omega
    · split
      · simp
      · rename_i p ps e
        rw [e] at ih
        simp at ih ⊢
        omega
theorem spl_mem_len (c : Nat) : ∀ l, ∀ p ∈ splL c l, p.length ≤ l.length
  | [], p, h => by
    have h : p = [] := by simpa [splL] using h
    subst h; simp
  | d :: r, p, h => by
    have ih := spl_mem_len c r
    unfold splL at h
    split at h
    · rcases List.mem_cons.mp h with h | h
      · subst h; simp
      · have := ih p h
        simp; omega
    · split at h
      · have h : p = [d] := by simpa using h
        subst h; simp
      · rename_i q qs e
        rw [e] at ih
        rcases List.mem_cons.mp h with h | h
        · subst h
          have := ih q List.mem_cons_self
          simp; omega
        · have := ih p (List.mem_cons_of_mem _ h)
          simp; omega
theorem join_len (S : List Nat) : ∀ ps, (joinL S ps).length ≤ (ps.map (·.length)).sum + ps.length * S.length
  | [] => by simp [joinL]
  | [p] => by simp [joinL]
  | p :: q :: r => by
    have ih := join_len S (q :: r)
    show (p ++ S ++ joinL S (q :: r)).length ≤ _
    simp only [List.length_append, List.map_cons, List.sum_cons, List.length_cons, Nat.add_mul, Nat.one_mul] at ih ⊢
    omega
/-- of a list of texts, from a split: the sizes -/
theorem spl_sum (c : Nat) : ∀ l, ((splL c l).map (·.length)).sum + (splL c l).length = l.length + 1
  | [] => by simp [splL]
  | d :: r => by
    have ih := spl_sum c r
    unfold splL
    split
    · simp; omega
    · split
      · rename_i e
        exact absurd e (splL_ne0 c r)
      · rename_i p ps e
        rw [e] at ih
        simp at ih ⊢
        omega
theorem sum_le {l : List Nat} {b : Nat} (h : ∀ x ∈ l, x ≤ b) : l.sum ≤ l.length * b := by
  induction l with
  | nil => simp
  | cons x r ih =>
    have h1 := h x List.mem_cons_self
    have h2 := ih (fun y hy => h y (List.mem_cons_of_mem _ hy))
    simp only [List.sum_cons, List.length_cons, Nat.add_mul, Nat.one_mul]
    omega
/-! ### numbers -/
theorem dchar : ∀ n, n < 10 → (Nat.digitChar n).toNat = 48 + n := by decide
theorem numL_lt {n : Nat} (h : n < 10) : numL n = [48 + n] := by
  unfold numL
  rw [Nat.toDigits_of_lt_base h]
  simp [dchar n h]
theorem numL_ge {n : Nat} (h : 10 ≤ n) : numL n = numL (n / 10) ++ [48 + n % 10] := by
  have e := Nat.toDigits_append_toDigits (b := 10) (n := n / 10) (d := n % 10) (by decide) (by omega) (by omega)
  rw [show 10 * (n / 10) + n % 10 = n by omega] at e
  have h2 := numL_lt (n := n % 10) (by omega)
  unfold numL at h2 ⊢
  rw [← e, List.map_append, h2]
theorem num_ind {C : Nat → Prop} (h1 : ∀ n, n < 10 → C n) (h2 : ∀ n, 10 ≤ n → C (n / 10) → C n) : ∀ n, C n := by
  intro n
  induction n using Nat.strongRecOn with
  | ind n ih =>
    by_cases h : n < 10
    · exact h1 n h
    · exact h2 n (by omega) (ih _ (by omega))
theorem num_dig : ∀ n, (numL n).all dig = true := num_ind (fun n h => by rw [numL_lt h]; simp [dig]; omega) fun n h ih => by
  rw [numL_ge h, List.all_append, ih]
  simp [dig]; omega
theorem val_snoc (l : List Nat) (c : Nat) : valL (l ++ [c]) = valL l * 10 + (c - 48) := by
  unfold valL
  rw [List.foldl_append]
  rfl
theorem num_val : ∀ n, valL (numL n) = n := num_ind (fun n h => by rw [numL_lt h]; simp [valL]) fun n h ih => by
  rw [numL_ge h, val_snoc, ih]
  omega
theorem num_ne (n : Nat) : numL n ≠ [] := by
  by_cases h : n < 10
  · rw [numL_lt h]; simp
  · rw [numL_ge (by omega)]; simp
theorem num_len : ∀ (k n : Nat), n < 10 ^ (k + 1) → (numL n).length ≤ k + 1
  | 0, n, h => by rw [numL_lt (by simpa using h)]; simp
  | k + 1, n, h => by
    by_cases h0 : n < 10
    · rw [numL_lt h0]; simp
    · rw [numL_ge (by omega), List.length_append]
      have := num_len k (n / 10) (by rw [Nat.pow_succ] at h; omega)
      simp; omega
theorem num_head : ∀ n, 0 < n → ∀ c r, numL n = c :: r → c ≠ 48 := num_ind (fun n h hp c r e => by
    rw [numL_lt h] at e
    cases e
    omega) fun n h ih hp c r e => by
  rw [numL_ge h] at e
  cases e1 : numL (n / 10) with
  | nil => exact absurd e1 (num_ne _)
  | cons c' r' =>
    rw [e1] at e
    have : c' = c := by simpa using (List.cons.inj e).1
    subst this
    exact ih (by omega) _ _ e1
/-- a number's text: no leading zero -/
def canon (w : List Nat) : Prop := w ≠ [] ∧ w.all dig = true ∧ (w.head? = some 48 → w = [48])
theorem dig_ge {c : Nat} (h : dig c = true) : 48 ≤ c ∧ c ≤ 57 := by simpa [dig] using h
theorem canon_num : ∀ (m : Nat) (w : List Nat), w.length = m → canon w → numL (valL w) = w := by
  intro m
  induction m with
  | zero =>
    intro w hl h
    exact absurd (List.length_eq_zero_iff.mp hl) h.1
  | succ m ih =>
    intro w hl h
    obtain ⟨h1, h2, h3⟩ := h
    have hw : w = w.dropLast ++ [w.getLast h1] := (List.dropLast_concat_getLast h1).symm
    generalize hu : w.dropLast = u at hw
    generalize hd : w.getLast h1 = d at hw
    subst hw
    rw [List.all_append, Bool.and_eq_true] at h2
    have hd1 := dig_ge (c := d) (by simpa using h2.2)
    rw [val_snoc]
    by_cases hu0 : u = []
    · subst hu0
      rw [show valL [] * 10 + (d - 48) = d - 48 by simp [valL], numL_lt (by omega), show 48 + (d - 48) = d by omega]
      rfl
    · have hc : canon u := ⟨hu0, h2.1, fun e => by
        have : (u ++ [d]).head? = some 48 := by
          cases u with
          | nil => exact absurd rfl hu0
          | cons a r => simpa using e
        have := h3 this
        cases u with
        | nil => exact absurd rfl hu0
        | cons a r => simp at this⟩
      have iu := ih u (by simpa using hl) hc
      have hv : 0 < valL u := by
        rcases Nat.eq_zero_or_pos (valL u) with z | z
        · rw [z, numL_lt (by omega)] at iu
          have : (u ++ [d]).head? = some 48 := by rw [← iu]; rfl
          have := h3 this
          rw [← iu] at this
          simp at this
        · exact z
      rw [numL_ge (by omega), show (valL u * 10 + (d - 48)) / 10 = valL u by omega, show (valL u * 10 + (d - 48)) % 10 = d - 48 by omega, iu, show 48 + (d - 48) = d by omega]
theorem num_canon (n : Nat) : canon (numL n) := ⟨num_ne n, num_dig n, fun e => by
  rcases Nat.eq_zero_or_pos n with z | z
  · subst z; exact numL_lt (by omega)
  · cases e1 : numL n with
    | nil => exact absurd e1 (num_ne n)
    | cons c r =>
      rw [e1] at e
      exact absurd (Option.some.inj e) (num_head n z c r e1)⟩
theorem intL_nn {i : Int} (h : 0 ≤ i) : intL i = numL i.toNat := by
  unfold intL
  rw [if_neg (by omega), show i.natAbs = i.toNat by omega]
theorem val_lt : ∀ (w : List Nat), w.all dig = true → valL w < 10 ^ w.length := by
  intro w
  generalize hm : w.length = m
  induction m generalizing w with
  | zero =>
    intro _
    have := List.length_eq_zero_iff.mp hm
    subst this
    simp [valL]
  | succ m ih =>
    intro h
    have h1 : w ≠ [] := fun e => by subst e; simp at hm
    have hw : w = w.dropLast ++ [w.getLast h1] := (List.dropLast_concat_getLast h1).symm
    generalize hu : w.dropLast = u at hw
    generalize hd : w.getLast h1 = d at hw
    subst hw
    rw [List.all_append, Bool.and_eq_true] at h
    have hd1 := dig_ge (c := d) (by simpa using h.2)
    have := ih u (by simpa using hm) h.1
    rw [val_snoc, Nat.pow_succ]
    omega
end Pd
end

section -- PdEv
set_option linter.all false
set_option autoImplicit false
set_option maxRecDepth 100000
/-! PdEv: the plain semantics by simp. -/
namespace Pd
theorem opq {α : Sort _} {a b : α} (h : a = b) : a = b := h
@[simp high] theorem bind_ok' {α β : Type} (a : α) (st : Sto) (k : α → Sto → Res β) : (Res.ok a st).bind k = k a st := opq rfl
@[simp high] theorem bind_exc' {α β : Type} (x : Exn) (st : Sto) (k : α → Sto → Res β) : (Res.exc x st : Res α).bind k = .exc x st := opq rfl
@[simp high] theorem of_ok' (ρ : Loc) {α : Type} (a : α) (st : Sto) (k : α → Sto → RS) : RS.of ρ (.ok a st) k = k a st := opq rfl
@[simp high] theorem of_exc' (ρ : Loc) {α : Type} (x : Exn) (st : Sto) (k : α → Sto → RS) : RS.of ρ (.exc x st) k = .exc x ρ st := opq rfl
@[simp high] theorem nrm_p' (n : Nat) (x : P) (st : Sto) : nrm n (.ok (.p x) st) = .ok (.p x) (st.take n) := opq rfl
@[simp high] theorem frz_p' (n : Nat) (x : P) (st : Sto) : frz n (.ok (.p x) st) = .ok x (st.take n) := opq rfl
/-- the rest of a block behind a statement -/
def RS.then (r : RS) (k : Loc → Sto → RS) : RS := match r with
  | .next ρ st => k ρ st
  | r => r
@[simp] theorem then_next (ρ : Loc) (st : Sto) (k : Loc → Sto → RS) : (RS.next ρ st).then k = k ρ st := opq rfl
@[simp] theorem then_ret (d : D) (st : Sto) (k : Loc → Sto → RS) : (RS.ret d st).then k = .ret d st := opq rfl
@[simp] theorem then_exc (x : Exn) (ρ : Loc) (st : Sto) (k : Loc → Sto → RS) : (RS.exc x ρ st).then k = .exc x ρ st := opq rfl
@[simp] theorem then_brk (ρ : Loc) (st : Sto) (k : Loc → Sto → RS) : (RS.brk ρ st).then k = .brk ρ st := opq rfl
@[simp] theorem then_cont (ρ : Loc) (st : Sto) (k : Loc → Sto → RS) : (RS.cont ρ st).then k = .cont ρ st := opq rfl
@[simp] theorem then_bad (k : Loc → Sto → RS) : RS.bad.then k = .bad := opq rfl
@[simp] theorem then_ite (c : Prop) [Decidable c] (a b : RS) (k : Loc → Sto → RS) : (if c then a else b).then k = if c then a.then k else b.then k := by split <;> rfl
@[simp] theorem bind_ite {α β : Type} (c : Prop) [Decidable c] (a b : Res α) (k : α → Sto → Res β) : (if c then a else b).bind k = if c then a.bind k else b.bind k := by split <;> rfl
@[simp] theorem of_ite {α : Type} (ρ : Loc) (c : Prop) [Decidable c] (a b : Res α) (k : α → Sto → RS) : RS.of ρ (if c then a else b) k = if c then RS.of ρ a k else RS.of ρ b k := by split <;> rfl
@[simp] theorem nrm_ite (n : Nat) (c : Prop) [Decidable c] (a b : Res D) : nrm n (if c then a else b) = if c then nrm n a else nrm n b := by split <;> rfl
@[simp] theorem frz_ite (n : Nat) (c : Prop) [Decidable c] (a b : Res D) : frz n (if c then a else b) = if c then frz n a else frz n b := by split <;> rfl
@[simp] theorem blk0 (ρ : Loc) (st : Sto) : blk [] ρ st = .next ρ st := opq rfl
@[simp] theorem blk1 (f : FS) (ρ : Loc) (st : Sto) : blk [f] ρ st = f ρ st := opq rfl
@[simp] theorem blk2 (f g : FS) (fs : List FS) (ρ : Loc) (st : Sto) : blk (f :: g :: fs) ρ st = (f ρ st).then (blk (g :: fs)) := by
  show FS.seq _ _ _ _ = _
  unfold FS.seq RS.then
  cases f ρ st <;> rfl
/-! values -/
@[simp] theorem ev_lit (x : P) (ρ : Loc) (st : Sto) : eLit x ρ st = .ok (.p x) st := opq rfl
def getV (o : Option (Option D)) (st : Sto) : Res D := match o with
  | some (some d) => .ok d st
  | _ => .bad
@[simp] theorem getV_some (d : D) (st : Sto) : getV (some (some d)) st = .ok d st := opq rfl
@[simp] theorem ev_var (i : Nat) (ρ : Loc) (st : Sto) : eVar i ρ st = getV ρ[i]? st := opq rfl
@[simp] theorem asP_p (x : P) (st : Sto) : asP (.p x) st = some x := opq rfl
def lstO (o : Option O) : Option P := match o with
  | some (.lst xs) => some (.lst xs)
  | _ => none
@[simp] theorem lstO_some (xs : List P) : lstO (some (.lst xs)) = some (.lst xs) := opq rfl
@[simp] theorem asP_rr (i : Nat) (st : Sto) : asP (.r i) st = lstO st[i]? := opq rfl
def put2 (g : P → P → Option NV) (o1 o2 : Option P) (st : Sto) : Res D := match o1, o2 with
  | some x, some y => putO (g x y) st
  | _, _ => .bad
@[simp] theorem put2_some (g : P → P → Option NV) (x y : P) (st : Sto) : put2 g (some x) (some y) st = putO (g x y) st := opq rfl
def kE2b (g : P → P → Option NV) (d1 : D) (d2 : D) (s2 : Sto) : Res D := put2 g (asP d1 s2) (asP d2 s2) s2
@[simp] theorem kE2b_d (g : P → P → Option NV) (d1 : D) (d2 : D) (s2 : Sto) : kE2b g d1 d2 s2 = put2 g (asP d1 s2) (asP d2 s2) s2 := opq rfl
def kE2a (g : P → P → Option NV) (fb : FE) (ρ : Loc) (d1 : D) (s1 : Sto) : Res D := (fb ρ s1).bind (kE2b g d1)
@[simp] theorem kE2a_d (g : P → P → Option NV) (fb : FE) (ρ : Loc) (d1 : D) (s1 : Sto) : kE2a g fb ρ d1 s1 = (fb ρ s1).bind (kE2b g d1) := opq rfl
@[simp] theorem ev_e2 (g : P → P → Option NV) (fa fb : FE) (ρ : Loc) (st : Sto) : e2 g fa fb ρ st = nrm st.length ((fa ρ st).bind (kE2a g fb ρ)) := opq rfl
def put1 (g : P → Option NV) (o : Option P) (st : Sto) : Res D := match o with
  | some x => putO (g x) st
  | none => .bad
@[simp] theorem put1_some (g : P → Option NV) (x : P) (st : Sto) : put1 g (some x) st = putO (g x) st := opq rfl
def kE1 (g : P → Option NV) (d1 : D) (s1 : Sto) : Res D := put1 g (asP d1 s1) s1
@[simp] theorem kE1_d (g : P → Option NV) (d1 : D) (s1 : Sto) : kE1 g d1 s1 = put1 g (asP d1 s1) s1 := opq rfl
@[simp] theorem ev_e1 (g : P → Option NV) (fa : FE) (ρ : Loc) (st : Sto) : e1 g fa ρ st = nrm st.length ((fa ρ st).bind (kE1 g)) := opq rfl
@[simp] theorem putO_p (x : P) (st : Sto) : putO (some (.p x)) st = .ok (.p x) st := opq rfl
@[simp] theorem putO_l (xs : List P) (st : Sto) : putO (some (.l xs)) st = .ok (.r st.length) (st ++ [.lst xs]) := opq rfl
@[simp] theorem putO_ite (c : Prop) [Decidable c] (a b : Option NV) (st : Sto) : putO (if c then a else b) st = if c then putO a st else putO b st := by split <;> rfl
@[simp] theorem frz_r (n i : Nat) (st : Sto) : frz n (.ok (.r i) st) = if i + 1 = st.length ∧ n ≤ i then (match lstO st[i]? with | some x => .ok x (st.take n) | none => .bad) else .bad := by
  show (if _ then _ else _) = _
  split
  · cases st[i]? with
    | none => rfl
    | some o => cases o <;> rfl
  · rfl
@[simp] theorem nrm_r (n i : Nat) (st : Sto) : nrm n (.ok (.r i) st) = if i < n then .ok (.r i) (st.take n) else (match st[i]? with | some o => .ok (.r n) (st.take n ++ [o]) | none => .ok (.r i) st) := by
  show Res.ok (norm n (.r i) st).1 (norm n (.r i) st).2 = _
  by_cases h : i < n
  · simp [norm, h]
  · simp only [norm, h, if_false]
    cases st[i]? <;> rfl
@[simp] theorem ev_pure (f : FE) (ρ : Loc) (st : Sto) : fPure f ρ st = frz st.length (f ρ st) := opq rfl
@[simp] theorem items_nil (ρ : Loc) (st : Sto) : fItems [] ρ st = .ok [] st := opq rfl
def kIb (x : P) (xs : List P) (s2 : Sto) : Res (List P) := .ok (x :: xs) s2
@[simp] theorem kIb_d (x : P) (xs : List P) (s2 : Sto) : kIb x xs s2 = .ok (x :: xs) s2 := opq rfl
def kIa (r : List (Bool × FE)) (ρ : Loc) (x : P) (s1 : Sto) : Res (List P) := (fItems r ρ s1).bind (kIb x)
@[simp] theorem kIa_d (r : List (Bool × FE)) (ρ : Loc) (x : P) (s1 : Sto) : kIa r ρ x s1 = (fItems r ρ s1).bind (kIb x) := opq rfl
@[simp] theorem items_f (f : FE) (r : List (Bool × FE)) (ρ : Loc) (st : Sto) : fItems ((false, f) :: r) ρ st = (frz st.length (f ρ st)).bind (kIa r ρ) := opq rfl
def kSb (ys : List P) (xs : List P) (s2 : Sto) : Res (List P) := .ok (ys ++ xs) s2
@[simp] theorem kSb_d (ys : List P) (xs : List P) (s2 : Sto) : kSb ys xs s2 = .ok (ys ++ xs) s2 := opq rfl
def starI (n : Nat) (r : List (Bool × FE)) (ρ : Loc) (o : Option P) (s1 : Sto) : Res (List P) := match o with
    | some (.lst ys) => (fItems r ρ (s1.take n)).bind (kSb ys)
    | some (.tup ys) => (fItems r ρ (s1.take n)).bind (kSb ys)
    | _ => .bad
@[simp] theorem starI_l (n : Nat) (r : List (Bool × FE)) (ρ : Loc) (ys : List P) (s1 : Sto) : starI n r ρ (some (.lst ys)) s1 = (fItems r ρ (s1.take n)).bind (kSb ys) := opq rfl
@[simp] theorem starI_t (n : Nat) (r : List (Bool × FE)) (ρ : Loc) (ys : List P) (s1 : Sto) : starI n r ρ (some (.tup ys)) s1 = (fItems r ρ (s1.take n)).bind (kSb ys) := opq rfl
def kSa (n : Nat) (r : List (Bool × FE)) (ρ : Loc) (d : D) (s1 : Sto) : Res (List P) := starI n r ρ (asP d s1) s1
@[simp] theorem kSa_d (n : Nat) (r : List (Bool × FE)) (ρ : Loc) (d : D) (s1 : Sto) : kSa n r ρ d s1 = starI n r ρ (asP d s1) s1 := opq rfl
@[simp] theorem items_t (f : FE) (r : List (Bool × FE)) (ρ : Loc) (st : Sto) : fItems ((true, f) :: r) ρ st = (f ρ st).bind (kSa st.length r ρ) := by
  show (f ρ st).bind _ = _
  congr 1
def kTup (xs : List P) (s1 : Sto) : Res D := putO (gd (xs.length ≤ line) (some (.p (.tup xs)))) s1
@[simp] theorem kTup_d (xs : List P) (s1 : Sto) : kTup xs s1 = putO (gd (xs.length ≤ line) (some (.p (.tup xs)))) s1 := opq rfl
@[simp] theorem ev_tup (fs : List (Bool × FE)) (ρ : Loc) (st : Sto) : eTup fs ρ st = (fItems fs ρ st).bind kTup := opq rfl
def kLst (xs : List P) (s1 : Sto) : Res D := putO (gd (xs.length ≤ line) (some (.l xs))) s1
@[simp] theorem kLst_d (xs : List P) (s1 : Sto) : kLst xs s1 = putO (gd (xs.length ≤ line) (some (.l xs))) s1 := opq rfl
@[simp] theorem ev_lst (fs : List (Bool × FE)) (ρ : Loc) (st : Sto) : eLst fs ρ st = (fItems fs ρ st).bind kLst := opq rfl
@[simp] theorem gd_line {α : Type} {n : Nat} {r : Option α} (h : n ≤ 16777216) : gd (n ≤ line) r = r := gd_pos h
@[simp] theorem gd_simp {α : Type} {c : Prop} [Decidable c] {r : Option α} (h : c) : gd c r = r := if_pos h
@[simp] theorem all_nil (ρ : Loc) (st : Sto) : fAll [] ρ st = .ok [] st := opq rfl
def kAb (d : D) (ds : List D) (s2 : Sto) : Res (List D) := .ok (d :: ds) s2
@[simp] theorem kAb_d (d : D) (ds : List D) (s2 : Sto) : kAb d ds s2 = .ok (d :: ds) s2 := opq rfl
def kAa (r : List FE) (ρ : Loc) (d : D) (s1 : Sto) : Res (List D) := (fAll r ρ s1).bind (kAb d)
@[simp] theorem kAa_d (r : List FE) (ρ : Loc) (d : D) (s1 : Sto) : kAa r ρ d s1 = (fAll r ρ s1).bind (kAb d) := opq rfl
@[simp] theorem all_cons (f : FE) (r : List FE) (ρ : Loc) (st : Sto) : fAll (f :: r) ρ st = (f ρ st).bind (kAa r ρ) := opq rfl
@[simp] theorem asPs_nil (st : Sto) : asPs [] st = some [] := opq rfl
def consO (x : Option P) (xs : Option (List P)) : Option (List P) := match x, xs with
  | some x, some xs => some (x :: xs)
  | _, _ => none
@[simp] theorem consO_some (x : P) (xs : List P) : consO (some x) (some xs) = some (x :: xs) := opq rfl
@[simp] theorem asPs_cons (d : D) (ds : List D) (st : Sto) : asPs (d :: ds) st = consO (asP d st) (asPs ds st) := opq rfl
def putL (g : List P → Option NV) (o : Option (List P)) (st : Sto) : Res D := match o with
  | some xs => putO (g xs) st
  | none => .bad
@[simp] theorem putL_some (g : List P → Option NV) (xs : List P) (st : Sto) : putL g (some xs) st = putO (g xs) st := opq rfl
def kBi (g : List P → Option NV) (ds : List D) (s1 : Sto) : Res D := putL g (asPs ds s1) s1
@[simp] theorem kBi_d (g : List P → Option NV) (ds : List D) (s1 : Sto) : kBi g ds s1 = putL g (asPs ds s1) s1 := opq rfl
@[simp] theorem ev_bi (g : List P → Option NV) (fs : List FE) (ρ : Loc) (st : Sto) : eBi g fs ρ st = nrm st.length ((fAll fs ρ st).bind (kBi g)) := by
  show nrm st.length ((fAll fs ρ st).bind _) = _
  congr 2
def kM0 (g : List Nat → Option NV) (d : D) (s1 : Sto) : Res D := match d with
  | .p (.str a) => putO (g a) s1
  | _ => .bad
@[simp] theorem kM0_d (g : List Nat → Option NV) (a : List Nat) (s1 : Sto) : kM0 g (.p (.str a)) s1 = putO (g a) s1 := opq rfl
@[simp] theorem ev_m0 (g : List Nat → Option NV) (f : FE) (ρ : Loc) (st : Sto) : eM0 g f ρ st = nrm st.length ((f ρ st).bind (kM0 g)) := opq rfl
def put1s (g : P → Option NV) (o : Option P) (st : Sto) : Res D := put1 g o st
def kM1b (g : P → Option NV) (d2 : D) (s2 : Sto) : Res D := put1 g (asP d2 s2) s2
@[simp] theorem kM1b_d (g : P → Option NV) (d2 : D) (s2 : Sto) : kM1b g d2 s2 = put1 g (asP d2 s2) s2 := opq rfl
def kM1a (g : List Nat → P → Option NV) (f' : FE) (ρ : Loc) (d : D) (s1 : Sto) : Res D := match d with
  | .p (.str a) => (f' ρ s1).bind (kM1b (g a))
  | _ => .bad
@[simp] theorem kM1a_d (g : List Nat → P → Option NV) (f' : FE) (ρ : Loc) (a : List Nat) (s1 : Sto) : kM1a g f' ρ (.p (.str a)) s1 = (f' ρ s1).bind (kM1b (g a)) := opq rfl
@[simp] theorem ev_m1 (g : List Nat → P → Option NV) (f f' : FE) (ρ : Loc) (st : Sto) : eM1 g f f' ρ st = nrm st.length ((f ρ st).bind (kM1a g f' ρ)) := opq rfl
@[simp] theorem isL_r (i : Nat) (st : Sto) : isL (.r i) st = (lstO st[i]?).isSome := by
  show (match st[i]? with | some (.lst _) => true | _ => false) = _
  unfold lstO
  cases st[i]? with
  | none => rfl
  | some o => cases o <;> rfl
def chgO (g : List P → List P → Option (List P × P)) (i : Nat) (o : Option O) (xs : List P) (st : Sto) : Res D := match o with
  | some (.lst ys) => match g ys xs with
      | some (ys', v) => .ok (.p v) (st.set i (.lst ys'))
      | none => .bad
  | _ => .bad
@[simp] theorem chg_r (g : List P → List P → Option (List P × P)) (i : Nat) (xs : List P) (st : Sto) : chg g (.r i) xs st = chgO g i st[i]? xs st := by
  show (match st[i]? with | some (.lst ys) => _ | _ => _) = _
  unfold chgO
  cases st[i]? with
  | none => rfl
  | some o => cases o <;> rfl
def chgP (r : Option (List P × P)) (i : Nat) (st : Sto) : Res D := match r with
  | some (ys', v) => .ok (.p v) (st.set i (.lst ys'))
  | none => .bad
@[simp] theorem chgP_some (ys : List P) (v : P) (i : Nat) (st : Sto) : chgP (some (ys, v)) i st = .ok (.p v) (st.set i (.lst ys)) := opq rfl
@[simp] theorem chgO_some (g : List P → List P → Option (List P × P)) (i : Nat) (ys xs : List P) (st : Sto) : chgO g i (some (.lst ys)) xs st = chgP (g ys xs) i st := opq rfl
def mutO (g : List P → List P → Option (List P × P)) (d : D) (o : Option (List P)) (st : Sto) : Res D := match o with
    | some xs => chg g d xs st
    | none => .bad
@[simp] theorem mutO_some (g : List P → List P → Option (List P × P)) (d : D) (xs : List P) (st : Sto) : mutO g d (some xs) st = chg g d xs st := opq rfl
def kMb (g : List P → List P → Option (List P × P)) (d : D) (ds : List D) (s2 : Sto) : Res D := mutO g d (asPs ds s2) s2
@[simp] theorem kMb_d (g : List P → List P → Option (List P × P)) (d : D) (ds : List D) (s2 : Sto) : kMb g d ds s2 = mutO g d (asPs ds s2) s2 := opq rfl
def kMa (g : List P → List P → Option (List P × P)) (fs : List FE) (ρ : Loc) (d : D) (s1 : Sto) : Res D := if isL d s1 = true then (fAll fs ρ s1).bind (kMb g d) else .bad
@[simp] theorem kMa_d (g : List P → List P → Option (List P × P)) (fs : List FE) (ρ : Loc) (d : D) (s1 : Sto) : kMa g fs ρ d s1 = if isL d s1 = true then (fAll fs ρ s1).bind (kMb g d) else .bad := opq rfl
@[simp] theorem ev_mut (g : List P → List P → Option (List P × P)) (f : FE) (fs : List FE) (ρ : Loc) (st : Sto) : eMut g f fs ρ st = nrm st.length ((f ρ st).bind (kMa g fs ρ)) := by
  show nrm st.length ((f ρ st).bind _) = _
  congr 2
def kPb (g : List P → List P → Option (List P × P)) (d : D) (xs : List P) (s2 : Sto) : Res D := chg g d xs s2
@[simp] theorem kPb_d (g : List P → List P → Option (List P × P)) (d : D) (xs : List P) (s2 : Sto) : kPb g d xs s2 = chg g d xs s2 := opq rfl
def kPa (g : List P → List P → Option (List P × P)) (f' : FE) (ρ : Loc) (d : D) (s1 : Sto) : Res D := if isL d s1 = true then (fItems [(false, f')] ρ s1).bind (kPb g d) else .bad
@[simp] theorem kPa_d (g : List P → List P → Option (List P × P)) (f' : FE) (ρ : Loc) (d : D) (s1 : Sto) : kPa g f' ρ d s1 = if isL d s1 = true then (fItems [(false, f')] ρ s1).bind (kPb g d) else .bad := opq rfl
@[simp] theorem ev_app (g : List P → List P → Option (List P × P)) (f : FE) (f' : FE) (ρ : Loc) (st : Sto) : eApp g f f' ρ st = nrm st.length ((f ρ st).bind (kPa g f' ρ)) := opq rfl
@[simp] theorem app_some {ys : List P} {x : P} (h : ys.length < 16777216) : mAppend ys [x] = some (ys ++ [x], .non) := gd_pos h
@[simp] theorem ext_some {ys zs : List P} (h : ys.length + zs.length ≤ 16777216) : mExtend ys [.lst zs] = some (ys ++ zs, .non) := gd_pos h
@[simp] theorem rev_some (ys : List P) : mReverse ys [] = some (ys.reverse, .non) := opq rfl
/-! operations -/
@[simp] theorem add_i (i j : Int) : oAdd (.int i) (.int j) = some (.p (.int (i + j))) := opq rfl
@[simp] theorem add_s {a b : List Nat} (h : a.length + b.length ≤ 16777216) : oAdd (.str a) (.str b) = some (.p (.str (a ++ b))) := gd_pos h
@[simp] theorem add_t {a b : List P} (h : a.length + b.length ≤ 16777216) : oAdd (.tup a) (.tup b) = some (.p (.tup (a ++ b))) := gd_pos h
@[simp] theorem add_l {a b : List P} (h : a.length + b.length ≤ 16777216) : oAdd (.lst a) (.lst b) = some (.l (a ++ b)) := gd_pos h
@[simp] theorem sub_i (i j : Int) : oSub (.int i) (.int j) = some (.p (.int (i - j))) := opq rfl
@[simp] theorem mul_i {i j : Int} (h : (-(2 ^ 64) < i ∧ i < 2 ^ 64) ∨ (-(2 ^ 64) < j ∧ j < 2 ^ 64)) : oMul (.int i) (.int j) = some (.p (.int (i * j))) := gd_pos h
@[simp] theorem div_i {i j : Int} (h : 0 < j ∧ j < 1073741824) : oDiv (.int i) (.int j) = some (.p (.int (i / j))) := gd_pos h
@[simp] theorem mod_i {i j : Int} (h : 0 < j) : oMod (.int i) (.int j) = some (.p (.int (i % j))) := gd_pos h
@[simp] theorem neg_i (i : Int) : oNeg (.int i) = some (.p (.int (-i))) := opq rfl
@[simp] theorem lt_i (i j : Int) : oLt (.int i) (.int j) = some (.p (.bl (decide (i < j)))) := opq rfl
@[simp] theorem le_i (i j : Int) : oLe (.int i) (.int j) = some (.p (.bl (decide (i ≤ j)))) := opq rfl
@[simp] theorem gt_i (i j : Int) : oGt (.int i) (.int j) = some (.p (.bl (decide (j < i)))) := opq rfl
@[simp] theorem ge_i (i j : Int) : oGe (.int i) (.int j) = some (.p (.bl (decide (j ≤ i)))) := opq rfl
@[simp] theorem eq_s (a b : List Nat) : oEq (.str a) (.str b) = some (.p (.bl (a == b))) := oEq_str a b
@[simp] theorem ne_s (a b : List Nat) : oNe (.str a) (.str b) = some (.p (.bl (!(a == b)))) := oNe_str a b
@[simp] theorem eq_i (a b : Int) : oEq (.int a) (.int b) = some (.p (.bl (a == b))) := oEq_int a b
@[simp] theorem ne_i (a b : Int) : oNe (.int a) (.int b) = some (.p (.bl (!(a == b)))) := oNe_int a b
@[simp] theorem isT_d (t : Ty) (x : P) : oIsT t x = some (.p (.bl (isT t x))) := opq rfl
@[simp] theorem isT_ii (i : Int) : isT .int (.int i) = true := opq rfl
@[simp] theorem isT_is (i : List Nat) : isT .int (.str i) = false := opq rfl
@[simp] theorem isT_it (i : List P) : isT .int (.tup i) = false := opq rfl
@[simp] theorem isT_ll (i : List P) : isT .list (.lst i) = true := opq rfl
@[simp] theorem isT_tt (i : List P) : isT .tuple (.tup i) = true := opq rfl
@[simp] theorem isT_ti (i : Int) : isT .tuple (.int i) = false := opq rfl
@[simp] theorem isT_ts (i : List Nat) : isT .tuple (.str i) = false := opq rfl
@[simp] theorem bInt_i (i : Int) : bInt [.int i] = some (.p (.int i)) := opq rfl
theorem bAbs_i (i : Int) : bAbs [.int i] = some (.p (.int (if i < 0 then -i else i))) := opq rfl
@[simp] theorem bLen_l (xs : List P) : bLen [.lst xs] = some (.p (.int xs.length)) := opq rfl
@[simp] theorem bLen_t (xs : List P) : bLen [.tup xs] = some (.p (.int xs.length)) := opq rfl
@[simp] theorem bLen_ro (xs : List P) : bLen [.ro xs] = some (.p (.int xs.length)) := opq rfl
@[simp] theorem bLen_s {s : List Nat} (h : s.length ≤ 16777216) : bLen [.str s] = some (.p (.int s.length)) := gd_pos h
@[simp] theorem bTuple_l (xs : List P) : bTuple [.lst xs] = some (.p (.tup xs)) := opq rfl
@[simp] theorem bTuple_t (xs : List P) : bTuple [.tup xs] = some (.p (.tup xs)) := opq rfl
@[simp] theorem bList_l (xs : List P) : bList [.lst xs] = some (.l xs) := opq rfl
@[simp] theorem bList_t (xs : List P) : bList [.tup xs] = some (.l xs) := opq rfl
theorem log_small {i : Int} (h0 : -1000000000000000000 ≤ i) (h : i ≤ 1000000000000000000) : i.natAbs.log2 < 1920 := by
  have h1 : i.natAbs < 2 ^ 64 := by
    have : (2 : Nat) ^ 64 = 18446744073709551616 := by decide
    omega
  by_cases z : i.natAbs = 0
  · rw [z]; decide
  · exact Nat.lt_trans ((Nat.log2_lt z).mpr h1) (by decide)
@[simp] theorem bStr_i {i : Int} (h0 : -1000000000000000000 ≤ i) (h : i ≤ 1000000000000000000) : bStr [.int i] = some (.p (.str (intL i))) := gd_pos (log_small h0 h)
@[simp] theorem bAll_b (bs : List Bool) : bAll [.lst (bs.map .bl)] = some (.p (.bl (bs.all id))) := by
  show (asBls (bs.map .bl)).map _ = _
  rw [asBls_map]
  rfl
@[simp] theorem bAny_b (bs : List Bool) : bAny [.lst (bs.map .bl)] = some (.p (.bl (bs.any id))) := by
  show (asBls (bs.map .bl)).map _ = _
  rw [asBls_map]
  rfl
@[simp] theorem idx_t (xs : List P) (i : Int) : oIdx (.tup xs) (.int i) = (atI xs i).map .p := opq rfl
@[simp] theorem idx_l (xs : List P) (i : Int) : oIdx (.lst xs) (.int i) = (atI xs i).map .p := opq rfl
@[simp] theorem idx_ro (xs : List P) (i : Int) : oIdx (.ro xs) (.int i) = (atI xs i).map .p := opq rfl
@[simp] theorem idx_s {s : List Nat} {i : Int} (h : s.length ≤ 16777216) : oIdx (.str s) (.int i) = (atI s i).map fun c => .p (.str [c]) := gd_pos h
@[simp] theorem atI_nat {α : Type} (xs : List α) (n : Nat) : atI xs (n : Int) = xs[n]? := by
  unfold atI ixN
  by_cases h : n < xs.length
  · simp [h]
  · simp [h, List.getElem?_eq_none (Nat.not_lt.mp h)]
@[simp] theorem atI_2 {α : Type} (xs : List α) : atI xs 2 = xs[2]? := atI_nat xs 2
@[simp] theorem atI_3 {α : Type} (xs : List α) : atI xs 3 = xs[3]? := atI_nat xs 3
@[simp] theorem atI_4 {α : Type} (xs : List α) : atI xs 4 = xs[4]? := atI_nat xs 4
@[simp] theorem atI_5 {α : Type} (xs : List α) : atI xs 5 = xs[5]? := atI_nat xs 5
@[simp] theorem atI_6 {α : Type} (xs : List α) : atI xs 6 = xs[6]? := atI_nat xs 6
@[simp] theorem atI_7 {α : Type} (xs : List α) : atI xs 7 = xs[7]? := atI_nat xs 7
@[simp] theorem atI_8 {α : Type} (xs : List α) : atI xs 8 = xs[8]? := atI_nat xs 8
@[simp] theorem atI_9 {α : Type} (xs : List α) : atI xs 9 = xs[9]? := atI_nat xs 9
@[simp] theorem atI_10 {α : Type} (xs : List α) : atI xs 10 = xs[10]? := atI_nat xs 10
@[simp] theorem atI_11 {α : Type} (xs : List α) : atI xs 11 = xs[11]? := atI_nat xs 11
@[simp] theorem atI_12 {α : Type} (xs : List α) : atI xs 12 = xs[12]? := atI_nat xs 12
@[simp] theorem filter_tt {α : Type} (xs : List α) : xs.filter (fun _ => true) = xs := List.filter_eq_self.mpr fun _ _ => rfl
@[simp] theorem atI_zero {α : Type} (xs : List α) : atI xs 0 = xs[0]? := atI_nat xs 0
@[simp] theorem atI_one {α : Type} (xs : List α) : atI xs 1 = xs[1]? := atI_nat xs 1
theorem atI_in {α : Type} {xs : List α} {i : Int} (h1 : 0 ≤ i) (h2 : i < xs.length) : ∃ x ∈ xs, atI xs i = some x ∧ xs[i.toNat]? = some x := by
  obtain ⟨n, rfl⟩ := Int.eq_ofNat_of_zero_le h1
  have h : n < xs.length := by omega
  exact ⟨xs[n], List.getElem_mem h, by rw [atI_nat, List.getElem?_eq_getElem h], by simp [h]⟩
@[simp] theorem atI_map {α β : Type} (f : α → β) (xs : List α) (i : Int) : atI (xs.map f) i = (atI xs i).map f := by
  unfold atI
  simp only [List.length_map]
  cases ixN xs.length i <;> simp
/-! slices, tests -/
@[simp] theorem part_no (ρ : Loc) (st : Sto) : fPart none ρ st = .ok none st := opq rfl
def onI (d : D) (st : Sto) : Res (Option Int) := match d with
  | .p (.int i) => .ok (some i) st
  | _ => .bad
@[simp] theorem onI_i (i : Int) (st : Sto) : onI (.p (.int i)) st = .ok (some i) st := opq rfl
@[simp] theorem part_some (f : FE) (ρ : Loc) (st : Sto) : fPart (some f) ρ st = (f ρ st).bind onI := opq rfl
def slO (l h : Option Int) (o : Option P) (st : Sto) : Res D := match o with
  | some x => putO (oSl x l h) st
  | none => .bad
@[simp] theorem slO_some (l h : Option Int) (x : P) (st : Sto) : slO l h (some x) st = putO (oSl x l h) st := opq rfl
def kSc (d1 : D) (l : Option Int) (h : Option Int) (s3 : Sto) : Res D := slO l h (asP d1 s3) s3
@[simp] theorem kSc_d (d1 : D) (l : Option Int) (h : Option Int) (s3 : Sto) : kSc d1 l h s3 = slO l h (asP d1 s3) s3 := opq rfl
def kSlb (fh : Option FE) (ρ : Loc) (d1 : D) (l : Option Int) (s2 : Sto) : Res D := (fPart fh ρ s2).bind (kSc d1 l)
@[simp] theorem kSlb_d (fh : Option FE) (ρ : Loc) (d1 : D) (l : Option Int) (s2 : Sto) : kSlb fh ρ d1 l s2 = (fPart fh ρ s2).bind (kSc d1 l) := opq rfl
def kSla (fl fh : Option FE) (ρ : Loc) (d1 : D) (s1 : Sto) : Res D := (fPart fl ρ s1).bind (kSlb fh ρ d1)
@[simp] theorem kSla_d (fl fh : Option FE) (ρ : Loc) (d1 : D) (s1 : Sto) : kSla fl fh ρ d1 s1 = (fPart fl ρ s1).bind (kSlb fh ρ d1) := opq rfl
@[simp] theorem ev_sl (fa : FE) (fl fh : Option FE) (ρ : Loc) (st : Sto) : eSl fa fl fh ρ st = nrm st.length ((fa ρ st).bind (kSla fl fh ρ)) := by
  show nrm st.length ((fa ρ st).bind _) = _
  congr 2
@[simp] theorem sl_t (xs : List P) (l h : Option Int) : oSl (.tup xs) l h = some (.p (.tup (cut xs l h))) := opq rfl
@[simp] theorem sl_l (xs : List P) (l h : Option Int) : oSl (.lst xs) l h = some (.l (cut xs l h)) := opq rfl
@[simp] theorem sl_s {s : List Nat} {l h : Option Int} (g : s.length ≤ 16777216) : oSl (.str s) l h = some (.p (.str (cut s l h))) := gd_pos g
@[simp] theorem cut_all {α : Type} (xs : List α) : cut xs none none = xs := by simp [cut, sIx]
@[simp] theorem cut_map {α β : Type} (f : α → β) (xs : List α) (l h : Option Int) : cut (xs.map f) l h = (cut xs l h).map f := by simp [cut]
@[simp] theorem cut_take {α : Type} (xs : List α) (n : Nat) : cut xs none (some (n : Int)) = xs.take n := by
  have h : ¬ (n : Int) < 0 := by omega
  simp only [cut, sIx, h, if_false, List.drop_zero, Nat.sub_zero, Int.toNat_natCast]
  rcases Nat.le_total n xs.length with z | z
  · rw [Nat.min_eq_left z]
  · rw [Nat.min_eq_right z, List.take_length, List.take_of_length_le z]
@[simp] theorem cut_take1 {α : Type} (xs : List α) (n : Nat) : cut xs none (some (1 + (n : Int))) = xs.take (1 + n) := by
  rw [show (1 : Int) + n = ((1 + n : Nat) : Int) by omega, cut_take]
@[simp] theorem cut_take2 {α : Type} (xs : List α) (n : Nat) : cut xs none (some ((n : Int) + 1)) = xs.take (n + 1) := by
  rw [show (n : Int) + 1 = ((n + 1 : Nat) : Int) by omega, cut_take]
@[simp] theorem cut_drop {α : Type} (xs : List α) (n : Nat) : cut xs (some (n : Int)) none = xs.drop n := by
  have h : ¬ (n : Int) < 0 := by omega
  simp only [cut, sIx, h, if_false, Int.toNat_natCast]
  rcases Nat.le_total n xs.length with z | z
  · rw [Nat.min_eq_left z, List.take_of_length_le (by simp)]
  · rw [Nat.min_eq_right z, List.drop_length, List.drop_eq_nil_of_le z]
    simp
@[simp] theorem cut_drop1 {α : Type} (xs : List α) : cut xs (some 1) none = xs.drop 1 := cut_drop xs 1
@[simp] theorem pop0 (x : P) (xs : List P) : mPop (x :: xs) [.int 0] = some (xs, x) := by
  show (ixN (xs.length + 1) 0).bind _ = _
  simp [ixN]
def kT (d : D) (s1 : Sto) : Res Bool := match d with
  | .p (.bl b) => .ok b s1
  | _ => .bad
@[simp] theorem kT_d (b : Bool) (s1 : Sto) : kT (.p (.bl b)) s1 = .ok b s1 := opq rfl
@[simp] theorem ev_tOf (f : FE) (ρ : Loc) (st : Sto) : tOf f ρ st = (nrm st.length (f ρ st)).bind kT := opq rfl
def kTA (g : FT) (ρ : Loc) (b : Bool) (s1 : Sto) : Res Bool := if b = true then g ρ s1 else .ok false s1
@[simp] theorem kTA_d (g : FT) (ρ : Loc) (b : Bool) (s1 : Sto) : kTA g ρ b s1 = if b = true then g ρ s1 else .ok false s1 := opq rfl
@[simp] theorem ev_tAnd (f g : FT) (ρ : Loc) (st : Sto) : tAnd f g ρ st = (f ρ st).bind (kTA g ρ) := opq rfl
def kTO (g : FT) (ρ : Loc) (b : Bool) (s1 : Sto) : Res Bool := if b = true then .ok true s1 else g ρ s1
@[simp] theorem kTO_d (g : FT) (ρ : Loc) (b : Bool) (s1 : Sto) : kTO g ρ b s1 = if b = true then .ok true s1 else g ρ s1 := opq rfl
@[simp] theorem ev_tOr (f g : FT) (ρ : Loc) (st : Sto) : tOr f g ρ st = (f ρ st).bind (kTO g ρ) := opq rfl
def kTN (b : Bool) (s1 : Sto) : Res Bool := .ok (!b) s1
@[simp] theorem kTN_d (b : Bool) (s1 : Sto) : kTN b s1 = .ok (!b) s1 := opq rfl
@[simp] theorem ev_tNot (f : FT) (ρ : Loc) (st : Sto) : tNot f ρ st = (f ρ st).bind kTN := opq rfl
@[simp] theorem ev_tTrue (ρ : Loc) (st : Sto) : tTrue ρ st = .ok true st := opq rfl
def kEA (g : FE) (ρ : Loc) (d : D) (s1 : Sto) : Res D := match d with
  | .p (.bl b) => if b = true then g ρ s1 else .ok (.p (.bl false)) s1
  | _ => .bad
@[simp] theorem kEA_d (g : FE) (ρ : Loc) (b : Bool) (s1 : Sto) : kEA g ρ (.p (.bl b)) s1 = if b = true then g ρ s1 else .ok (.p (.bl false)) s1 := opq rfl
@[simp] theorem ev_and (f g : FE) (ρ : Loc) (st : Sto) : eAnd f g ρ st = (f ρ st).bind (kEA g ρ) := opq rfl
def kEO (g : FE) (ρ : Loc) (d : D) (s1 : Sto) : Res D := match d with
  | .p (.bl b) => if b = true then .ok (.p (.bl true)) s1 else g ρ s1
  | _ => .bad
@[simp] theorem kEO_d (g : FE) (ρ : Loc) (b : Bool) (s1 : Sto) : kEO g ρ (.p (.bl b)) s1 = if b = true then .ok (.p (.bl true)) s1 else g ρ s1 := opq rfl
@[simp] theorem ev_or (f g : FE) (ρ : Loc) (st : Sto) : eOr f g ρ st = (f ρ st).bind (kEO g ρ) := opq rfl
def kEN (d : D) (s1 : Sto) : Res D := match d with
  | .p (.bl b) => .ok (.p (.bl (!b))) s1
  | _ => .bad
@[simp] theorem kEN_d (b : Bool) (s1 : Sto) : kEN (.p (.bl b)) s1 = .ok (.p (.bl (!b))) s1 := opq rfl
@[simp] theorem ev_not (f : FE) (ρ : Loc) (st : Sto) : eNot f ρ st = (f ρ st).bind kEN := opq rfl
def kEI (f g : FE) (ρ : Loc) (b : Bool) (s1 : Sto) : Res D := if b = true then f ρ s1 else g ρ s1
@[simp] theorem kEI_d (f g : FE) (ρ : Loc) (b : Bool) (s1 : Sto) : kEI f g ρ b s1 = if b = true then f ρ s1 else g ρ s1 := opq rfl
@[simp] theorem ev_if (c : FT) (f g : FE) (ρ : Loc) (st : Sto) : eIf c f g ρ st = (c ρ st).bind (kEI f g ρ) := opq rfl
def kCc (h : P → P → Option NV) (d2 d3 : D) (s3 : Sto) : Res D := put2 h (asP d2 s3) (asP d3 s3) s3
@[simp] theorem kCc_d (h : P → P → Option NV) (d2 d3 : D) (s3 : Sto) : kCc h d2 d3 s3 = put2 h (asP d2 s3) (asP d3 s3) s3 := opq rfl
def chN (o : Option NV) (h : P → P → Option NV) (fc : FE) (ρ : Loc) (d2 : D) (s2 : Sto) : Res D := match o with
  | some (.p (.bl true)) => (fc ρ s2).bind (kCc h d2)
  | some (.p (.bl false)) => .ok (.p (.bl false)) s2
  | _ => .bad
@[simp] theorem chN_b (b : Bool) (h : P → P → Option NV) (fc : FE) (ρ : Loc) (d2 : D) (s2 : Sto) : chN (some (.p (.bl b))) h fc ρ d2 s2 = if b = true then (fc ρ s2).bind (kCc h d2) else .ok (.p (.bl false)) s2 := by cases b <;> rfl
def ch2 (g : P → P → Option NV) (o1 o2 : Option P) : Option NV := match o1, o2 with
  | some x, some y => g x y
  | _, _ => none
@[simp] theorem ch2_some (g : P → P → Option NV) (x y : P) : ch2 g (some x) (some y) = g x y := opq rfl
def kCb (g h : P → P → Option NV) (fc : FE) (ρ : Loc) (d1 d2 : D) (s2 : Sto) : Res D := chN (ch2 g (asP d1 s2) (asP d2 s2)) h fc ρ d2 s2
@[simp] theorem kCb_d (g h : P → P → Option NV) (fc : FE) (ρ : Loc) (d1 d2 : D) (s2 : Sto) : kCb g h fc ρ d1 d2 s2 = chN (ch2 g (asP d1 s2) (asP d2 s2)) h fc ρ d2 s2 := opq rfl
def kCa (g h : P → P → Option NV) (fb fc : FE) (ρ : Loc) (d1 : D) (s1 : Sto) : Res D := (fb ρ s1).bind (kCb g h fc ρ d1)
@[simp] theorem kCa_d (g h : P → P → Option NV) (fb fc : FE) (ρ : Loc) (d1 : D) (s1 : Sto) : kCa g h fb fc ρ d1 s1 = (fb ρ s1).bind (kCb g h fc ρ d1) := opq rfl
@[simp] theorem ev_chain (g h : P → P → Option NV) (fa fb fc : FE) (ρ : Loc) (st : Sto) : eChain g h fa fb fc ρ st = nrm st.length ((fa ρ st).bind (kCa g h fb fc ρ)) := by
  unfold eChain
  congr 2
  funext d1 s1
  show _ = (fb ρ s1).bind _
  congr 1
  funext d2 s2
  show _ = chN (ch2 g (asP d1 s2) (asP d2 s2)) h fc ρ d2 s2
  unfold ch2
  cases asP d1 s2 with
  | none => rfl
  | some x =>
    cases e : asP d2 s2 with
    | none => rfl
    | some y =>
      show (match g x y with | some (.p (.bl true)) => _ | some (.p (.bl false)) => _ | _ => _) = chN (g x y) _ _ _ _ _
      rcases g x y with _ | (_ | (_ | _) | _ | _ | _ | _ | _) | _ <;> first | rfl | (unfold chN; congr 1; funext d3 s3; unfold kCc put2; rw [e]; rfl)
/-! calls -/
@[simp] theorem refs_nil : refs [] = [] := opq rfl
@[simp] theorem refs_pc (x : P) (r : List D) : refs (.p x :: r) = refs r := opq rfl
@[simp] theorem refs_rc (i : Nat) (r : List D) : refs (.r i :: r) = if i ∈ refs r then refs r else i :: refs r := opq rfl
@[simp] theorem ren_p' (l : List Nat) (x : P) : ren l (.p x) = .p x := opq rfl
@[simp] theorem ren_r (l : List Nat) (i : Nat) : ren l (.r i) = .r (l.idxOf i) := opq rfl
@[simp] theorem idxOf_c (a i : Nat) (l : List Nat) : List.idxOf i (a :: l) = if a = i then 0 else List.idxOf i l + 1 := by
  rw [List.idxOf_cons]
  by_cases h : a = i
  · simp [h]
  · rw [if_neg h, show (a == i) = false from by simp [h]]
    rfl
@[simp] theorem back_nil (new st : Sto) : back [] new st = st := by cases new <;> rfl
@[simp] theorem back_cons (i : Nat) (l : List Nat) (o : O) (new st : Sto) : back (i :: l) (o :: new) st = back l new (st.set i o) := opq rfl
def isoE (l : List Nat) (st : Sto) (r : Res D) : Res D := match r with
    | .ok (.p x) s => .ok (.p x) (back l s st)
    | .ok (.r j) s => if j < l.length then .ok (.r (l.getD j 0)) (back l s st) else match s[j]? with
      | some o => .ok (.r st.length) (back l s st ++ [o])
      | none => .bad
    | .exc x s => .exc x (back l s st)
    | .bad => .bad
@[simp] theorem isoE_p (l : List Nat) (st : Sto) (x : P) (s : Sto) : isoE l st (.ok (.p x) s) = .ok (.p x) (back l s st) := opq rfl
@[simp] theorem isoE_r (l : List Nat) (st : Sto) (j : Nat) (s : Sto) : isoE l st (.ok (.r j) s) = if j < l.length then .ok (.r (l.getD j 0)) (back l s st) else match s[j]? with
      | some o => .ok (.r st.length) (back l s st ++ [o])
      | none => .bad := opq rfl
@[simp] theorem isoE_x (l : List Nat) (st : Sto) (x : Exn) (s : Sto) : isoE l st (.exc x s) = .exc x (back l s st) := opq rfl
@[simp] theorem ev_iso (F : FF) (ds : List D) (st : Sto) : iso F ds st = if (refs ds).all (· < st.length) = true then isoE (refs ds) st (F (ds.map (ren (refs ds))) ((refs ds).map fun i => st.getD i .gone)) else .bad := opq rfl
@[simp] theorem ev_call (F : FF) (fs : List FE) (ρ : Loc) (st : Sto) : eCall F fs ρ st = nrm st.length ((fAll fs ρ st).bind (iso F)) := opq rfl
/-! statements -/
@[simp] theorem ev_pass (ρ : Loc) (st : Sto) : sPass ρ st = .next ρ st := opq rfl
@[simp] theorem ev_brk (ρ : Loc) (st : Sto) : sBrk ρ st = .brk ρ st := opq rfl
@[simp] theorem ev_cont (ρ : Loc) (st : Sto) : sCont ρ st = .cont ρ st := opq rfl
def kAsg (i : Nat) (ρ : Loc) (d : D) (s1 : Sto) : RS := .next (ρ.set i (some d)) s1
@[simp] theorem kAsg_d (i : Nat) (ρ : Loc) (d : D) (s1 : Sto) : kAsg i ρ d s1 = .next (ρ.set i (some d)) s1 := opq rfl
@[simp] theorem ev_asg (i : Nat) (f : FE) (ρ : Loc) (st : Sto) : sAsg i f ρ st = RS.of ρ (f ρ st) (kAsg i ρ) := opq rfl
def kFrz (x : P) (s1 : Sto) : Res D := .ok (.p x) s1
@[simp] theorem kFrz_d (x : P) (s1 : Sto) : kFrz x s1 = .ok (.p x) s1 := opq rfl
@[simp] theorem ev_frz (f : FE) (ρ : Loc) (st : Sto) : eFrz f ρ st = (frz st.length (f ρ st)).bind kFrz := opq rfl
def asgMO (b i n : Nat) (o : Option (Option D)) (d : D) (ρ : Loc) (s1 : Sto) : RS := match o, d with
  | some (some (.r j)), .r k => if (decide (b ≤ j) && decide (k + 1 = s1.length) && decide (j < k) && decide (n ≤ k) && !((ρ.set i none).any (hasR j))) = true then match s1[k]? with
      | some o => .next (ρ.set i (some (.r j))) ((s1.set j o).take k)
      | none => .bad
    else .next (ρ.set i (some d)) s1
  | _, _ => .next (ρ.set i (some d)) s1
def kAsgM (b i n : Nat) (ρ : Loc) (d : D) (s1 : Sto) : RS := asgMO b i n ρ[i]? d ρ s1
@[simp] theorem kAsgM_d (b i n : Nat) (ρ : Loc) (d : D) (s1 : Sto) : kAsgM b i n ρ d s1 = asgMO b i n ρ[i]? d ρ s1 := opq rfl
@[simp] theorem ev_asgM (b i : Nat) (f : FE) (ρ : Loc) (st : Sto) : sAsgM b i f ρ st = RS.of ρ (f ρ st) (kAsgM b i st.length ρ) := by
  unfold sAsgM
  congr 1
@[simp] theorem asgMO_rr (b i n j k : Nat) (ρ : Loc) (s1 : Sto) : asgMO b i n (some (some (.r j))) (.r k) ρ s1 = if (decide (b ≤ j) && decide (k + 1 = s1.length) && decide (j < k) && decide (n ≤ k) && !((ρ.set i none).any (hasR j))) = true then match s1[k]? with
      | some o => .next (ρ.set i (some (.r j))) ((s1.set j o).take k)
      | none => .bad
    else .next (ρ.set i (some (.r k))) s1 := opq rfl
def kEx (n : Nat) (ρ : Loc) (d : D) (s1 : Sto) : RS := .next ρ (s1.take n)
@[simp] theorem kEx_d (n : Nat) (ρ : Loc) (d : D) (s1 : Sto) : kEx n ρ d s1 = .next ρ (s1.take n) := opq rfl
@[simp] theorem ev_expr (f : FE) (ρ : Loc) (st : Sto) : sExpr f ρ st = RS.of ρ (f ρ st) (kEx st.length ρ) := opq rfl
@[simp] theorem ev_ret (f : FE) (ρ : Loc) (st : Sto) : sRet f ρ st = RS.of ρ (f ρ st) RS.ret := opq rfl
@[simp] theorem ev_retN (ρ : Loc) (st : Sto) : sRetN ρ st = .ret (.p .non) st := opq rfl
def kIf (a b : FS) (ρ : Loc) (k : Bool) (s1 : Sto) : RS := if k = true then a ρ s1 else b ρ s1
@[simp] theorem kIf_d (a b : FS) (ρ : Loc) (k : Bool) (s1 : Sto) : kIf a b ρ k s1 = if k = true then a ρ s1 else b ρ s1 := opq rfl
@[simp] theorem ev_sIf (c : FT) (a b : FS) (ρ : Loc) (st : Sto) : sIf c a b ρ st = RS.of ρ (c ρ st) (kIf a b ρ) := opq rfl
def setO (i : Nat) (o : Option O) (j : Int) (x : P) (ρ : Loc) (st : Sto) : RS := match o with
    | some (.lst ys) => match ixN ys.length j with
      | some m => .next ρ (st.set i (.lst (ys.set m x)))
      | none => .bad
    | _ => .bad
def setD (d k : D) (x : P) (ρ : Loc) (st : Sto) : RS := match d, k with
  | .r i, .p (.int j) => setO i st[i]? j x ρ st
  | _, _ => .bad
@[simp] theorem setD_ri (i : Nat) (j : Int) (x : P) (ρ : Loc) (st : Sto) : setD (.r i) (.p (.int j)) x ρ st = setO i st[i]? j x ρ st := opq rfl
@[simp] theorem setO_some (i : Nat) (ys : List P) (j : Int) (x : P) (ρ : Loc) (st : Sto) : setO i (some (.lst ys)) j x ρ st = match ixN ys.length j with
      | some m => .next ρ (st.set i (.lst (ys.set m x)))
      | none => .bad := opq rfl
def kZc (x : P) (d : D) (ρ : Loc) (k : D) (s3 : Sto) : RS := setD d k x ρ s3
@[simp] theorem kZc_d (x : P) (d : D) (ρ : Loc) (k : D) (s3 : Sto) : kZc x d ρ k s3 = setD d k x ρ s3 := opq rfl
def kZb (fi : FE) (x : P) (ρ : Loc) (d : D) (s2 : Sto) : RS := RS.of ρ (nrm s2.length (fi ρ s2)) (kZc x d ρ)
@[simp] theorem kZb_d (fi : FE) (x : P) (ρ : Loc) (d : D) (s2 : Sto) : kZb fi x ρ d s2 = RS.of ρ (nrm s2.length (fi ρ s2)) (kZc x d ρ) := opq rfl
def kZa (fo fi : FE) (ρ : Loc) (x : P) (s1 : Sto) : RS := RS.of ρ (fo ρ s1) (kZb fi x ρ)
@[simp] theorem kZa_d (fo fi : FE) (ρ : Loc) (x : P) (s1 : Sto) : kZa fo fi ρ x s1 = RS.of ρ (fo ρ s1) (kZb fi x ρ) := opq rfl
@[simp] theorem ev_set (fo fi f : FE) (ρ : Loc) (st : Sto) : sSet fo fi f ρ st = RS.of ρ (fPure f ρ st) (kZa fo fi ρ) := by
  unfold sSet
  congr 1
@[simp] theorem ev_raise (c : Nat) (ρ : Loc) (st : Sto) : sRaise c ρ st = .exc ⟨c, none⟩ ρ st := opq rfl
def kRf (c : Nat) (ρ : Loc) (x : P) (s1 : Sto) : RS := .exc ⟨c, some x⟩ ρ s1
@[simp] theorem kRf_d (c : Nat) (ρ : Loc) (x : P) (s1 : Sto) : kRf c ρ x s1 = .exc ⟨c, some x⟩ ρ s1 := opq rfl
@[simp] theorem ev_raiseF (c : Nat) (f : FE) (ρ : Loc) (st : Sto) : sRaiseF c f ρ st = RS.of ρ (fPure f ρ st) (kRf c ρ) := opq rfl
def tryQ (i : Option Nat) (sub : Nat → Bool) (suite : Exn → FS) (r : RS) : RS := match r with
  | .exc x ρ' st' => if sub x.cls = true then (if inb i ρ' = true then (suite x (clr i ρ') st').tame i else .bad) else .exc x ρ' st'
  | r => r
@[simp] theorem ev_try (i : Option Nat) (body : FS) (sub : Nat → Bool) (suite : Exn → FS) (ρ : Loc) (st : Sto) : sTry i body sub suite ρ st = tryQ i sub suite (body ρ st) := opq rfl
@[simp] theorem tryQ_exc (i : Option Nat) (sub : Nat → Bool) (suite : Exn → FS) (x : Exn) (ρ : Loc) (st : Sto) : tryQ i sub suite (.exc x ρ st) = if sub x.cls = true then (if inb i ρ = true then (suite x (clr i ρ) st).tame i else .bad) else .exc x ρ st := opq rfl
@[simp] theorem tryQ_next (i : Option Nat) (sub : Nat → Bool) (suite : Exn → FS) (ρ : Loc) (st : Sto) : tryQ i sub suite (.next ρ st) = .next ρ st := opq rfl
@[simp] theorem tryQ_ret (i : Option Nat) (sub : Nat → Bool) (suite : Exn → FS) (d : D) (st : Sto) : tryQ i sub suite (.ret d st) = .ret d st := opq rfl
@[simp] theorem tryQ_ite (i : Option Nat) (sub : Nat → Bool) (suite : Exn → FS) (c : Prop) [Decidable c] (a b : RS) : tryQ i sub suite (if c then a else b) = if c then tryQ i sub suite a else tryQ i sub suite b := by split <;> rfl
@[simp] theorem inb_some (i : Nat) (ρ : Loc) : inb (some i) ρ = decide (i < ρ.length) := opq rfl
@[simp] theorem inb_none (ρ : Loc) : inb none ρ = true := opq rfl
@[simp] theorem clr_some (i : Nat) (ρ : Loc) : clr (some i) ρ = ρ.set i none := opq rfl
@[simp] theorem clr_none (ρ : Loc) : clr none ρ = ρ := opq rfl
@[simp] theorem tame_next (i : Option Nat) (ρ : Loc) (st : Sto) : (RS.next ρ st).tame i = .next (clr i ρ) st := opq rfl
@[simp] theorem tame_brk (i : Option Nat) (ρ : Loc) (st : Sto) : (RS.brk ρ st).tame i = .brk (clr i ρ) st := opq rfl
@[simp] theorem tame_cont (i : Option Nat) (ρ : Loc) (st : Sto) : (RS.cont ρ st).tame i = .cont (clr i ρ) st := opq rfl
@[simp] theorem tame_ret (i : Option Nat) (d : D) (st : Sto) : (RS.ret d st).tame i = .ret d st := opq rfl
def retWO (o : Option Bool) (st : Sto) : RS := match o with
  | some b => .ret (.p (.bl b)) st
  | none => .bad
@[simp] theorem retWO_some (b : Bool) (st : Sto) : retWO (some b) st = .ret (.p (.bl b)) st := opq rfl
@[simp] theorem ev_retW (q : Exn → Option Bool) (x : Exn) (ρ : Loc) (st : Sto) : sRetW q x ρ st = retWO (q x) st := opq rfl
@[simp] theorem ev_wIs (sub : Nat → Bool) (x : Exn) : wIs sub x = some (sub x.cls) := opq rfl
@[simp] theorem ev_wAnd (q r : Exn → Option Bool) (x : Exn) : wAnd q r x = (q x).bind fun b => if b = true then r x else some false := opq rfl
@[simp] theorem ev_wNot (q : Exn → Option Bool) (x : Exn) : wNot q x = (q x).map fun b => !b := opq rfl
def RS.fin (r : RS) : Res D := match r with
  | .next _ s => .ok (.p .non) s
  | .ret d s => .ok d s
  | .exc x _ s => .exc x s
  | _ => .bad
@[simp] theorem fin_next (ρ : Loc) (s : Sto) : (RS.next ρ s).fin = .ok (.p .non) s := opq rfl
@[simp] theorem fin_ret (d : D) (s : Sto) : (RS.ret d s).fin = .ok d s := opq rfl
@[simp] theorem fin_exc (x : Exn) (ρ : Loc) (s : Sto) : (RS.exc x ρ s).fin = .exc x s := opq rfl
@[simp] theorem fin_ite (c : Prop) [Decidable c] (a b : RS) : (if c then a else b).fin = if c then a.fin else b.fin := by split <;> rfl
@[simp] theorem ev_def (n : Nat) (body : FS) (ds : List D) (st : Sto) : fDef n body ds st = (body (ds.map some ++ List.replicate (n - ds.length) none) st).fin := opq rfl
@[simp] theorem ev_defB (n : Nat) (body : Nat → FS) (ds : List D) (st : Sto) : fDefB n body ds st = (body st.length (ds.map some ++ List.replicate (n - ds.length) none) st).fin := opq rfl
@[simp] theorem ixN_pos {n : Nat} {k : Nat} (h : k < n) : ixN n (k : Int) = some k := by simp [ixN, h]
@[simp] theorem ixN_zero {n : Nat} (h : 0 < n) : ixN n 0 = some 0 := by simp [ixN, h]
end Pd
end

section -- PdLoop
set_option linter.all false
set_option autoImplicit false
set_option maxRecDepth 100000
/-! PdLoop: loops and comprehensions by an abstract state. -/
namespace Pd
@[simp high] theorem fro_p' (n : Nat) (x : P) (st : Sto) : fro n (.ok (.p x) st) = .ok (.p x) (st.take n) := opq rfl
/-! what is walked -/
@[simp] theorem fro_ite (n : Nat) (c : Prop) [Decidable c] (a b : Res D) : fro n (if c then a else b) = if c then fro n a else fro n b := by split <;> rfl
@[simp] theorem fro_r (n i : Nat) (st : Sto) : fro n (.ok (.r i) st) = if i + 1 = st.length ∧ n ≤ i then (match lstO st[i]? with | some x => .ok (.p x) (st.take n) | none => .bad) else if i < n then .ok (.r i) (st.take n) else .bad := by
  show (if _ then _ else _) = _
  split
  · cases st[i]? with
    | none => rfl
    | some o => cases o <;> rfl
  · rfl
def walkO (o : Option (List P)) (d : D) (st : Sto) : Res (List P × D) := match o with
  | some xs => .ok (xs, d) st
  | none => .bad
@[simp] theorem walkO_some (xs : List P) (d : D) (st : Sto) : walkO (some xs) d st = .ok (xs, d) st := opq rfl
def kW (d : D) (s1 : Sto) : Res (List P × D) := walkO ((asP d s1).bind seqOf) d s1
@[simp] theorem kW_d (d : D) (s1 : Sto) : kW d s1 = walkO ((asP d s1).bind seqOf) d s1 := opq rfl
@[simp] theorem ev_wSeq (f : FE) (ρ : Loc) (st : Sto) : wSeq f ρ st = (fro st.length (nrm st.length (f ρ st))).bind kW := opq rfl
@[simp] theorem seq_l (xs : List P) : seqOf (.lst xs) = some xs := opq rfl
@[simp] theorem seq_t (xs : List P) : seqOf (.tup xs) = some xs := opq rfl
@[simp] theorem seq_ro (xs : List P) : seqOf (.ro xs) = some xs := opq rfl
@[simp] theorem seq_s (s : List Nat) : seqOf (.str s) = some (s.map fun c => .str [c]) := opq rfl
def walkR (o : Option (List P)) (st : Sto) : Res (List P × D) := match o with
  | some xs => .ok (xs, .p .non) st
  | none => .bad
@[simp] theorem walkR_some (xs : List P) (st : Sto) : walkR (some xs) st = .ok (xs, .p .non) st := opq rfl
def rangeO (o : Option (List P)) : Option (List P) := o.bind bRange
@[simp] theorem rangeO_some (xs : List P) : rangeO (some xs) = bRange xs := by
  unfold rangeO
  rw [Option.bind_some]
def kWr (n : Nat) (ds : List D) (s1 : Sto) : Res (List P × D) := walkR (rangeO (asPs ds s1)) (s1.take n)
@[simp] theorem kWr_d (n : Nat) (ds : List D) (s1 : Sto) : kWr n ds s1 = walkR (rangeO (asPs ds s1)) (s1.take n) := opq rfl
@[simp] theorem ev_wRange (fs : List FE) (ρ : Loc) (st : Sto) : wRange fs ρ st = (fAll fs ρ st).bind (kWr st.length) := opq rfl
theorem range1 {j : Int} (h : -big ≤ j ∧ j < big) : bRange [.int j] = some ((List.range j.toNat).map fun (k : Nat) => P.int (0 + (k : Nat))) := gd_pos h
theorem range2 {i j : Int} (h : -big ≤ i ∧ i < big ∧ -big ≤ j ∧ j < big) : bRange [.int i, .int j] = some ((List.range (j - i).toNat).map fun (k : Nat) => P.int (i + (k : Nat))) := gd_pos h
@[simp] theorem range_j {j : Int} (h1 : -1000000 ≤ j) (h2 : j ≤ 1000000) : bRange [.int j] = some ((List.range j.toNat).map fun (k : Nat) => P.int (0 + (k : Nat))) := range1 ⟨by show (-4611686018427387904 : Int) ≤ _; omega, by show _ < (4611686018427387904 : Int); omega⟩
@[simp] theorem range_n {n : Nat} (h : n ≤ 1000000) : bRange [.int n] = some ((List.range n).map fun (k : Nat) => P.int (0 + (k : Nat))) := by
  rw [range_j (by omega) (by omega)]
  rfl
@[simp] theorem range_n1 {n : Nat} (h : n + 1 ≤ 1000000) : bRange [.int ((n : Int) + 1)] = some ((List.range (n + 1)).map fun (k : Nat) => P.int (0 + (k : Nat))) := range_n (n := n + 1) h
@[simp] theorem still_pp (xs : List P) (x : P) (st : Sto) : still xs (.p x) st = true := opq rfl
def stillO (xs : List P) (o : Option O) : Bool := match o with
    | some (.lst ys) => P.sames ys xs
    | _ => false
@[simp] theorem still_r (xs : List P) (i : Nat) (st : Sto) : still xs (.r i) st = stillO xs st[i]? := by
  show (match st[i]? with | some (.lst _) => _ | _ => _) = _
  unfold stillO
  cases st[i]? with
  | none => rfl
  | some o => cases o <;> rfl
@[simp] theorem stillO_some (xs : List P) : stillO xs (some (.lst xs)) = true := P.sames_rfl xs
/-! a turn -/
@[simp] theorem hasR_none (i : Nat) : hasR i none = false := opq rfl
@[simp] theorem hasR_p (i : Nat) (x : P) : hasR i (some (.p x)) = false := opq rfl
@[simp] theorem hasR_r (i j : Nat) : hasR i (some (.r j)) = (i == j) := opq rfl
@[simp] theorem bel_none (k : Nat) : bel k none = true := opq rfl
@[simp] theorem bel_p' (k : Nat) (x : P) : bel k (some (.p x)) = true := opq rfl
@[simp] theorem bel_r' (k i : Nat) : bel k (some (.r i)) = decide (i < k) := opq rfl
def killO (n v : Nat) (o : Option (Option D)) (ρ : Loc) (st : Sto) : Loc × Sto := match o with
  | some (some (.r i)) => (ρ.set v none, if i < n || (ρ.set v none).any (hasR i) then st else st.set i .gone)
  | _ => (ρ.set v none, st)
@[simp] theorem killO_n (n v : Nat) (ρ : Loc) (st : Sto) : killO n v (some none) ρ st = (ρ.set v none, st) := opq rfl
@[simp] theorem killO_p (n v : Nat) (x : P) (ρ : Loc) (st : Sto) : killO n v (some (some (.p x))) ρ st = (ρ.set v none, st) := opq rfl
@[simp] theorem killO_r (n v i : Nat) (ρ : Loc) (st : Sto) : killO n v (some (some (.r i))) ρ st = (ρ.set v none, if i < n || (ρ.set v none).any (hasR i) then st else st.set i .gone) := opq rfl
@[simp] theorem kill1_o (n v : Nat) (ρ : Loc) (st : Sto) : kill1 n v ρ st = killO n v ρ[v]? ρ st := by
  show (match ρ[v]? with | some (some (.r i)) => _ | _ => _) = _
  unfold killO
  rcases ρ[v]? with _ | _ | _ | _ <;> rfl
@[simp] theorem killL_nil (n : Nat) (ρ : Loc) (st : Sto) : killL n [] ρ st = (ρ, st) := opq rfl
@[simp] theorem killL_cons (n v : Nat) (vs : List Nat) (ρ : Loc) (st : Sto) : killL n (v :: vs) ρ st = killL n vs (kill1 n v ρ st).1 (kill1 n v ρ st).2 := opq rfl
@[simp] theorem live_nil : live [] = 0 := opq rfl
@[simp] theorem live_gone (r : Sto) : live (.gone :: r) = (match live r with | 0 => 0 | k + 1 => k + 2) := by
  show (match live r with | 0 => _ | k + 1 => k + 2) = _
  cases live r <;> rfl
@[simp] theorem live_lst (xs : List P) (r : Sto) : live (.lst xs :: r) = live r + 1 := by
  show (match live r with | 0 => _ | k + 1 => k + 2) = _
  cases live r <;> rfl
def cleanQ (n : Nat) (p : Loc × Sto) : Loc × Sto := if p.1.all (bel (n + live (p.2.drop n))) = true then (p.1, p.2.take (n + live (p.2.drop n))) else p
@[simp] theorem cleanQ_mk (n : Nat) (ρ : Loc) (st : Sto) : cleanQ n (ρ, st) = if ρ.all (bel (n + live (st.drop n))) = true then (ρ, st.take (n + live (st.drop n))) else (ρ, st) := opq rfl
@[simp] theorem clean_q (n : Nat) (vs : List Nat) (ρ : Loc) (st : Sto) : clean n vs ρ st = cleanQ n (killL n vs ρ st) := by
  unfold clean cleanQ
  split <;> rfl
def nextQ (p : Loc × Sto) : RS := .next p.1 p.2
@[simp] theorem nextQ_mk (ρ : Loc) (st : Sto) : nextQ (ρ, st) = .next ρ st := opq rfl
@[simp] theorem nextQ_ite (c : Prop) [Decidable c] (a b : Loc × Sto) : nextQ (if c then a else b) = if c then nextQ a else nextQ b := by split <;> rfl
/-- a body's end at the head of the next turn -/
def turn (n : Nat) (vs : List Nat) (r : RS) : RS := match r with
  | .next ρ st => nextQ (clean n vs ρ st)
  | .cont ρ st => nextQ (clean n vs ρ st)
  | r => r
@[simp] theorem turn_next (n : Nat) (vs : List Nat) (ρ : Loc) (st : Sto) : turn n vs (.next ρ st) = nextQ (clean n vs ρ st) := opq rfl
@[simp] theorem turn_cont (n : Nat) (vs : List Nat) (ρ : Loc) (st : Sto) : turn n vs (.cont ρ st) = nextQ (clean n vs ρ st) := opq rfl
@[simp] theorem turn_ret (n : Nat) (vs : List Nat) (d : D) (st : Sto) : turn n vs (.ret d st) = .ret d st := opq rfl
@[simp] theorem turn_exc (n : Nat) (vs : List Nat) (x : Exn) (ρ : Loc) (st : Sto) : turn n vs (.exc x ρ st) = .exc x ρ st := opq rfl
@[simp] theorem turn_brk (n : Nat) (vs : List Nat) (ρ : Loc) (st : Sto) : turn n vs (.brk ρ st) = .brk ρ st := opq rfl
@[simp] theorem turn_ite (n : Nat) (vs : List Nat) (c : Prop) [Decidable c] (a b : RS) : turn n vs (if c then a else b) = if c then turn n vs a else turn n vs b := by split <;> rfl
def enterO (body : FS) (o : Option Loc) (st : Sto) : RS := match o with
  | some ρ => body ρ st
  | none => .bad
@[simp] theorem enterO_some (body : FS) (ρ : Loc) (st : Sto) : enterO body (some ρ) st = body ρ st := opq rfl
/-- a turn of a loop over x -/
def enter (tg : Tg) (body : FS) (x : P) (ρ : Loc) (st : Sto) : RS := enterO body (tg.put x ρ) st
@[simp] theorem enter_one (i : Nat) (body : FS) (x : P) (ρ : Loc) (st : Sto) : enter (.one i) body x ρ st = body (ρ.set i (some (.p x))) st := opq rfl
@[simp] theorem enter_tup (is : List Nat) (body : FS) (xs : List P) (ρ : Loc) (st : Sto) : enter (.tup is) body (.tup xs) ρ st = enterO body (sets is xs ρ) st := opq rfl
@[simp] theorem sets_nil (ρ : Loc) : sets [] [] ρ = some ρ := opq rfl
@[simp] theorem sets_cons (i : Nat) (is : List Nat) (x : P) (xs : List P) (ρ : Loc) : sets (i :: is) (x :: xs) ρ = sets is xs (ρ.set i (some (.p x))) := opq rfl
theorem forL_step {tg : Tg} {body : FS} {vs : List Nat} {n : Nat} {all : List P} {d : D} {x : P} {r : List P} {ρ : Loc} {st : Sto} (hs : still all d st = true) : forL tg body vs n all d (x :: r) ρ st = match turn n vs (enter tg body x ρ st) with
    | .next ρ2 s2 => forL tg body vs n all d r ρ2 s2
    | .brk ρ2 s2 => .next (clean n vs ρ2 s2).1 (clean n vs ρ2 s2).2
    | q => q := by
  rw [forL, if_pos hs]
  unfold enter
  cases tg.put x ρ with
  | none => rfl
  | some ρ' =>
    simp only [enterO]
    cases body ρ' st <;> rfl
theorem Ex.to {α : Sort _} {p : α → Prop} {q : Prop} (h : ∃ x, p x) (k : ∀ x, p x → q) : q := let ⟨x, hx⟩ := h; k x hx
variable {σ α : Type}
/-- a loop by an abstract state -/
theorem for_spec {tg : Tg} {w : FW} {body : FS} {vs : List Nat} {ρ : Loc} {st0 st : Sto} (d : D) (enc : α → P) (as : List α) (S : σ → Loc × Sto) (I : Nat → σ → Prop) (s0 : σ)
    (hw : w ρ st0 = .ok (as.map enc, d) st) (e0 : S s0 = (ρ, st)) (h0 : I 0 s0) (hs : ∀ s, still (as.map enc) d (S s).2 = true)
    (hb : ∀ k a s, as[k]? = some a → I k s → ∃ s', turn st.length vs (enter tg body (enc a) (S s).1 (S s).2) = .next (S s').1 (S s').2 ∧ I (k + 1) s') :
    ∃ s, sFor tg w body vs ρ st0 = .next (S s).1 (S s).2 ∧ I as.length s := by
  have key : ∀ (m k : Nat) (s : σ), as.length - k = m → k ≤ as.length → I k s → ∃ s', forL tg body vs st.length (as.map enc) d ((as.drop k).map enc) (S s).1 (S s).2 = .next (S s').1 (S s').2 ∧ I as.length s' := by
    intro m
    induction m with
    | zero =>
      intro k s hm hk h
      have : k = as.length := by omega
      subst this
      refine ⟨s, ?_, h⟩
      rw [List.drop_length, List.map_nil, forL, if_pos (hs s)]
    | succ m ih =>
      intro k s hm hk h
      have hlt : k < as.length := by omega
      obtain ⟨s', e1, e2⟩ := hb k as[k] s (List.getElem?_eq_getElem hlt) h
      obtain ⟨s2, e3, e4⟩ := ih (k + 1) s' (by omega) (by omega) e2
      refine ⟨s2, ?_, e4⟩
      rw [List.drop_eq_getElem_cons hlt, List.map_cons, forL_step (hs s), e1]
      exact e3
  obtain ⟨s, e1, e2⟩ := key as.length 0 s0 rfl (Nat.zero_le _) h0
  refine ⟨s, ?_, e2⟩
  unfold sFor
  rw [hw, RS.of_ok]
  rw [e0] at e1
  exact e1
/-- a loop over range(n) -/
theorem for_range {tg : Tg} {w : FW} {body : FS} {vs : List Nat} {ρ : Loc} {st0 st : Sto} (n : Nat) (S : σ → Loc × Sto) (I : Nat → σ → Prop) (s0 : σ)
    (hw : w ρ st0 = .ok ((List.range n).map fun (k : Nat) => P.int (0 + (k : Nat)), .p .non) st) (e0 : S s0 = (ρ, st)) (h0 : I 0 s0)
    (hb : ∀ k s, k < n → I k s → ∃ s', turn st.length vs (enter tg body (.int (k : Nat)) (S s).1 (S s).2) = .next (S s').1 (S s').2 ∧ I (k + 1) s') :
    ∃ s, sFor tg w body vs ρ st0 = .next (S s).1 (S s).2 ∧ I n s := by
  obtain ⟨s, e, h⟩ := for_spec (.p .non) (fun (k : Nat) => P.int (0 + (k : Nat))) (List.range n) S I s0 hw e0 h0 (fun _ => rfl) fun k a s ha hI => by
    have hk : k < n := by
      rcases Nat.lt_or_ge k n with z | z
      · exact z
      · rw [List.getElem?_eq_none (by simpa using z)] at ha; cases ha
    have : a = k := by simpa [hk] using ha.symm
    subst this
    rw [Int.zero_add]
    exact hb a s hk hI
  exact ⟨s, e, by simpa using h⟩
/-- a loop that computes a fold -/
theorem for_fold {tg : Tg} {w : FW} {body : FS} {vs : List Nat} {ρ : Loc} {st0 st : Sto} (d : D) (enc : α → P) (as : List α) (S : σ → Loc × Sto) (g : σ → α → σ) (I : Nat → σ → Prop) (s0 : σ)
    (hw : w ρ st0 = .ok (as.map enc, d) st) (e0 : S s0 = (ρ, st)) (h0 : I 0 s0) (hs : ∀ s, still (as.map enc) d (S s).2 = true)
    (hb : ∀ k a s, as[k]? = some a → I k s → turn st.length vs (enter tg body (enc a) (S s).1 (S s).2) = .next (S (g s a)).1 (S (g s a)).2 ∧ I (k + 1) (g s a)) :
    sFor tg w body vs ρ st0 = .next (S (as.foldl g s0)).1 (S (as.foldl g s0)).2 ∧ I as.length (as.foldl g s0) := by
  obtain ⟨s, e1, e2, e3⟩ := for_spec d enc as S (fun k s => I k s ∧ s = (as.take k).foldl g s0) s0 hw e0 ⟨h0, rfl⟩ hs (fun k a s ha h => by
    obtain ⟨h1, h2⟩ := hb k a s ha h.1
    refine ⟨g s a, h1, h2, ?_⟩
    have hk : k < as.length := by
      rcases Nat.lt_or_ge k as.length with z | z
      · exact z
      · rw [List.getElem?_eq_none z] at ha; cases ha
    have : a = as[k] := by rw [List.getElem?_eq_getElem hk] at ha; exact (Option.some.inj ha).symm
    rw [List.take_succ_eq_append_getElem hk, List.foldl_append, ← h.2, this]
    rfl)
  rw [List.take_length] at e3
  subst e3
  exact ⟨e1, e2⟩
/-- a loop's turns one by one -/
def RS.loop (r : RS) (k : Loc → Sto → RS) (kb : Loc → Sto → RS) : RS := match r with
  | .next ρ st => k ρ st
  | .brk ρ st => kb ρ st
  | q => q
@[simp] theorem loop_next (ρ : Loc) (st : Sto) (k kb : Loc → Sto → RS) : (RS.next ρ st).loop k kb = k ρ st := opq rfl
@[simp] theorem loop_brk (ρ : Loc) (st : Sto) (k kb : Loc → Sto → RS) : (RS.brk ρ st).loop k kb = kb ρ st := opq rfl
@[simp] theorem loop_ret (d : D) (st : Sto) (k kb : Loc → Sto → RS) : (RS.ret d st).loop k kb = .ret d st := opq rfl
@[simp] theorem loop_exc (x : Exn) (ρ : Loc) (st : Sto) (k kb : Loc → Sto → RS) : (RS.exc x ρ st).loop k kb = .exc x ρ st := opq rfl
@[simp] theorem loop_ite (c : Prop) [Decidable c] (a b : RS) (k kb : Loc → Sto → RS) : (if c then a else b).loop k kb = if c then a.loop k kb else b.loop k kb := by split <;> rfl
theorem ev_for (tg : Tg) (w : FW) (body : FS) (vs : List Nat) (ρ : Loc) (st : Sto) : sFor tg w body vs ρ st = RS.of ρ (w ρ st) fun q s1 => forL tg body vs s1.length q.1 q.2 q.1 ρ s1 := opq rfl
theorem forL_nil (tg : Tg) (body : FS) (vs : List Nat) (n : Nat) (all : List P) (d : D) (ρ : Loc) (st : Sto) : forL tg body vs n all d [] ρ st = if still all d st = true then .next ρ st else .bad := opq rfl
theorem forL_cons (tg : Tg) (body : FS) (vs : List Nat) (n : Nat) (all : List P) (d : D) (x : P) (r : List P) (ρ : Loc) (st : Sto) : forL tg body vs n all d (x :: r) ρ st = if still all d st = true then (turn n vs (enter tg body x ρ st)).loop (fun ρ st => forL tg body vs n all d r ρ st) (fun ρ2 s2 => nextQ (clean n vs ρ2 s2)) else .bad := by
  by_cases h : still all d st = true
  · rw [forL_step h, if_pos h]
    cases turn n vs (enter tg body x ρ st) <;> rfl
  · rw [forL, if_neg h, if_neg h]
/-- a loop that looks for the first one -/
theorem for_scan {tg : Tg} {w : FW} {body : FS} {vs : List Nat} {ρ : Loc} {st : Sto} (d : D) (enc : α → P) (as : List α) (p : α → Bool) (out : α → D)
    (hw : w ρ st = .ok (as.map enc, d) st) (hs : still (as.map enc) d st = true)
    (hb : ∀ a ∈ as, turn st.length vs (enter tg body (enc a) ρ st) = if p a = true then .ret (out a) st else .next ρ st) :
    sFor tg w body vs ρ st = match as.find? p with
      | some a => .ret (out a) st
      | none => .next ρ st := by
  have key : ∀ l : List α, (∀ a ∈ l, a ∈ as) → forL tg body vs st.length (as.map enc) d (l.map enc) ρ st = match l.find? p with
      | some a => .ret (out a) st
      | none => .next ρ st := by
    intro l
    induction l with
    | nil => intro _; rw [List.map_nil, forL, if_pos hs]; rfl
    | cons a l ih =>
      intro h
      rw [List.map_cons, forL_step hs, hb a (h a List.mem_cons_self), List.find?_cons]
      cases p a with
      | true => rfl
      | false => exact ih fun b hb => h b (List.mem_cons_of_mem _ hb)
  unfold sFor
  rw [hw, RS.of_ok]
  exact key as fun _ h => h
/-- a while by an abstract state and a measure -/
theorem wh_spec {c : FT} {body : FS} {vs : List Nat} {ρ : Loc} {st : Sto} {k : Nat} (S : σ → Loc × Sto) (I : σ → Prop) (m : σ → Nat) (s0 : σ) (e0 : S s0 = (ρ, st)) (h0 : I s0) (hm : m s0 < k)
    (hb : ∀ s, I s → c (S s).1 (S s).2 = .ok false (S s).2 ∨ (c (S s).1 (S s).2 = .ok true (S s).2 ∧ ∃ s', turn st.length vs (body (S s).1 (S s).2) = .next (S s').1 (S s').2 ∧ I s' ∧ m s' < m s)) :
    ∃ s, sWh k c body vs ρ st = .next (S s).1 (S s).2 ∧ I s ∧ c (S s).1 (S s).2 = .ok false (S s).2 := by
  have key : ∀ (k : Nat) (s : σ), I s → m s < k → ∃ s', whL c body vs st.length k (S s).1 (S s).2 = .next (S s').1 (S s').2 ∧ I s' ∧ c (S s').1 (S s').2 = .ok false (S s').2 := by
    intro k
    induction k with
    | zero => intro s _ h; omega
    | succ k ih =>
      intro s h hk
      unfold whL
      rcases hb s h with e | ⟨e, s', e1, e2, e3⟩
      · refine ⟨s, ?_, h, e⟩
        rw [e, RS.of_ok]
        rfl
      · obtain ⟨s2, q1, q2⟩ := ih s' e2 (by omega)
        refine ⟨s2, ?_, q2⟩
        rw [e, RS.of_ok, if_pos rfl]
        generalize body (S s).1 (S s).2 = r at e1
        cases r with
        | next ρ2 s2 => injection e1 with e1 e2; rw [← e1, ← e2] at q1; exact q1
        | cont ρ2 s2 => injection e1 with e1 e2; rw [← e1, ← e2] at q1; exact q1
        | _ => cases e1
  obtain ⟨s, e1, e2⟩ := key k s0 h0 hm
  rw [e0] at e1
  exact ⟨s, e1, e2⟩
/-- a while by an abstract state and a measure -/
theorem whB_spec {b : Nat} {c : FT} {body : FS} {vs : List Nat} {ρ : Loc} {st : Sto} {k : Nat} (S : σ → Loc × Sto) (I : σ → Prop) (m : σ → Nat) (s0 : σ) (e0 : S s0 = (ρ, st)) (h0 : I s0) (hm : m s0 < k) (hbl : b ≤ st.length)
    (hb : ∀ s, I s → c (S s).1 (S s).2 = .ok false (S s).2 ∨ (c (S s).1 (S s).2 = .ok true (S s).2 ∧ ∃ s', turn b vs (body (S s).1 (S s).2) = .next (S s').1 (S s').2 ∧ I s' ∧ m s' < m s)) :
    ∃ s, sWhB b k c body vs ρ st = .next (S s).1 (S s).2 ∧ I s ∧ c (S s).1 (S s).2 = .ok false (S s).2 := by
  have key : ∀ (k : Nat) (s : σ), I s → m s < k → ∃ s', whL c body vs b k (S s).1 (S s).2 = .next (S s').1 (S s').2 ∧ I s' ∧ c (S s').1 (S s').2 = .ok false (S s').2 := by
    intro k
    induction k with
    | zero => intro s _ h; omega
    | succ k ih =>
      intro s h hk
      unfold whL
      rcases hb s h with e | ⟨e, s', e1, e2, e3⟩
      · refine ⟨s, ?_, h, e⟩
        rw [e, RS.of_ok]
        rfl
      · obtain ⟨s2, q1, q2⟩ := ih s' e2 (by omega)
        refine ⟨s2, ?_, q2⟩
        rw [e, RS.of_ok, if_pos rfl]
        generalize body (S s).1 (S s).2 = r at e1
        cases r with
        | next ρ2 s2 => injection e1 with e1 e2; rw [← e1, ← e2] at q1; exact q1
        | cont ρ2 s2 => injection e1 with e1 e2; rw [← e1, ← e2] at q1; exact q1
        | _ => cases e1
  obtain ⟨s, e1, e2⟩ := key k s0 h0 hm
  rw [e0] at e1
  refine ⟨s, ?_, e2⟩
  unfold sWhB
  rw [if_pos hbl]
  exact e1
/-! ### comprehensions -/
@[simp] theorem wipe_nil (ρ : Loc) : wipe ρ [] = ρ := opq rfl
@[simp] theorem wipe_cons (ρ : Loc) (v : Nat) (vs : List Nat) : wipe ρ (v :: vs) = (wipe ρ vs).set v none := opq rfl
theorem comp_inv {elt : FE} {tg : Tg} {w : FW} {own : List Nat} {ρ : Loc} {st : Sto} (d : D) (enc : α → P) (as : List α) (T : σ → Sto) (I : Nat → σ → List P → Prop) (s0 : σ)
    (hw : w ρ st = .ok (as.map enc, d) st) (e0 : T s0 = st) (hl : as.length ≤ 16777216) (h0 : I 0 s0 []) (hs : ∀ s, still (as.map enc) d (T s) = true) (hn : ∀ s, (T s).length = st.length)
    (hb : ∀ k a s ys, as[k]? = some a → I k s ys → ∃ y s' ρ', tg.put (enc a) (wipe ρ own) = some ρ' ∧ fPure elt ρ' (T s) = .ok y (T s') ∧ I (k + 1) s' (ys ++ [y])) :
    ∃ ys s, eComp elt tg w tTrue own ρ st = .ok (.r st.length) (T s ++ [.lst ys]) ∧ I as.length s ys := by
  have key : ∀ (m k : Nat) (s : σ) (ys : List P), as.length - k = m → k ≤ as.length → I k s ys → ∃ zs s', compL elt tg tTrue (wipe ρ own) (as.map enc) d ((as.drop k).map enc) (T s) = .ok zs (T s') ∧ I as.length s' (ys ++ zs) := by
    intro m
    induction m with
    | zero =>
      intro k s ys hm hk h
      have : k = as.length := by omega
      subst this
      refine ⟨[], s, ?_, by rw [List.append_nil]; exact h⟩
      rw [List.drop_length, List.map_nil, compL, if_pos (hs s)]
    | succ m ih =>
      intro k s ys hm hk h
      have hlt : k < as.length := by omega
      obtain ⟨y, s', ρ', e0, e1, e2⟩ := hb k as[k] s ys (List.getElem?_eq_getElem hlt) h
      obtain ⟨zs, s2, e3, e4⟩ := ih (k + 1) s' _ (by omega) (by omega) e2
      refine ⟨y :: zs, s2, ?_, by rw [List.append_assoc] at e4; exact e4⟩
      rw [List.drop_eq_getElem_cons hlt, List.map_cons, compL, if_pos (hs s), e0]
      simp only [tTrue, Res.bind_ok, if_pos, e1, e3]
  obtain ⟨ys, s, e1, e2⟩ := key as.length 0 s0 [] rfl (Nat.zero_le _) h0
  refine ⟨ys, s, ?_, e2⟩
  rw [e0] at e1
  unfold eComp
  rw [hw]
  simp only [Res.bind_ok, List.length_map, if_pos hl]
  rw [show (as.drop 0).map enc = as.map enc from by rw [List.drop_zero]] at e1
  rw [e1]
  simp only [Res.bind_ok, putO, NV.put]
  rw [← hn s, nrm_new]
/-- .. over range(n) -/
theorem comp_range {elt : FE} {i : Nat} {w : FW} {own : List Nat} {ρ : Loc} {st : Sto} (n : Nat) (T : σ → Sto) (I : Nat → σ → List P → Prop) (s0 : σ)
    (hw : w ρ st = .ok ((List.range n).map fun (k : Nat) => P.int (0 + (k : Nat)), .p .non) st) (e0 : T s0 = st) (hl : n ≤ 16777216) (h0 : I 0 s0 []) (hn : ∀ s, (T s).length = st.length)
    (hb : ∀ k s ys, k < n → I k s ys → ∃ y s', fPure elt ((wipe ρ own).set i (some (.p (.int (k : Nat))))) (T s) = .ok y (T s') ∧ I (k + 1) s' (ys ++ [y])) :
    ∃ ys s, eComp elt (.one i) w tTrue own ρ st = .ok (.r st.length) (T s ++ [.lst ys]) ∧ I n s ys := by
  obtain ⟨ys, s, e, h⟩ := comp_inv (tg := .one i) (.p .non) (fun (k : Nat) => P.int (0 + (k : Nat))) (List.range n) T I s0 hw e0 (by simpa using hl) h0 (fun _ => rfl) hn fun k a s ys ha hI => by
    have hk : k < n := by
      rcases Nat.lt_or_ge k n with z | z
      · exact z
      · rw [List.getElem?_eq_none (by simpa using z)] at ha; cases ha
    have : a = k := by simpa [hk] using ha.symm
    subst this
    rw [Int.zero_add]
    obtain ⟨y, s', q1, q2⟩ := hb a s ys hk hI
    exact ⟨y, s', _, rfl, q1, q2⟩
  exact ⟨ys, s, e, by simpa using h⟩
/-- a comprehension that leaves all as it is -/
theorem comp_pure {elt : FE} {tg : Tg} {w : FW} {cond : FT} {own : List Nat} {ρ : Loc} {st : Sto} (d : D) (enc : α → P) (as : List α) (c : α → Bool) (f : α → P)
    (hw : w ρ st = .ok (as.map enc, d) st) (hl : as.length ≤ 16777216) (hs : still (as.map enc) d st = true)
    (hb : ∀ a ∈ as, ∃ ρ', tg.put (enc a) (wipe ρ own) = some ρ' ∧ cond ρ' st = .ok (c a) st ∧ (c a = true → fPure elt ρ' st = .ok (f a) st)) :
    eComp elt tg w cond own ρ st = .ok (.r st.length) (st ++ [.lst ((as.filter c).map f)]) := by
  have key : ∀ l : List α, (∀ a ∈ l, a ∈ as) → compL elt tg cond (wipe ρ own) (as.map enc) d (l.map enc) st = .ok ((l.filter c).map f) st := by
    intro l
    induction l with
    | nil => intro _; rw [List.map_nil, compL, if_pos hs]; rfl
    | cons a l ih =>
      intro h
      obtain ⟨ρ', e0, e1, e2⟩ := hb a (h a List.mem_cons_self)
      have ih' := ih fun b hb => h b (List.mem_cons_of_mem _ hb)
      rw [List.map_cons, compL, if_pos hs, e0]
      simp only [e1, Res.bind_ok, ih', List.filter_cons]
      cases e : c a with
      | true =>
        have e3 := e2 e
        simp only [e3, Res.bind_ok, ih', if_true, List.map_cons]
      | false => simp only [Bool.false_eq_true, if_false]
  unfold eComp
  rw [hw]
  simp only [Res.bind_ok, List.length_map, if_pos hl, key as fun _ h => h, putO, NV.put, nrm_new]
end Pd
end

section -- PdEv3
set_option linter.all false
set_option autoImplicit false
set_option maxRecDepth 100000
/-! PdEv3: more of the plain semantics by simp: texts, dicts of the module, zip. -/
namespace Pd
@[simp] theorem k_in (tb : List (List Nat × P)) (z : List Nat) : oInK tb (.str z) = some (.p (.bl (tget tb z).isSome)) := opq rfl
@[simp] theorem k_notIn (tb : List (List Nat × P)) (z : List Nat) : oNotInK tb (.str z) = some (.p (.bl (!(tget tb z).isSome))) := opq rfl
@[simp] theorem k_get (tb : List (List Nat × P)) (z : List Nat) : oGetK tb (.str z) = (tget tb z).map .p := opq rfl
def parT (c : Nat) (s : List Nat) : List P := match parL c s with
    | some (a, b) => [.str a, .str [c], .str b]
    | none => [.str s, .str [], .str []]
@[simp] theorem part_s {c : Nat} {s : List Nat} (h : s.length ≤ 16777216) : oPartition s (.str [c]) = some (.p (.tup (parT c s))) := gd_pos h
@[simp] theorem split_s {c : Nat} {s : List Nat} (h : s.length + 2 ≤ 16777216) : oSplit s (.str [c]) = some (.l ((splL c s).map .str)) := gd_pos h
@[simp] theorem join_l {s : List Nat} {ps : List (List Nat)} (h : (ps.map (·.length)).sum + ps.length * s.length ≤ 16777216) : oJoin s (.lst (ps.map .str)) = some (.p (.str (joinL s ps))) := by
  show (asSs (ps.map .str)).bind _ = _
  rw [asSs_map, Option.bind_some, gd_pos h]
@[simp] theorem upper_s {s : List Nat} (h : s.length ≤ 5592405) : oUpper s = some (.p (.str (s.map upC))) := gd_pos h
@[simp] theorem in_char (c : Nat) (t : List Nat) : oIn (.str [c]) (.str t) = some (.p (.bl (decide (c ∈ t)))) := opq rfl
@[simp] theorem bAll_f {α : Type} (l : List α) (f : α → Bool) : bAll [.lst (l.map fun c => .bl (f c))] = some (.p (.bl (l.all f))) := by
  have := bAll_b (l.map f)
  rw [List.map_map] at this
  refine this.trans ?_
  rw [List.all_map]
  rfl
@[simp] theorem bInt_s {s : List Nat} (h : s ≠ [] ∧ s.all dig = true ∧ s.length ≤ 640) : bInt [.str s] = some (.p (.int (valL s))) := gd_pos h
@[simp] theorem isNot_nn : oIsNot .non .non = some (.p (.bl false)) := opq rfl
@[simp] theorem isNot_tn (xs : List P) : oIsNot (.tup xs) .non = some (.p (.bl true)) := opq rfl
@[simp] theorem is_nn : oIs .non .non = some (.p (.bl true)) := opq rfl
@[simp] theorem is_tn (xs : List P) : oIs (.tup xs) .non = some (.p (.bl false)) := opq rfl
def nextO (o : Option Loc) (st : Sto) : RS := match o with
  | some ρ => .next ρ st
  | none => .bad
@[simp] theorem nextO_some (ρ : Loc) (st : Sto) : nextO (some ρ) st = .next ρ st := opq rfl
def kAsgT (is : List Nat) (ρ : Loc) (x : P) (s1 : Sto) : RS := match x with
  | .tup xs => nextO (sets is xs ρ) s1
  | _ => .bad
@[simp] theorem kAsgT_d (is : List Nat) (ρ : Loc) (xs : List P) (s1 : Sto) : kAsgT is ρ (.tup xs) s1 = nextO (sets is xs ρ) s1 := opq rfl
@[simp] theorem ev_asgT (is : List Nat) (f : FE) (ρ : Loc) (st : Sto) : sAsgT is f ρ st = RS.of ρ (frz st.length (f ρ st)) (kAsgT is ρ) := by
  unfold sAsgT
  congr 1
@[simp] theorem zipQ_l (s : List Nat) (xs : List P) (s2 : Sto) : zipQ s (.p (.lst xs)) s2 = .ok (pairS s xs, .p (.lst xs)) s2 := opq rfl
@[simp] theorem zipQ_t (s : List Nat) (xs : List P) (s2 : Sto) : zipQ s (.p (.tup xs)) s2 = .ok (pairS s xs, .p (.tup xs)) s2 := opq rfl
@[simp] theorem zipD_d (n : Nat) (s : List Nat) (d2 : D) (s1 : Sto) : zipD n [.p (.str s), d2] s1 = (fro n (nrm n (.ok d2 s1))).bind (zipQ s) := opq rfl
@[simp] theorem ev_zip (fs : List FE) (ρ : Loc) (st : Sto) : wZipS fs ρ st = (fAll fs ρ st).bind (zipD st.length) := opq rfl
theorem par_spl (c : Nat) : ∀ l : List Nat, match parL c l with
    | none => splL c l = [l]
    | some (a, b) => splL c l = a :: splL c b
  | [] => rfl
  | d :: r => by
    have ih := par_spl c r
    rw [show splL c (d :: r) = if d = c then [] :: splL c r else (match splL c r with | [] => [[d]] | p :: ps => (d :: p) :: ps) from rfl]
    unfold parL
    by_cases h : d = c
    · rw [if_pos h, if_pos h]
    · rw [if_neg h, if_neg h]
      cases e : parL c r with
      | none =>
        rw [e] at ih
        simp only at ih
        simp only [Option.map_none, ih]
      | some q =>
        obtain ⟨a, b⟩ := q
        rw [e] at ih
        simp only at ih
        simp only [Option.map_some, ih]
theorem parT_head (c : Nat) (l w : List Nat) (ws : List (List Nat)) (h : splL c l = w :: ws) : ∃ a b, parT c l = [.str w, .str a, .str b] := by
  have := par_spl c l
  unfold parT
  cases e : parL c l with
  | none =>
    rw [e] at this
    simp only at this
    rw [this] at h
    cases h
    exact ⟨_, _, rfl⟩
  | some q =>
    obtain ⟨a, b⟩ := q
    rw [e] at this
    simp only at this
    rw [this] at h
    cases h
    exact ⟨_, _, rfl⟩
theorem dig_in (c : Nat) : decide (c ∈ [48, 49, 50, 51, 52, 53, 54, 55, 56, 57]) = dig c := by
  unfold dig
  rw [Bool.eq_iff_iff]
  simp
  omega
theorem nat_of {i n : Int} (h : 0 < n) : ∃ m : Nat, i % n = m ∧ (m : Int) < n := ⟨(i % n).toNat, by rw [Int.toNat_of_nonneg (Int.emod_nonneg _ (by omega))], by rw [Int.toNat_of_nonneg (Int.emod_nonneg _ (by omega))]; exact Int.emod_lt_of_pos _ h⟩
theorem atI_mod {α : Type} {xs : List α} (h : 0 < xs.length) (i : Int) : ∃ x ∈ xs, atI xs (i % xs.length) = some x := by
  obtain ⟨x, h1, h2, _⟩ := atI_in (xs := xs) (i := i % xs.length) (Int.emod_nonneg _ (by omega)) (Int.emod_lt_of_pos _ (by omega))
  exact ⟨x, h1, h2⟩
theorem atI_modn {α : Type} {xs : List α} (n : Int) (h : n = xs.length) (h0 : 0 < n) (i : Int) : ∃ x ∈ xs, atI xs (i % n) = some x := by
  subst h
  exact atI_mod (by omega) i
theorem any_str (s : List Nat) (l : List (List Nat)) : (l.map P.str).any (fun z => z.eqv (.str s)) = decide (s ∈ l) := by
  induction l with
  | nil => rfl
  | cons a l ih =>
    rw [List.map_cons, List.any_cons, ih]
    simp only [P.eqv]
    by_cases h : a = s
    · subst h; simp
    · have : ¬ s = a := fun z => h z.symm
      simp [h, this]
@[simp] theorem in_l (s : List Nat) (l : List (List Nat)) : oIn (.str s) (.lst (l.map .str)) = some (.p (.bl (decide (s ∈ l)))) := by
  have : oIn (.str s) (.lst (l.map .str)) = gd ((P.str s).dep ≤ 100) (some (.p (.bl ((l.map P.str).any fun z => z.eqv (.str s))))) := by
    rcases s with _ | ⟨a, _ | ⟨b, r⟩⟩ <;> rfl
  rw [this, gd_pos (by simp [P.dep]), any_str]
@[simp] theorem notIn_l (s : List Nat) (l : List (List Nat)) : oNotIn (.str s) (.lst (l.map .str)) = some (.p (.bl (!decide (s ∈ l)))) := by
  unfold oNotIn
  rw [in_l]
  rfl
theorem in_l2 (s a b : List Nat) : oIn (.str s) (.lst [.str a, .str b]) = some (.p (.bl (decide (s ∈ [a, b])))) := in_l s [a, b]
theorem deps_str (l : List (List Nat)) : P.deps (l.map .str) = 0 := by
  induction l with
  | nil => rfl
  | cons a l ih => simp [P.deps, P.dep, ih]
theorem deps_app (xs ys : List P) : P.deps (xs ++ ys) = max (P.deps xs) (P.deps ys) := by
  induction xs with
  | nil => simp [P.deps]
  | cons x xs ih => simp [P.deps, ih, Nat.max_assoc]
theorem oNe_dif {x y : P} (h : x.dep ≤ 100) (e : x.eqv y = false) : oNe x y = some (.p (.bl true)) := by
  unfold oNe
  rw [gd_pos (by unfold deepOk; omega), e]
  rfl
end Pd
end

section -- sem
set_option linter.all false
namespace Lw
open Pd
/-! ### the plain semantics -/
def FUEL : Nat := 1000000
def tb_SHAPES : List (List Nat × P) := [([112, 97, 114, 116, 115], .str [105, 105, 105]), ([110, 117, 109, 98, 101, 114], .str [105, 105, 98]), ([115, 101, 116], .str [105, 110]), ([97, 100, 100], .str [105, 105, 105]), ([115, 117, 98], .str [105, 105, 105]), ([109, 117, 108], .str [105, 105, 105]), ([117, 110, 108, 101, 115, 115], .str [119, 105, 105, 105]), ([110, 101, 119], .str [105, 105, 105]), ([99, 111, 112, 121], .str [105, 109]), ([100, 114, 111, 112], .str [105]), ([116, 101, 108, 108], .str [105, 116]), ([103, 111], .str [105, 99, 115, 108]), ([115, 117, 109], .str [105, 105, 108, 105]), ([101, 110, 100], .str []), ([108, 111, 111, 107], .str [105, 105, 98, 107, 106])]
def C_is_name_1 : FE := eComp (e2 oIn (eVar 1) (eLit (.str [97, 98, 99, 100, 101, 102, 103, 104, 105, 106, 107, 108, 109, 110, 111, 112, 113, 114, 115, 116, 117, 118, 119, 120, 121, 122, 65, 66, 67, 68, 69, 70, 71, 72, 73, 74, 75, 76, 77, 78, 79, 80, 81, 82, 83, 84, 85, 86, 87, 88, 89, 90, 48, 49, 50, 51, 52, 53, 54, 55, 56, 57]))) (.one 1) (wSeq (eVar 0)) (tTrue) [1]
def B_is_name : FS := blk [
  sIf (Pd.tOr (tOf (e2 oLt (eBi bLen [eVar 0]) (eLit (.int 1)))) (Pd.tOr (tOf (e2 oGt (eBi bLen [eVar 0]) (eLit (.int 12)))) (tOf (e2 oIn (eVar 0) (eLit (.tup [.str [100, 101, 102], .str [119, 97, 105, 116], .str [105, 102], .str [101, 108, 115, 101], .str [97, 115, 107]])))))) (blk [
    sRet (eLit (.bl false))]) (blk []),
  sRet (eAnd (e2 oIn (e2 oIdx (eVar 0) (eLit (.int 0))) (eLit (.str [97, 98, 99, 100, 101, 102, 103, 104, 105, 106, 107, 108, 109, 110, 111, 112, 113, 114, 115, 116, 117, 118, 119, 120, 121, 122, 65, 66, 67, 68, 69, 70, 71, 72, 73, 74, 75, 76, 77, 78, 79, 80, 81, 82, 83, 84, 85, 86, 87, 88, 89, 90]))) (eBi bAll [C_is_name_1]))]
def F_is_name : FF := fDef 2 B_is_name
def B_is_index : FS := blk [
  sRet (eAnd (e1 (oIsT .int) (eVar 0)) (e2 oGe (eVar 0) (eLit (.int 0))))]
def F_is_index : FF := fDef 1 B_is_index
def B_is_number : FS := blk [
  sRet (eAnd (e1 (oIsT .int) (eVar 0)) (e2 oLe (eBi bAbs [eVar 0]) (eLit (.int 1000000000000))))]
def F_is_number : FF := fDef 1 B_is_number
def B_is_word : FS := blk [
  sRet (eAnd (e1 (oIsT .str) (eVar 0)) (eCall F_is_name [eVar 0]))]
def F_is_word : FF := fDef 1 B_is_word
def C_is_template_1 (r : Nat → FF) : FE := eComp (eCall (r 0) [eVar 1]) (.one 1) (wSeq (e2 oIdx (eVar 0) (eLit (.int 2)))) (tTrue) [1]
def B_is_template (r : Nat → FF) : FS := blk [
  sIf (Pd.tNot (tOf (e1 (oIsT .tuple) (eVar 0)))) (blk [
    sRet (e1 (oIsT .int) (eVar 0))]) (blk []),
  sIf (Pd.tAnd (tOf (e2 oEq (eBi bLen [eVar 0]) (eLit (.int 2)))) (tOf (e2 oEq (e2 oIdx (eVar 0) (eLit (.int 0))) (eLit (.str [114]))))) (blk [
    sRet (eCall F_is_index [e2 oIdx (eVar 0) (eLit (.int 1))])]) (blk []),
  sIf (Pd.tOr (tOf (e2 oNe (eBi bLen [eVar 0]) (eLit (.int 3)))) (Pd.tOr (tOf (e2 oNe (e2 oIdx (eVar 0) (eLit (.int 0))) (eLit (.str [99])))) (Pd.tOr (Pd.tNot (tOf (eCall F_is_word [e2 oIdx (eVar 0) (eLit (.int 1))]))) (Pd.tNot (tOf (e1 (oIsT .tuple) (e2 oIdx (eVar 0) (eLit (.int 2))))))))) (blk [
    sRet (eLit (.bl false))]) (blk []),
  sRet (eBi bAll [(C_is_template_1 r)])]
def R_is_template : Nat → Nat → FF
  | 0, _ => fun _ _ => .bad
  | k + 1, 0 => fDef 2 (B_is_template (R_is_template k))
  | _ + 1, _ => fun _ _ => .bad
def F_is_template : FF := R_is_template 100 0
def B_is_key : FS := blk [
  sIf (tOf (e1 (oIsT .tuple) (eVar 0))) (blk [
    sRet (eAnd (e2 oEq (eBi bLen [eVar 0]) (eLit (.int 2))) (eAnd (eCall F_is_word [e2 oIdx (eVar 0) (eLit (.int 0))]) (eCall F_is_index [e2 oIdx (eVar 0) (eLit (.int 1))])))]) (blk []),
  sRet (e1 (oIsT .int) (eVar 0))]
def F_is_key : FF := fDef 1 B_is_key
def B_is_case : FS := blk [
  sRet (eAnd (e1 (oIsT .tuple) (eVar 0)) (eAnd (e2 oEq (eBi bLen [eVar 0]) (eLit (.int 2))) (eAnd (eCall F_is_key [e2 oIdx (eVar 0) (eLit (.int 0))]) (eCall F_is_index [e2 oIdx (eVar 0) (eLit (.int 1))]))))]
def F_is_case : FF := fDef 1 B_is_case
def C_fit_all_1 : FE := eComp (eCall F_is_template [eVar 2]) (.one 2) (wSeq (eVar 1)) (tTrue) [2]
def C_fit_all_2 : FE := eComp (eCall F_is_index [eVar 2]) (.one 2) (wSeq (eVar 1)) (tTrue) [2]
def C_fit_all_3 : FE := eComp (eCall F_is_case [eVar 2]) (.one 2) (wSeq (eVar 1)) (tTrue) [2]
def B_fit_all : FS := blk [
  sIf (tOf (e2 oEq (eVar 0) (eLit (.str [115])))) (blk [
    sRet (eBi bAll [C_fit_all_1])]) (blk []),
  sIf (tOf (e2 oEq (eVar 0) (eLit (.str [108])))) (blk [
    sRet (eBi bAll [C_fit_all_2])]) (blk []),
  sRet (eBi bAll [C_fit_all_3])]
def F_fit_all : FF := fDef 3 B_fit_all
def B_fits : FS := blk [
  sIf (tOf (e2 oEq (eVar 0) (eLit (.str [105])))) (blk [
    sRet (eCall F_is_index [eVar 1])]) (blk []),
  sIf (tOf (e2 oEq (eVar 0) (eLit (.str [98])))) (blk [
    sRet (eAnd (eCall F_is_index [eVar 1]) (e2 oLe (eVar 1) (eLit (.int 1))))]) (blk []),
  sIf (tOf (e2 oEq (eVar 0) (eLit (.str [109])))) (blk [
    sRet (eAnd (eCall F_is_index [eVar 1]) (e2 oGe (eVar 1) (eLit (.int 1))))]) (blk []),
  sIf (tOf (e2 oEq (eVar 0) (eLit (.str [110])))) (blk [
    sRet (eCall F_is_number [eVar 1])]) (blk []),
  sIf (tOf (e2 oEq (eVar 0) (eLit (.str [119])))) (blk [
    sRet (e2 oIn (eVar 1) (eLit (.tup [.str [108, 101, 115, 115], .str [109, 111, 115, 116], .str [115, 97, 109, 101]])))]) (blk []),
  sIf (tOf (e2 oEq (eVar 0) (eLit (.str [99])))) (blk [
    sRet (eCall F_is_word [eVar 1])]) (blk []),
  sIf (tOf (e2 oEq (eVar 0) (eLit (.str [116])))) (blk [
    sRet (eCall F_is_template [eVar 1])]) (blk []),
  sIf (tOf (e2 oEq (eVar 0) (eLit (.str [106])))) (blk [
    sRet (eOr (eCall F_is_index [eVar 1]) (e2 oEq (eVar 1) (e1 oNeg (eLit (.int 1)))))]) (blk []),
  sRet (eAnd (e1 (oIsT .tuple) (eVar 1)) (eCall F_fit_all [eVar 0, eVar 1]))]
def F_fits : FF := fDef 2 B_fits
def C_is_instruction_1 : FE := eComp (eCall F_fits [eVar 2, eVar 3]) (.tup [2, 3]) (wZipS [eVar 1, eSl (eVar 0) (some (eLit (.int 1))) none]) (tTrue) [2, 3]
def B_is_instruction : FS := blk [
  sIf (tOf (e1 (oNotInK tb_SHAPES) (e2 oIdx (eVar 0) (eLit (.int 0))))) (blk [
    sRet (eLit (.bl false))]) (blk []),
  sAsg 1 (e1 (oGetK tb_SHAPES) (e2 oIdx (eVar 0) (eLit (.int 0)))),
  sIf (tOf (e2 oNe (eBi bLen [eVar 0]) (e2 oAdd (eBi bLen [eVar 1]) (eLit (.int 1))))) (blk [
    sRet (eLit (.bl false))]) (blk []),
  sRet (eBi bAll [C_is_instruction_1])]
def F_is_instruction : FF := fDef 4 B_is_instruction
def C_filled_1 (r : Nat → FF) : FE := eComp (eCall (r 0) [eVar 2, eVar 1]) (.one 2) (wSeq (e2 oIdx (eVar 0) (eLit (.int 2)))) (tTrue) [2]
def B_filled (r : Nat → FF) : FS := blk [
  sIf (Pd.tNot (tOf (e1 (oIsT .tuple) (eVar 0)))) (blk [
    sRet (eVar 0)]) (blk []),
  sIf (tOf (e2 oEq (e2 oIdx (eVar 0) (eLit (.int 0))) (eLit (.str [114])))) (blk [
    sRet (e2 oIdx (eVar 1) (e2 oIdx (eVar 0) (eLit (.int 1))))]) (blk []),
  sRet (eTup [(false, eLit (.str [99])), (false, e2 oIdx (eVar 0) (eLit (.int 1))), (false, eBi bTuple [(C_filled_1 r)])])]
def R_filled : Nat → Nat → FF
  | 0, _ => fun _ _ => .bad
  | k + 1, 0 => fDef 3 (B_filled (R_filled k))
  | _ + 1, _ => fun _ _ => .bad
def F_filled : FF := R_filled 100 0
def B__law_cell : FS := blk [
  sIf (tOf (e2 oLt (eVar 1) (eBi bLen [eVar 0]))) (blk [
    sRet (e2 oIdx (eVar 0) (eVar 1))]) (blk []),
  sRet (eLit (.int 0))]
def F__law_cell : FF := fDef 2 B__law_cell
def L__law_numbers_1 : FS := sFor (.one 5) (wRange [eVar 2]) (blk [
      sExpr (eApp mAppend (eVar 3) (e2 oMod (eBi bInt [eVar 4]) (eLit (.int 1000)))),
      sAsg 4 (e2 oDiv (eVar 4) (eLit (.int 1000)))]) [5]
def L__law_numbers_2 : FS := sFor (.one 5) (wRange [eVar 2]) (blk [
    sAsg 6 (e2 oMod (eBi bInt [e2 oAdd (e2 oAdd (e2 oMul (eVar 6) (eLit (.int 16807))) (e2 oMul (eVar 5) (eLit (.int 7919)))) (eLit (.int 13))]) (eLit (.int 2147483647))),
    sAsg 7 (e2 oMod (eBi bInt [e2 oAdd (e2 oAdd (e2 oMul (eVar 6) (eVar 6)) (e2 oMul (eVar 1) (eLit (.int 31)))) (eVar 5)]) (eLit (.int 1000000007))),
    sExpr (eApp mAppend (eVar 3) (e2 oMod (eBi bInt [e2 oDiv (eVar 7) (eLit (.int 101))]) (eLit (.int 1000))))]) [5, 7]
def B__law_numbers : FS := blk [
  sAsg 3 (eLst []),
  sIf (tOf (e2 oGe (eVar 0) (e2 oPow (eLit (.int 10)) (eLit (.int 18))))) (blk [
    sAsg 4 (eVar 0),
    L__law_numbers_1,
    sRet (eVar 3)]) (blk []),
  sAsg 6 (e2 oMod (eBi bInt [e2 oAdd (e2 oAdd (e2 oMul (eVar 0) (eLit (.int 48271))) (e2 oMul (eVar 1) (eLit (.int 69621)))) (eLit (.int 11))]) (eLit (.int 2147483647))),
  L__law_numbers_2,
  sRet (eVar 3)]
def F__law_numbers : FF := fDef 8 B__law_numbers
def B__law_pick : FS := blk [
  sSet (eVar 1) (eLit (.int 0)) (e2 oAdd (e2 oIdx (eVar 1) (eLit (.int 0))) (eLit (.int 1))),
  sRet (e2 oAdd (eBi bInt [e2 oIdx (eVar 0) (e2 oMod (eBi bInt [e2 oIdx (eVar 1) (eLit (.int 0))]) (eBi bLen [eVar 0]))]) (e2 oMul (e2 oDiv (eBi bInt [e2 oIdx (eVar 1) (eLit (.int 0))]) (eBi bLen [eVar 0])) (eLit (.int 7))))]
def F__law_pick : FF := fDef 2 B__law_pick
def C__law_template_1 (r : Nat → FF) : FE := eComp (eCall (r 0) [eVar 0, eVar 1, e2 oSub (eVar 2) (eLit (.int 1))]) (.one 5) (wRange [e2 oMod (e2 oDiv (eVar 3) (eLit (.int 4))) (eLit (.int 4))]) (tTrue) [5]
def B__law_template (r : Nat → FF) : FS := blk [
  sAsg 3 (eCall F__law_pick [eVar 0, eVar 1]),
  sIf (Pd.tOr (tOf (e2 oEq (eVar 2) (eLit (.int 0)))) (tOf (e2 oEq (e2 oMod (eVar 3) (eLit (.int 4))) (eLit (.int 0))))) (blk [
    sRet (e2 oIdx (eLst [(false, e2 oSub (e2 oMod (e2 oDiv (eVar 3) (eLit (.int 4))) (eLit (.int 50))) (eLit (.int 20))), (false, eTup [(false, eLit (.str [114])), (false, e2 oMod (e2 oDiv (eVar 3) (eLit (.int 4))) (eLit (.int 9)))]), (false, e2 oPow (eLit (.int 10)) (eLit (.int 13))), (false, e2 oSub (eLit (.int 0)) (e2 oPow (eLit (.int 10)) (eLit (.int 12))))]) (e2 oMod (e2 oDiv (eVar 3) (eLit (.int 50))) (eLit (.int 4))))]) (blk []),
  sAsg 4 (eFrz ((C__law_template_1 r))),
  sRet (eTup [(false, eLit (.str [99])), (false, e2 oIdx (eLst [(false, eLit (.str [101, 110, 100])), (false, eLit (.str [97, 49])), (false, eLit (.str [90, 122])), (false, eLit (.str [99, 111, 110, 115]))]) (e2 oMod (e2 oDiv (eVar 3) (eLit (.int 16))) (eLit (.int 4)))), (false, eBi bTuple [eVar 4])])]
def R__law_template : Nat → Nat → FF
  | 0, _ => fun _ _ => .bad
  | k + 1, 0 => fDef 6 (B__law_template (R__law_template k))
  | _ + 1, _ => fun _ _ => .bad
def F__law_template : FF := R__law_template 100 0
def C__law_good_1 : FE := eComp (e2 oMod (eCall F__law_pick [eVar 0, eVar 1]) (eLit (.int 12))) (.one 6) (wRange [eLit (.int 8)]) (tTrue) [6]
def C__law_good_2 : FE := eComp (eCall F__law_template [eVar 0, eVar 1, eLit (.int 2)]) (.one 6) (wRange [eLit (.int 3)]) (tTrue) [6]
def B__law_good : FS := blk [
  sAsg 2 (eFrz (C__law_good_1)),
  sAsg 3 (eFrz (C__law_good_2)),
  sAsg 4 (e2 oIdx (eLst [(false, eLit (.str [108, 101, 115, 115])), (false, eLit (.str [109, 111, 115, 116])), (false, eLit (.str [115, 97, 109, 101]))]) (e2 oMod (e2 oIdx (eVar 2) (eLit (.int 0))) (eLit (.int 3)))),
  sAsg 5 (e2 oIdx (eTup [(false, eTup [(false, eTup [(false, eLit (.int 3)), (false, e2 oIdx (eVar 2) (eLit (.int 1)))]), (false, eTup [(false, eTup [(false, eLit (.str [99, 111, 110, 115])), (false, e2 oIdx (eVar 2) (eLit (.int 2)))]), (false, e2 oIdx (eVar 2) (eLit (.int 3)))])]), (false, eTup []), (false, eTup [(false, eTup [(false, e1 oNeg (eLit (.int 5))), (false, e2 oIdx (eVar 2) (eLit (.int 4)))]), (false, eTup [(false, e2 oPow (eLit (.int 10)) (eLit (.int 14))), (false, eLit (.int 2))])])]) (e2 oMod (e2 oIdx (eVar 2) (eLit (.int 5))) (eLit (.int 3)))),
  sRet (eLst [(false, eTup [(false, eLit (.str [108, 111, 111, 107])), (false, e2 oIdx (eVar 2) (eLit (.int 0))), (false, e2 oIdx (eVar 2) (eLit (.int 1))), (false, e2 oMod (e2 oIdx (eVar 2) (eLit (.int 2))) (eLit (.int 2))), (false, eVar 5), (false, eIf (tOf (e2 oEq (e2 oIdx (eVar 2) (eLit (.int 3))) (eLit (.int 0)))) (e2 oSub (e2 oIdx (eVar 2) (eLit (.int 3))) (eLit (.int 1))) (e2 oIdx (eVar 2) (eLit (.int 3))))]), (false, eTup [(false, eLit (.str [112, 97, 114, 116, 115])), (false, e2 oIdx (eVar 2) (eLit (.int 0))), (false, e2 oIdx (eVar 2) (eLit (.int 1))), (false, e2 oIdx (eVar 2) (eLit (.int 2)))]), (false, eTup [(false, eLit (.str [110, 117, 109, 98, 101, 114])), (false, e2 oIdx (eVar 2) (eLit (.int 0))), (false, e2 oIdx (eVar 2) (eLit (.int 1))), (false, e2 oMod (e2 oIdx (eVar 2) (eLit (.int 2))) (eLit (.int 2)))]), (false, eTup [(false, eLit (.str [115, 101, 116])), (false, e2 oIdx (eVar 2) (eLit (.int 0))), (false, e2 oSub (e2 oIdx (eVar 2) (eLit (.int 1))) (eLit (.int 6)))]), (false, eTup [(false, eLit (.str [97, 100, 100])), (false, e2 oIdx (eVar 2) (eLit (.int 0))), (false, e2 oIdx (eVar 2) (eLit (.int 1))), (false, e2 oIdx (eVar 2) (eLit (.int 2)))]), (false, eTup [(false, eLit (.str [115, 117, 98])), (false, e2 oIdx (eVar 2) (eLit (.int 0))), (false, e2 oIdx (eVar 2) (eLit (.int 1))), (false, e2 oIdx (eVar 2) (eLit (.int 2)))]), (false, eTup [(false, eLit (.str [109, 117, 108])), (false, e2 oIdx (eVar 2) (eLit (.int 0))), (false, e2 oIdx (eVar 2) (eLit (.int 1))), (false, e2 oIdx (eVar 2) (eLit (.int 2)))]), (false, eTup [(false, eLit (.str [117, 110, 108, 101, 115, 115])), (false, eVar 4), (false, e2 oIdx (eVar 2) (eLit (.int 0))), (false, e2 oIdx (eVar 2) (eLit (.int 1))), (false, e2 oIdx (eVar 2) (eLit (.int 2)))]), (false, eTup [(false, eLit (.str [110, 101, 119])), (false, e2 oIdx (eVar 2) (eLit (.int 0))), (false, e2 oIdx (eVar 2) (eLit (.int 1))), (false, e2 oIdx (eVar 2) (eLit (.int 2)))]), (false, eTup [(false, eLit (.str [99, 111, 112, 121])), (false, e2 oIdx (eVar 2) (eLit (.int 0))), (false, e2 oAdd (eLit (.int 1)) (e2 oIdx (eVar 2) (eLit (.int 1))))]), (false, eTup [(false, eLit (.str [100, 114, 111, 112])), (false, e2 oIdx (eVar 2) (eLit (.int 0)))]), (false, eTup [(false, eLit (.str [116, 101, 108, 108])), (false, e2 oIdx (eVar 2) (eLit (.int 0))), (false, e2 oIdx (eVar 3) (eLit (.int 0)))]), (false, eTup [(false, eLit (.str [103, 111])), (false, e2 oIdx (eVar 2) (eLit (.int 0))), (false, eLit (.str [112, 50])), (false, eSl (eTup [(false, e2 oIdx (eVar 3) (eLit (.int 0))), (false, e2 oIdx (eVar 3) (eLit (.int 1)))]) none (some (e2 oMod (e2 oIdx (eVar 2) (eLit (.int 1))) (eLit (.int 3))))), (false, eSl (eTup [(false, e2 oIdx (eVar 2) (eLit (.int 2))), (false, e2 oIdx (eVar 2) (eLit (.int 3)))]) none (some (e2 oMod (e2 oIdx (eVar 2) (eLit (.int 4))) (eLit (.int 3)))))]), (false, eTup [(false, eLit (.str [115, 117, 109])), (false, e2 oIdx (eVar 2) (eLit (.int 0))), (false, e2 oIdx (eVar 2) (eLit (.int 1))), (false, eSl (eTup [(false, e2 oIdx (eVar 2) (eLit (.int 2))), (false, e2 oIdx (eVar 2) (eLit (.int 3)))]) none (some (e2 oMod (e2 oIdx (eVar 2) (eLit (.int 4))) (eLit (.int 3))))), (false, e2 oIdx (eVar 2) (eLit (.int 5)))]), (false, eTup [(false, eLit (.str [101, 110, 100]))])])]
def F__law_good : FF := fDef 7 B__law_good
def L__law_bad_1 : FS := sFor (.one 3) (wSeq (eLst [(false, eTup [(false, eLit (.str [114])), (false, e1 oNeg (eLit (.int 1)))]), (false, eTup [(false, eLit (.str [114]))]), (false, eTup [(false, eLit (.str [114])), (false, eLit (.int 1)), (false, eLit (.int 2))]), (false, eTup [(false, eLit (.str [117])), (false, eLit (.int 3))]), (false, eTup [(false, eLit (.str [99])), (false, eLit (.str [101, 110, 100]))]), (false, eTup [(false, eLit (.str [99])), (false, eLit (.str [105, 102])), (false, eTup [])]), (false, eTup [(false, eLit (.str [99])), (false, eLit (.str [101, 110, 100])), (false, eLit (.int 5))]), (false, eTup [(false, eLit (.str [99])), (false, eLit (.str [97])), (false, eTup [(false, eTup [(false, eLit (.str [114])), (false, eLit (.str [98]))])])]), (false, eLit (.str [120]))])) (blk [
      sAsg 4 (eVar 3),
      sIf (tOf (e2 oEq (e2 oIdx (eVar 0) (eLit (.int 0))) (eLit (.str [103, 111])))) (blk [
        sAsg 4 (eTup [(false, eVar 3)])]) (blk []),
      sExpr (eApp mAppend (eVar 1) (e2 oAdd (e2 oAdd (eSl (eVar 0) none (some (eVar 2))) (eTup [(false, eVar 4)])) (eSl (eVar 0) (some (e2 oAdd (eVar 2) (eLit (.int 1)))) none)))]) [3, 4]
def B__law_bad : FS := blk [
  sAsg 1 (eLst [(false, e2 oAdd (eVar 0) (eTup [(false, eLit (.int 0))])), (false, e2 oAdd (eTup [(false, eLit (.str [106, 117, 109, 112]))]) (eSl (eVar 0) (some (eLit (.int 1))) none)), (false, e2 oAdd (eTup [(false, eM0 oUpper (e2 oIdx (eVar 0) (eLit (.int 0))))]) (eSl (eVar 0) (some (eLit (.int 1))) none))]),
  sIf (tOf (e2 oGt (eBi bLen [eVar 0]) (eLit (.int 1)))) (blk [
    sAsg 1 (e2 oAdd (eVar 1) (eLst [(false, eSl (eVar 0) none (some (e1 oNeg (eLit (.int 1))))), (false, e2 oAdd (eTup [(false, e2 oIdx (eVar 0) (eLit (.int 0))), (false, eLit (.str [120]))]) (eSl (eVar 0) (some (eLit (.int 2))) none)), (false, e2 oAdd (eTup [(false, e2 oIdx (eVar 0) (eLit (.int 0))), (false, e1 oNeg (eLit (.int 1)))]) (eSl (eVar 0) (some (eLit (.int 2))) none)), (false, e2 oAdd (eTup [(false, e2 oIdx (eVar 0) (eLit (.int 0))), (false, eTup [])]) (eSl (eVar 0) (some (eLit (.int 2))) none))]))]) (blk []),
  sIf (tOf (e2 oEq (e2 oIdx (eVar 0) (eLit (.int 0))) (eLit (.str [108, 111, 111, 107])))) (blk [
    sAsg 1 (e2 oAdd (eVar 1) (eLst [(false, e2 oAdd (e2 oAdd (eSl (eVar 0) none (some (eLit (.int 3)))) (eTup [(false, eLit (.int 2))])) (eSl (eVar 0) (some (eLit (.int 4))) none)), (false, e2 oAdd (eSl (eVar 0) none (some (eLit (.int 4)))) (eTup [(false, eTup [(false, eTup [(false, eLit (.int 1)), (false, e1 oNeg (eLit (.int 1)))])]), (false, eLit (.int 0))])), (false, e2 oAdd (eSl (eVar 0) none (some (eLit (.int 4)))) (eTup [(false, eTup [(false, eTup [(false, eLit (.int 1)), (false, eLit (.int 2)), (false, eLit (.int 3))])]), (false, eLit (.int 0))])), (false, e2 oAdd (eSl (eVar 0) none (some (eLit (.int 4)))) (eTup [(false, eTup [(false, eTup [(false, eLit (.str [101, 110, 100])), (false, eLit (.int 2))])]), (false, eLit (.int 0))]))])),
    sAsg 1 (e2 oAdd (eVar 1) (eLst [(false, e2 oAdd (eSl (eVar 0) none (some (eLit (.int 4)))) (eTup [(false, eTup [(false, eTup [(false, eTup [(false, eLit (.str [119, 97, 105, 116])), (false, eLit (.int 1))]), (false, eLit (.int 2))])]), (false, eLit (.int 0))])), (false, e2 oAdd (eSl (eVar 0) none (some (eLit (.int 4)))) (eTup [(false, eTup [(false, eTup [(false, eTup [(false, eLit (.str [99])), (false, e1 oNeg (eLit (.int 1)))]), (false, eLit (.int 2))])]), (false, eLit (.int 0))])), (false, e2 oAdd (eSl (eVar 0) none (some (eLit (.int 5)))) (eTup [(false, e1 oNeg (eLit (.int 2)))])), (false, e2 oAdd (eSl (eVar 0) none (some (eLit (.int 4)))) (eTup [(false, eLit (.int 3)), (false, eLit (.int 0))]))]))]) (blk []),
  sIf (tOf (e2 oIn (e2 oIdx (eVar 0) (eLit (.int 0))) (eLst [(false, eLit (.str [116, 101, 108, 108])), (false, eLit (.str [103, 111]))]))) (blk [
    sAsg 2 (e1 (oGetK [([116, 101, 108, 108], .int 2), ([103, 111], .int 3)]) (e2 oIdx (eVar 0) (eLit (.int 0)))),
    L__law_bad_1]) (blk []),
  sIf (tOf (e2 oEq (e2 oIdx (eVar 0) (eLit (.int 0))) (eLit (.str [103, 111])))) (blk [
    sAsg 1 (e2 oAdd (eVar 1) (eLst [(false, e2 oAdd (e2 oAdd (eSl (eVar 0) none (some (eLit (.int 2)))) (eTup [(false, eLit (.str [100, 101, 102]))])) (eSl (eVar 0) (some (eLit (.int 3))) none)), (false, e2 oAdd (e2 oAdd (eSl (eVar 0) none (some (eLit (.int 2)))) (eTup [(false, eLit (.int 4))])) (eSl (eVar 0) (some (eLit (.int 3))) none)), (false, e2 oAdd (eSl (eVar 0) none (some (eLit (.int 4)))) (eTup [(false, eTup [(false, eLit (.int 0)), (false, e1 oNeg (eLit (.int 1)))])])), (false, e2 oAdd (eSl (eVar 0) none (some (eLit (.int 4)))) (eTup [(false, eLit (.int 7))])), (false, e2 oAdd (eSl (eVar 0) none (some (eLit (.int 3)))) (eTup [(false, eLit (.int 1)), (false, eTup [])]))]))]) (blk []),
  sIf (tOf (e2 oEq (e2 oIdx (eVar 0) (eLit (.int 0))) (eLit (.str [110, 117, 109, 98, 101, 114])))) (blk [
    sExpr (eApp mAppend (eVar 1) (e2 oAdd (eSl (eVar 0) none (some (eLit (.int 3)))) (eTup [(false, eLit (.int 2))])))]) (blk []),
  sIf (tOf (e2 oEq (e2 oIdx (eVar 0) (eLit (.int 0))) (eLit (.str [99, 111, 112, 121])))) (blk [
    sExpr (eApp mAppend (eVar 1) (eTup [(false, eLit (.str [99, 111, 112, 121])), (false, e2 oIdx (eVar 0) (eLit (.int 1))), (false, eLit (.int 0))]))]) (blk []),
  sIf (tOf (e2 oEq (e2 oIdx (eVar 0) (eLit (.int 0))) (eLit (.str [115, 101, 116])))) (blk [
    sExpr (eApp mAppend (eVar 1) (eTup [(false, eLit (.str [115, 101, 116])), (false, e2 oIdx (eVar 0) (eLit (.int 1))), (false, e2 oAdd (e2 oPow (eLit (.int 10)) (eLit (.int 12))) (eLit (.int 1)))]))]) (blk []),
  sIf (tOf (e2 oEq (e2 oIdx (eVar 0) (eLit (.int 0))) (eLit (.str [117, 110, 108, 101, 115, 115])))) (blk [
    sExpr (eApp mAppend (eVar 1) (e2 oAdd (eTup [(false, eLit (.str [117, 110, 108, 101, 115, 115])), (false, eLit (.str [109, 111, 114, 101]))]) (eSl (eVar 0) (some (eLit (.int 2))) none)))]) (blk []),
  sRet (eVar 1)]
def F__law_bad : FF := fDef 5 B__law_bad
def C__law_filled_1 (r : Nat → FF) : FE := eComp (eCall (r 0) [eVar 2, eVar 1]) (.one 2) (wSeq (e2 oIdx (eVar 0) (eLit (.int 2)))) (tTrue) [2]
def B__law_filled (r : Nat → FF) : FS := blk [
  sIf (Pd.tNot (tOf (e1 (oIsT .tuple) (eVar 0)))) (blk [
    sRet (eVar 0)]) (blk []),
  sIf (tOf (e2 oEq (e2 oIdx (eVar 0) (eLit (.int 0))) (eLit (.str [114])))) (blk [
    sRet (e2 oIdx (eVar 1) (e2 oIdx (eVar 0) (eLit (.int 1))))]) (blk []),
  sRet (eTup [(false, eLit (.str [99])), (false, e2 oIdx (eVar 0) (eLit (.int 1))), (false, eBi bTuple [(C__law_filled_1 r)])])]
def R__law_filled : Nat → Nat → FF
  | 0, _ => fun _ _ => .bad
  | k + 1, 0 => fDef 3 (B__law_filled (R__law_filled k))
  | _ + 1, _ => fun _ _ => .bad
def F__law_filled : FF := R__law_filled 100 0
def C__law_far_1 : FE := eComp (e2 oAdd (e2 oAdd (e2 oPow (eLit (.int 10)) (eLit (.int 12))) (eLit (.int 1))) (eBi bInt [eVar 9])) (.one 9) (wSeq (eSl (eVar 0) none (some (eLit (.int 6))))) (tTrue) [9]
def L__law_far_1 : FS := sFor (.one 5) (wRange [eLit (.int 40)]) (blk [
    sAsg 2 (eTup [(false, eLit (.str [99])), (false, eLit (.str [97, 98, 99, 100, 101, 102, 103, 104, 105, 106, 107, 108])), (false, e2 oAdd (e2 oMulX (eTup [(false, eLit (.int 3))]) (e2 oMod (eVar 5) (eLit (.int 8)))) (eTup [(false, eVar 2)]))]),
    sAsg 3 (eTup [(false, eLit (.str [99])), (false, eLit (.str [97, 98, 99, 100, 101, 102, 103, 104, 105, 106, 107, 108])), (false, e2 oAdd (e2 oMulX (eTup [(false, eLit (.int 3))]) (e2 oMod (eVar 5) (eLit (.int 8)))) (eTup [(false, eVar 3)]))]),
    sAsg 4 (eTup [(false, eLit (.str [99])), (false, eLit (.str [97, 98, 99, 100, 101, 102, 103, 104, 105, 106, 107, 108])), (false, e2 oAdd (e2 oMulX (eTup [(false, eLit (.int 3))]) (e2 oMod (eVar 5) (eLit (.int 8)))) (eTup [(false, eVar 4)]))])]) [5]
def C__law_far_2 : FE := eComp (eTup [(false, eTup [(false, e2 oAdd (eLit (.str [99])) (eBi bStr [eVar 5])), (false, eVar 5)]), (false, e2 oIdx (eVar 1) (e2 oMod (eVar 5) (eLit (.int 6))))]) (.one 5) (wRange [eLit (.int 40)]) (tTrue) [5]
def C__law_far_3 : FE := eComp (e2 oIs (eCall F_is_instruction [eVar 9]) (eLit (.bl true))) (.one 9) (wSeq (eVar 7)) (tTrue) [9]
def C__law_far_4 : FE := eComp (e2 oIs (eCall F_is_instruction [eVar 9]) (eLit (.bl false))) (.one 9) (wSeq (eVar 8)) (tTrue) [9]
def C__law_far_5 : FE := eComp (eTup [(false, eLit (.str [117])), (false, eTup [(false, eTup []), (false, eVar 5)])]) (.one 5) (wRange [eLit (.int 6)]) (tTrue) [5]
def B__law_far : FS := blk [
  sAsg 1 (eFrz (C__law_far_1)),
  sAsg 2 (eTup [(false, eLit (.str [114])), (false, e2 oIdx (eVar 1) (eLit (.int 0)))]),
  sAsg 3 (eTup [(false, eLit (.str [114])), (false, eLit (.int 5))]),
  sAsg 4 (eTup [(false, eLit (.str [117])), (false, eTup [(false, eTup []), (false, eLit (.int 5))])]),
  L__law_far_1,
  sAsg 6 (eBi bTuple [C__law_far_2]),
  sAsg 7 (eFrz (eLst [(false, eTup [(false, eLit (.str [108, 111, 111, 107])), (false, e2 oIdx (eVar 1) (eLit (.int 0))), (false, e2 oIdx (eVar 1) (eLit (.int 1))), (false, eLit (.int 1)), (false, eVar 6), (false, e2 oIdx (eVar 1) (eLit (.int 2)))]), (false, eTup [(false, eLit (.str [112, 97, 114, 116, 115])), (false, e2 oIdx (eVar 1) (eLit (.int 0))), (false, e2 oIdx (eVar 1) (eLit (.int 1))), (false, e2 oIdx (eVar 1) (eLit (.int 2)))]), (false, eTup [(false, eLit (.str [110, 117, 109, 98, 101, 114])), (false, e2 oIdx (eVar 1) (eLit (.int 0))), (false, e2 oIdx (eVar 1) (eLit (.int 1))), (false, eLit (.int 0))]), (false, eTup [(false, eLit (.str [115, 101, 116])), (false, e2 oIdx (eVar 1) (eLit (.int 0))), (false, e2 oPow (eLit (.int 10)) (eLit (.int 12)))]), (false, eTup [(false, eLit (.str [115, 101, 116])), (false, e2 oIdx (eVar 1) (eLit (.int 0))), (false, e2 oSub (eLit (.int 0)) (e2 oPow (eLit (.int 10)) (eLit (.int 12))))])])),
  sAsg 7 (eFrz (e2 oAdd (eVar 7) (eLst [(false, eTup [(false, eLit (.str [109, 117, 108])), (false, e2 oIdx (eVar 1) (eLit (.int 0))), (false, e2 oIdx (eVar 1) (eLit (.int 1))), (false, e2 oIdx (eVar 1) (eLit (.int 2)))]), (false, eTup [(false, eLit (.str [117, 110, 108, 101, 115, 115])), (false, eLit (.str [109, 111, 115, 116])), (false, e2 oIdx (eVar 1) (eLit (.int 0))), (false, e2 oIdx (eVar 1) (eLit (.int 1))), (false, e2 oIdx (eVar 1) (eLit (.int 2)))]), (false, eTup [(false, eLit (.str [110, 101, 119])), (false, e2 oIdx (eVar 1) (eLit (.int 0))), (false, e2 oIdx (eVar 1) (eLit (.int 1))), (false, e2 oIdx (eVar 1) (eLit (.int 2)))]), (false, eTup [(false, eLit (.str [99, 111, 112, 121])), (false, e2 oIdx (eVar 1) (eLit (.int 0))), (false, e2 oIdx (eVar 1) (eLit (.int 1)))]), (false, eTup [(false, eLit (.str [100, 114, 111, 112])), (false, e2 oIdx (eVar 1) (eLit (.int 0)))])]))),
  sAsg 7 (eFrz (e2 oAdd (eVar 7) (eLst [(false, eTup [(false, eLit (.str [116, 101, 108, 108])), (false, e2 oIdx (eVar 1) (eLit (.int 0))), (false, eVar 2)]), (false, eTup [(false, eLit (.str [103, 111])), (false, e2 oIdx (eVar 1) (eLit (.int 0))), (false, eLit (.str [97, 98, 99, 100, 101, 102, 103, 104, 105, 106, 107, 108])), (false, e2 oMulX (eTup [(false, eVar 2)]) (eLit (.int 30))), (false, eBi bTuple [e2 oMulX (eVar 1) (eLit (.int 5))])]), (false, eTup [(false, eLit (.str [115, 117, 109])), (false, e2 oIdx (eVar 1) (eLit (.int 0))), (false, e2 oIdx (eVar 1) (eLit (.int 1))), (false, eBi bTuple [e2 oMulX (eVar 1) (eLit (.int 5))]), (false, e2 oIdx (eVar 1) (eLit (.int 2)))]), (false, eTup [(false, eLit (.str [115, 101, 116])), (false, e2 oIdx (eVar 1) (eLit (.int 0))), (false, eLit (.int 0))])]))),
  sAsg 8 (eFrz (eLst [(false, eTup [(false, eLit (.str [115, 101, 116])), (false, e2 oIdx (eVar 1) (eLit (.int 0))), (false, e2 oSub (e2 oSub (eLit (.int 0)) (e2 oPow (eLit (.int 10)) (eLit (.int 12)))) (eLit (.int 1)))]), (false, eTup [(false, eLit (.str [103, 111])), (false, eLit (.int 0)), (false, eLit (.str [97, 98, 99, 100, 101, 102, 103, 104, 105, 106, 107, 108, 109])), (false, eTup []), (false, eTup [])]), (false, eTup [(false, eLit (.str [116, 101, 108, 108])), (false, eLit (.int 0)), (false, eTup [(false, eLit (.str [99])), (false, eLit (.str [97, 98, 99, 100, 101, 102, 103, 104, 105, 106, 107, 108, 109])), (false, eTup [])])]), (false, eTup [(false, eLit (.str [108, 111, 111, 107])), (false, eLit (.int 0)), (false, eLit (.int 0)), (false, eLit (.int 0)), (false, e2 oAdd (eVar 6) (eTup [(false, eTup [(false, eTup [(false, eLit (.str [99])), (false, e1 oNeg (eLit (.int 1)))]), (false, eLit (.int 0))])])), (false, eLit (.int 0))])])),
  sIf (Pd.tOr (Pd.tNot (tOf (eBi bAll [C__law_far_3]))) (Pd.tNot (tOf (eBi bAll [C__law_far_4])))) (blk [
    sRet (eLit (.bl false))]) (blk []),
  sRet (eAnd (e2 oIs (eCall F_is_template [eVar 2]) (eLit (.bl true))) (e2 oEq (eCall F_filled [eVar 3, eFrz (C__law_far_5)]) (eVar 4)))]
def F__law_far : FF := fDef 10 B__law_far
def L_law_1 : FS := sFor (.one 5) (wSeq (eCall F__law_bad [eVar 4])) (blk [
        sIf (tOf (e2 oIsNot (eCall F_is_instruction [eVar 5]) (eLit (.bl false)))) (blk [
          sRet (eLit (.bl false))]) (blk [])]) [5]
def L_law_2 : FS := sFor (.one 4) (wSeq (eCall F__law_good [eVar 2, eVar 3])) (blk [
      sIf (tOf (e2 oIsNot (eCall F_is_instruction [eVar 4]) (eLit (.bl true)))) (blk [
        sRet (eLit (.bl false))]) (blk []),
      L_law_1]) [4, 5]
def C_law_1 : FE := eComp (eTup [(false, eLit (.str [117])), (false, eTup [(false, eTup []), (false, eVar 10)])]) (.one 10) (wRange [eLit (.int 6)]) (tTrue) [10]
def L_law_3 : FS := sFor (.one 8) (wRange [eLit (.int 3)]) (blk [
      sAsg 9 (eCall F__law_template [eVar 2, eVar 3, eLit (.int 3)]),
      sIf (Pd.tOr (tOf (e2 oIsNot (eCall F_is_template [eVar 9]) (eLit (.bl true)))) (Pd.tOr (tOf (e2 oNe (eCall F_filled [eVar 9, eVar 6]) (eCall F__law_filled [eVar 9, eVar 6]))) (tOf (e2 oNe (eVar 6) (eVar 7))))) (blk [
        sRet (eLit (.bl false))]) (blk [])]) [8, 9]
def L_law_4 : FS := sFor (.one 5) (wSeq (eLst [(false, eTup [(false, eLit (.str [114])), (false, e1 oNeg (eLit (.int 1)))]), (false, eTup [(false, eLit (.str [114]))]), (false, eTup [(false, eLit (.str [99])), (false, eLit (.str [120]))]), (false, eTup [(false, eLit (.str [99])), (false, eLit (.str [57])), (false, eTup [])]), (false, eTup [(false, eLit (.str [99])), (false, eLit (.str [120])), (false, eTup [(false, eTup [])])]), (false, eTup [(false, eLit (.str [100])), (false, eLit (.int 1))]), (false, eTup [(false, eLit (.str [99])), (false, eLit (.str [120])), (false, eLit (.int 1))])])) (blk [
      sIf (tOf (e2 oIsNot (eCall F_is_template [eVar 5]) (eLit (.bl false)))) (blk [
        sRet (eLit (.bl false))]) (blk [])]) [5]
def L_law_5 : FS := sFor (.one 1) (wRange [eBi bMax2 [eLit (.int 1), eBi bMin2 [eBi bLen [eVar 0], eLit (.int 3)]]]) (blk [
    sAsg 2 (eFrz (eCall F__law_numbers [eCall F__law_cell [eVar 0, eVar 1], eVar 1, eLit (.int 40)])),
    sAsg 3 (eLst [(false, eLit (.int 0))]),
    L_law_2,
    sAsg 6 (eFrz (e2 oAdd (C_law_1) (eLst [(false, eLit (.int 5)), (false, eTup [(false, eLit (.str [99])), (false, eLit (.str [101, 110, 100])), (false, eTup [])]), (false, eTup [(false, eLit (.str [99])), (false, eLit (.str [115, 111, 109, 101])), (false, eTup [(false, eTup [(false, eLit (.str [117])), (false, eTup [(false, eTup [(false, eLit (.int 1))]), (false, eLit (.int 2))])])])])]))),
    sAsg 7 (eFrz (eBi bList [eVar 6])),
    L_law_3,
    L_law_4,
    sIf (Pd.tNot (tOf (eCall F__law_far [eVar 2]))) (blk [
      sRet (eLit (.bl false))]) (blk [])]) [1, 2, 3, 4, 5, 6, 7, 8, 9]
def B_law : FS := blk [
  L_law_5,
  sRet (eLit (.bl true))]
def F_law : FF := fDef 11 B_law
end Lw
end

section -- L40
set_option linter.all false
set_option autoImplicit false
set_option maxRecDepth 100000
namespace Lw
open Pd
/-! the numbers -/
theorem is_bb (a b : Bool) : oIs (.bl a) (.bl b) = some (.p (.bl (decide (a = b)))) := opq rfl
theorem isNot_bb (a b : Bool) : oIsNot (.bl a) (.bl b) = some (.p (.bl (!decide (a = b)))) := opq rfl
theorem pow10 (n : Nat) (h : n ≤ 1000) : oPow (.int 10) (.int n) = some (.p (.int (10 ^ n))) := by
  show gd (0 ≤ (n : Int) ∧ (n : Int) ≤ 1000000 ∧ (10 : Int).natAbs < 2 ^ 64) (some (NV.p (P.int (10 ^ (n : Int).toNat)))) = _
  rw [gd_pos ⟨by omega, by omega, by decide⟩]
  rfl
@[simp] theorem pow12 : oPow (.int 10) (.int 12) = some (.p (.int 1000000000000)) := pow10 12 (by decide)
@[simp] theorem pow13 : oPow (.int 10) (.int 13) = some (.p (.int 10000000000000)) := pow10 13 (by decide)
@[simp] theorem pow14 : oPow (.int 10) (.int 14) = some (.p (.int 100000000000000)) := pow10 14 (by decide)
@[simp] theorem pow18 : oPow (.int 10) (.int 18) = some (.p (.int 1000000000000000000)) := pow10 18 (by decide)
theorem cell_ok (ns : List Int) (k : Nat) : ∃ c : Int, F__law_cell [.p (.ro (ns.map .int)), .p (.int k)] [] = .ok (.p (.int c)) [] := by
  unfold F__law_cell B__law_cell
  by_cases h : k < ns.length
  · exact ⟨ns[k], by simp [h]⟩
  · exact ⟨0, by simp [h]⟩
theorem nums1 (c : Int) (k : Nat) : ∃ row : List Nat, ∃ r : Int, L__law_numbers_1 [some (.p (.int c)), some (.p (.int k)), some (.p (.int 40)), some (.r 0), some (.p (.int c)), none, none, none] [.lst []] = .next [some (.p (.int c)), some (.p (.int k)), some (.p (.int 40)), some (.r 0), some (.p (.int r)), none, none, none] [.lst (row.map fun n => P.int (n : Nat))] ∧ row.length = 40 ∧ ∀ x ∈ row, x < 1000 := by
  unfold L__law_numbers_1
  refine Ex.to (for_range (σ := List Nat × Int) 40 (fun s => ([some (.p (.int c)), some (.p (.int k)), some (.p (.int 40)), some (.r 0), some (.p (.int s.2)), none, none, none], [.lst (s.1.map fun n => P.int (n : Nat))])) (fun j s => s.1.length = j ∧ ∀ x ∈ s.1, x < 1000) ([], c) ?_ rfl ?_ ?_) fun s h => ⟨s.1, s.2, h⟩
  · simp
  · simp
  · intro j s hj hI
    have hl : s.1.length < 16777216 := by omega
    obtain ⟨m, e, hm⟩ := nat_of (i := s.2) (n := 1000) (by decide)
    refine ⟨(s.1 ++ [m], s.2 / 1000), ?_, ?_⟩
    · simp [hl, e]
    · simp only [List.length_append, hI.1, List.length_singleton, true_and]
      intro x hx
      rcases List.mem_append.mp hx with h | h
      · exact hI.2 x h
      · cases List.mem_singleton.mp h; omega
theorem nums2 (c : Int) (k : Nat) (m : Nat) (hm : m < 2147483647) : ∃ row : List Nat, ∃ r : Nat, L__law_numbers_2 [some (.p (.int c)), some (.p (.int k)), some (.p (.int 40)), some (.r 0), none, none, some (.p (.int m)), none] [.lst []] = .next [some (.p (.int c)), some (.p (.int k)), some (.p (.int 40)), some (.r 0), none, none, some (.p (.int r)), none] [.lst (row.map fun n => P.int (n : Nat))] ∧ row.length = 40 ∧ ∀ x ∈ row, x < 1000 := by
  unfold L__law_numbers_2
  refine Ex.to (for_range (σ := List Nat × Nat) 40 (fun s => ([some (.p (.int c)), some (.p (.int k)), some (.p (.int 40)), some (.r 0), none, none, some (.p (.int s.2)), none], [.lst (s.1.map fun n => P.int (n : Nat))])) (fun j s => s.1.length = j ∧ (∀ x ∈ s.1, x < 1000) ∧ s.2 < 2147483647) ([], m) ?_ rfl ?_ ?_) fun s h => ⟨s.1, s.2, h.1, h.2.1, h.2.2.1⟩
  · simp
  · simp [hm]
  · intro j s hj hI
    have hl : s.1.length < 16777216 := by omega
    obtain ⟨m1, e1, hm1⟩ := nat_of (i := (s.2 : Int) * 16807 + j * 7919 + 13) (n := 2147483647) (by decide)
    obtain ⟨m2, e2, hm2⟩ := nat_of (i := ((m1 : Int) * m1 + k * 31 + j) % 1000000007 / 101) (n := 1000) (by decide)
    have g : (-(2 ^ 64 : Int) < m1 ∧ (m1 : Int) < 2 ^ 64) := by omega
    refine ⟨(s.1 ++ [m2], m1), ?_, ?_⟩
    · have : oMul (.int m1) (.int m1) = some (.p (.int ((m1 : Int) * m1))) := mul_i (Or.inl g)
      simp [hl, e1, e2, this]
    · simp only [List.length_append, hI.1, List.length_singleton, true_and]
      refine ⟨fun x hx => ?_, by omega⟩
      rcases List.mem_append.mp hx with h | h
      · exact hI.2.1 x h
      · cases List.mem_singleton.mp h; omega
abbrev eN (row : List Nat) : List P := row.map fun n => P.int (n : Nat)
theorem numbers_ok (c : Int) (k : Nat) (hk : k < 10) : ∃ row : List Nat, F__law_numbers [.p (.int c), .p (.int k), .p (.int 40)] [] = .ok (.r 0) [.lst (eN row)] ∧ row.length = 40 ∧ ∀ x ∈ row, x < 1000 := by
  unfold F__law_numbers B__law_numbers
  by_cases h : 1000000000000000000 ≤ c
  · obtain ⟨row, r, e, q⟩ := nums1 c k
    exact ⟨row, by simp [h, e], q⟩
  · obtain ⟨m, e1, hm⟩ := nat_of (i := c * 48271 + k * 69621 + 11) (n := 2147483647) (by decide)
    obtain ⟨row, r, e, q⟩ := nums2 c k m (by omega)
    exact ⟨row, by simp [h, e, e1], q⟩
/-- what a pick gives -/
def pk (row : List Nat) (a : Nat) : Nat := row.getD (a % 40) 0 + a / 40 * 7
theorem pick_ok (row : List Nat) (hr : row.length = 40) (a : Nat) : F__law_pick [.p (.lst (eN row)), .r 0] [.lst [.int a]] = .ok (.p (.int (pk row (a + 1)))) [.lst [.int ((a + 1 : Nat) : Int)]] := by
  unfold F__law_pick B__law_pick
  have hlt : (a + 1) % 40 < row.length := by omega
  have e1 : ((a : Int) + 1) % 40 = (((a + 1) % 40 : Nat) : Int) := by omega
  have e2 : ((a : Int) + 1) / 40 = (((a + 1) / 40 : Nat) : Int) := by omega
  obtain ⟨v, e3, e4⟩ : ∃ v, row[(a + 1) % 40]? = some v ∧ row.getD ((a + 1) % 40) 0 = v := ⟨row[(a + 1) % 40], by simp [hlt], by simp [hlt]⟩
  unfold pk
  rw [e4]
  clear e4 hlt
  generalize (a + 1) % 40 = x at *
  generalize (a + 1) / 40 = y at *
  simp [hr, e1, e2, e3]
end Lw
namespace Lw
open Pd
/-! what is a name, a template, an instruction: in plain Lean -/
abbrev letL : List Nat := [97, 98, 99, 100, 101, 102, 103, 104, 105, 106, 107, 108, 109, 110, 111, 112, 113, 114, 115, 116, 117, 118, 119, 120, 121, 122, 65, 66, 67, 68, 69, 70, 71, 72, 73, 74, 75, 76, 77, 78, 79, 80, 81, 82, 83, 84, 85, 86, 87, 88, 89, 90]
abbrev sigL : List Nat := [97, 98, 99, 100, 101, 102, 103, 104, 105, 106, 107, 108, 109, 110, 111, 112, 113, 114, 115, 116, 117, 118, 119, 120, 121, 122, 65, 66, 67, 68, 69, 70, 71, 72, 73, 74, 75, 76, 77, 78, 79, 80, 81, 82, 83, 84, 85, 86, 87, 88, 89, 90, 48, 49, 50, 51, 52, 53, 54, 55, 56, 57]
abbrev resL : List (List Nat) := [[100, 101, 102], [119, 97, 105, 116], [105, 102], [101, 108, 115, 101], [97, 115, 107]]
abbrev relL : List (List Nat) := [[108, 101, 115, 115], [109, 111, 115, 116], [115, 97, 109, 101]]
def nmB (s : List Nat) : Bool := match s with
  | [] => false
  | a :: r => decide ((a :: r).length ≤ 12) && !decide ((a :: r) ∈ resL) && decide (a ∈ letL) && (a :: r).all fun c => decide (c ∈ sigL)
def ixB : P → Bool
  | .int i => decide (0 ≤ i)
  | _ => false
def wdB : P → Bool
  | .str s => nmB s
  | _ => false
def sB (s : List Nat) : P → Bool
  | .str t => t == s
  | _ => false
def inR : P → Bool
  | .str s => decide (s ∈ relL)
  | _ => false
def nbB : P → Bool
  | .int i => decide (-1000000000000 ≤ i ∧ i ≤ 1000000000000)
  | _ => false
def tsB (f : List P → Bool) : P → Bool
  | .tup xs => f xs
  | _ => false
mutual
def tmB : P → Bool
  | .int _ => true
  | .tup xs => tmT xs
  | _ => false
def tmT : List P → Bool
  | [a, i] => sB [114] a && ixB i
  | [a, w, t] => sB [99] a && wdB w && (match t with | .tup ys => tmBs ys | _ => false)
  | _ => false
def tmBs : List P → Bool
  | [] => true
  | x :: r => tmB x && tmBs r
end
def kyB : P → Bool
  | .tup [w, i] => wdB w && ixB i
  | .int _ => true
  | _ => false
def csB : P → Bool
  | .tup [k, i] => kyB k && ixB i
  | _ => false
def fitB (c : Nat) (v : P) : Bool :=
  if c = 105 then ixB v else
  if c = 98 then ixB v && (match v with | .int i => decide (i ≤ 1) | _ => false) else
  if c = 109 then ixB v && (match v with | .int i => decide (1 ≤ i) | _ => false) else
  if c = 110 then nbB v else
  if c = 119 then inR v else
  if c = 99 then wdB v else
  if c = 116 then tmB v else
  if c = 106 then ixB v || (match v with | .int i => i == -1 | _ => false) else
  match v with
  | .tup xs => if c = 115 then xs.all tmB else if c = 108 then xs.all ixB else xs.all csB
  | _ => false
def fitsB : List Nat → List P → Bool
  | [], [] => true
  | c :: r, v :: vs => fitB c v && fitsB r vs
  | _, _ => false
def shL (w : List Nat) : Option (List Nat) := match tget tb_SHAPES w with
  | some (.str s) => some s
  | _ => none
def inB : P → Bool
  | .tup (.str w :: xs) => match shL w with
    | some s => fitsB s xs
    | none => false
  | _ => false
mutual
/-- small data: ints, texts, tuples -/
def smB : P → Bool
  | .int _ => true
  | .str s => decide (s.length ≤ 1000)
  | .tup xs => decide (xs.length ≤ 1000) && smBs xs
  | _ => false
def smBs : List P → Bool
  | [] => true
  | x :: r => smB x && smBs r
end
theorem smBs_all (xs : List P) : smBs xs = xs.all smB := by
  induction xs with
  | nil => rfl
  | cons x r ih => simp only [smBs, List.all_cons, ih]
theorem tmBs_all (xs : List P) : tmBs xs = xs.all tmB := by
  induction xs with
  | nil => rfl
  | cons x r ih => simp only [tmBs, List.all_cons, ih]
inductive Sm : P → Prop
  | int (i : Int) : Sm (.int i)
  | str (s : List Nat) (h : s.length ≤ 1000) : Sm (.str s)
  | tup (xs : List P) (h : xs.length ≤ 1000) (hs : ∀ x ∈ xs, smB x = true) : Sm (.tup xs)
theorem sm_of {x : P} (h : smB x = true) : Sm x := by
  cases x with
  | int i => exact .int i
  | str s => exact .str s (by simpa [smB] using h)
  | tup xs =>
    simp only [smB, smBs_all, Bool.and_eq_true, decide_eq_true_eq, List.all_eq_true] at h
    exact .tup xs h.1 h.2
  | _ => simp [smB] at h
theorem tm_i (i : Int) : tmB (.int i) = true := by rw [tmB]
theorem tm_s (s : List Nat) : tmB (.str s) = false := by rw [tmB]; exact fun _ h => nomatch h; exact fun _ h => nomatch h
theorem tm_0 : tmB (.tup []) = false := by decide
theorem tm_1 (a : P) : tmB (.tup [a]) = false := by rw [tmB, tmT]; all_goals intros; simp_all
theorem tm_2 (a i : P) : tmB (.tup [a, i]) = (sB [114] a && ixB i) := by rw [tmB, tmT]
theorem tm_3 (a w t : P) : tmB (.tup [a, w, t]) = (sB [99] a && wdB w && tsB tmBs t) := by
  cases t <;> rw [tmB, tmT]
  all_goals first | rfl | (intro _ h; cases h)
theorem tm_4 (a b c d : P) (r : List P) : tmB (.tup (a :: b :: c :: d :: r)) = false := by rw [tmB, tmT]; all_goals intros; simp_all
theorem in_t (s : List Nat) (l : List (List Nat)) : oIn (.str s) (.tup (l.map .str)) = some (.p (.bl (decide (s ∈ l)))) := by
  have : oIn (.str s) (.tup (l.map .str)) = gd ((P.str s).dep ≤ 100) (some (.p (.bl ((l.map P.str).any fun z => z.eqv (.str s))))) := by
    rcases s with _ | ⟨a, _ | ⟨b, r⟩⟩ <;> rfl
  rw [this, gd_pos (by simp [P.dep]), any_str]
theorem name_ok (s : List Nat) (h : s.length ≤ 1000) : F_is_name [.p (.str s)] [] = .ok (.p (.bl (nmB s))) [] := by
  have comp : C_is_name_1 [some (.p (.str s)), none] [] = .ok (.r 0) [.lst (s.map fun c => .bl (decide (c ∈ sigL)))] := by
    unfold C_is_name_1
    refine (comp_pure (.p (.str s)) (fun c => P.str [c]) s (fun _ => true) (fun c => .bl (decide (c ∈ sigL))) ?_ ?_ rfl ?_).trans ?_
    · have : s.length ≤ 16777216 := by omega
      simp [this]
    · omega
    · intro c hc
      refine ⟨_, rfl, rfl, fun _ => ?_⟩
      simp
    · simp
  have hl : s.length ≤ 16777216 := by omega
  have hin : oIn (.str s) (.tup [.str [100, 101, 102], .str [119, 97, 105, 116], .str [105, 102], .str [101, 108, 115, 101], .str [97, 115, 107]]) = some (.p (.bl (decide (s ∈ resL)))) := in_t s resL
  unfold F_is_name B_is_name
  cases s with
  | nil => simp [nmB]
  | cons a r =>
    have h0 : ¬ (((a :: r).length : Nat) : Int) < 1 := by simp; omega
    have e : atI (a :: r) 0 = some a := by simp
    have hn : nmB (a :: r) = (decide ((a :: r).length ≤ 12) && !decide ((a :: r) ∈ resL) && decide (a ∈ letL) && (a :: r).all fun c => decide (c ∈ sigL)) := rfl
    rw [hn]
    clear hn
    generalize a :: r = s at *
    by_cases h1 : s.length ≤ 12
    · have h1' : ¬ (12 : Int) < s.length := by omega
      by_cases h2 : s ∈ resL
      · have h2' : decide (s ∈ resL) = true := by rw [decide_eq_true_eq]; exact h2
        rw [h2'] at hin
        simp only [h1, h2']
        simp [hl, h0, h1', hin]
      · have h2' : decide (s ∈ resL) = false := by rw [decide_eq_false_iff_not]; exact h2
        rw [h2'] at hin
        have hm : oIn (.str [a]) (.str letL) = some (.p (.bl (decide (a ∈ letL)))) := opq rfl
        generalize decide (a ∈ letL) = b at *
        simp only [h1, h2']
        cases b <;> simp [hl, h0, h1', hin, e, comp, hm, -List.mem_cons, -in_char]
    · have h1' : (12 : Int) < s.length := by omega
      simp only [h1, decide_false, Bool.false_and]
      simp [hl, h0, h1']
theorem index_ok (x : P) (h : smB x = true) : F_is_index [.p x] [] = .ok (.p (.bl (ixB x))) [] := by
  unfold F_is_index B_is_index
  cases sm_of h <;> simp [ixB]
theorem number_ok (x : P) (h : smB x = true) : F_is_number [.p x] [] = .ok (.p (.bl (nbB x))) [] := by
  unfold F_is_number B_is_number
  cases sm_of h with
  | int i =>
    simp [bAbs_i, nbB]
    by_cases h : i < 0
    · have q : (-i ≤ 1000000000000) ↔ (-1000000000000 ≤ i ∧ i ≤ 1000000000000) := by omega
      simp [h, ← Bool.decide_and, q]
    · simp [h] <;> omega
  | _ => simp [nbB]
@[simp] theorem isT_ss (s : List Nat) : isT .str (.str s) = true := opq rfl
@[simp] theorem isT_si (i : Int) : isT .str (.int i) = false := opq rfl
@[simp] theorem isT_st (i : List P) : isT .str (.tup i) = false := opq rfl
theorem word_ok (x : P) (h : smB x = true) : F_is_word [.p x] [] = .ok (.p (.bl (wdB x))) [] := by
  unfold F_is_word B_is_word
  cases sm_of h with
  | str s hs => simp [wdB, name_ok s hs]
  | _ => simp [wdB]
theorem eq_str (x : P) (s : List Nat) (h : smB x = true) : oEq x (.str s) = some (.p (.bl (sB s x))) := by
  unfold oEq
  rw [gd_pos (by unfold deepOk; simp [P.dep])]
  cases sm_of h <;> rfl
theorem ne_str (x : P) (s : List Nat) (h : smB x = true) : oNe x (.str s) = some (.p (.bl (!(sB s x)))) := by
  unfold oNe
  rw [gd_pos (by unfold deepOk; simp [P.dep])]
  cases sm_of h <;> rfl
end Lw
namespace Lw
open Pd
theorem sm_dep {xs : List P} {x : P} (h : x ∈ xs) : x.dep ≤ P.deps xs := by
  induction xs with
  | nil => cases h
  | cons y r ih =>
    simp only [P.deps]
    rcases List.mem_cons.mp h with rfl | h
    · omega
    · have := ih h; omega
theorem template_ok : ∀ (k : Nat) (x : P), smB x = true → x.dep < k → R_is_template k 0 [.p x] [] = .ok (.p (.bl (tmB x))) [] := by
  intro k
  induction k with
  | zero => intro x _ h; omega
  | succ k ih =>
    intro x h hd
    show fDef 2 (B_is_template (R_is_template k)) _ _ = _
    unfold B_is_template
    cases sm_of h with
    | int i => rw [tm_i]; simp
    | str s _ => rw [tm_s]; simp
    | tup xs hl hs =>
      rcases xs with _ | ⟨a, _ | ⟨b, _ | ⟨c, _ | ⟨d, r⟩⟩⟩⟩
      · rw [tm_0]; simp
      · rw [tm_1]; simp
      · have ha := hs a (by simp)
        have hb := hs b (by simp)
        have e := eq_str a [114] ha
        have i := index_ok b hb
        rw [tm_2]
        generalize ixB b = bi at *
        generalize sB [114] a = ba at *
        cases ba <;> simp [e, i]
      · have ha := hs a (by simp)
        have hb := hs b (by simp)
        have hc := hs c (by simp)
        have e := ne_str a [99] ha
        have w := word_ok b hb
        rw [tm_3]
        generalize wdB b = bi at *
        generalize sB [99] a = ba at *
        cases ba
        · simp [e]
        cases bi
        · simp [e, w]
        cases sm_of hc with
        | int i => simp [e, w, tsB]
        | str s _ => simp [e, w, tsB]
        | tup ys hl2 hs2 =>
          have comp : C_is_template_1 (R_is_template k) [some (.p (.tup [a, b, .tup ys])), none] [] = .ok (.r 0) [.lst (ys.map fun y => .bl (tmB y))] := by
            unfold C_is_template_1
            refine (comp_pure (.p (.tup ys)) id ys (fun _ => true) (fun y => .bl (tmB y)) ?_ ?_ rfl ?_).trans ?_
            · simp
            · omega
            · intro y hy
              refine ⟨_, rfl, rfl, fun _ => ?_⟩
              have hdy : y.dep < k := by
                have := sm_dep hy
                simp [P.dep, P.deps] at hd
                omega
              simp [ih y (hs2 y hy) hdy]
            · simp
          simp [e, w, comp, tmBs_all, tsB]
      · rw [tm_4]
        have h2 : ¬ (((a :: b :: c :: d :: r).length : Nat) : Int) = 2 := by simp; omega
        have h3 : ¬ (((a :: b :: c :: d :: r).length : Nat) : Int) = 3 := by simp; omega
        generalize a :: b :: c :: d :: r = xs at *
        simp [h2, h3]
theorem template_ok' (x : P) (h : smB x = true) (hd : x.dep < 100) : F_is_template [.p x] [] = .ok (.p (.bl (tmB x))) [] := template_ok 100 x h hd
theorem key_ok (x : P) (h : smB x = true) : F_is_key [.p x] [] = .ok (.p (.bl (kyB x))) [] := by
  unfold F_is_key B_is_key
  cases sm_of h with
  | int i => simp [kyB]
  | str s _ => simp [kyB]
  | tup xs hl hs =>
    rcases xs with _ | ⟨a, _ | ⟨b, _ | ⟨c, r⟩⟩⟩
    · simp [kyB]
    · simp [kyB]
    · have w := word_ok a (hs a (by simp))
      have i := index_ok b (hs b (by simp))
      simp only [kyB]
      generalize wdB a = ba at *
      cases ba <;> simp [w, i]
    · simp [kyB]
      omega
theorem case_ok (x : P) (h : smB x = true) : F_is_case [.p x] [] = .ok (.p (.bl (csB x))) [] := by
  unfold F_is_case B_is_case
  cases sm_of h with
  | int i => simp [csB]
  | str s _ => simp [csB]
  | tup xs hl hs =>
    rcases xs with _ | ⟨a, _ | ⟨b, _ | ⟨c, r⟩⟩⟩
    · simp [csB]
    · simp [csB]
    · have w := key_ok a (hs a (by simp))
      have i := index_ok b (hs b (by simp))
      simp only [csB]
      generalize kyB a = ba at *
      cases ba <;> simp [w, i]
    · simp [csB]
      omega
theorem fit_all_ok (c : Nat) (xs : List P) (h : smB (.tup xs) = true) (hd : (P.tup xs).dep ≤ 100) : F_fit_all [.p (.str [c]), .p (.tup xs)] [] = .ok (.p (.bl (if c = 115 then xs.all tmB else if c = 108 then xs.all ixB else xs.all csB))) [] := by
  cases sm_of h with
  | tup _ hl hs =>
  have comp : ∀ (F : FF) (g : P → Bool), (∀ x ∈ xs, F [.p x] [] = .ok (.p (.bl (g x))) []) → eComp (eCall F [eVar 2]) (.one 2) (wSeq (eVar 1)) (tTrue) [2] [some (.p (.str [c])), some (.p (.tup xs)), none] [] = .ok (.r 0) [.lst (xs.map fun y => .bl (g y))] := by
    intro F g hF
    refine (comp_pure (.p (.tup xs)) id xs (fun _ => true) (fun y => .bl (g y)) ?_ ?_ rfl ?_).trans ?_
    · simp
    · omega
    · intro y hy
      refine ⟨_, rfl, rfl, fun _ => ?_⟩
      simp [hF y hy]
    · simp
  have c1 := comp F_is_template tmB fun x hx => template_ok' x (hs x hx) (by have := sm_dep hx; simp [P.dep] at hd; omega)
  have c2 := comp F_is_index ixB fun x hx => index_ok x (hs x hx)
  have c3 := comp F_is_case csB fun x hx => case_ok x (hs x hx)
  have b1 : ∀ g : P → Bool, bAll [.lst (xs.map fun y => .bl (g y))] = some (.p (.bl (xs.all g))) := fun g => bAll_f xs g
  unfold F_fit_all B_fit_all C_fit_all_1 C_fit_all_2 C_fit_all_3
  by_cases h1 : c = 115
  · subst h1
    simp [c1, -ev_call]
  · by_cases h2 : c = 108
    · subst h2
      simp [c2, -ev_call]
    · simp [c3, h1, h2, -ev_call]
theorem fits_ok (c : Nat) (v : P) (h : smB v = true) (hd : v.dep < 100) : F_fits [.p (.str [c]), .p v] [] = .ok (.p (.bl (fitB c v))) [] := by
  have i := index_ok v h
  have n := number_ok v h
  have w := word_ok v h
  have t := template_ok' v h hd
  have inr : oIn v (.tup [.str [108, 101, 115, 115], .str [109, 111, 115, 116], .str [115, 97, 109, 101]]) = some (.p (.bl (inR v))) := by
    cases sm_of h with
    | int i => rfl
    | str s _ => exact in_t s relL
    | tup xs _ _ =>
      show gd ((P.tup xs).dep ≤ 100) _ = _
      rw [gd_pos (by omega)]
      rfl
  unfold F_fits B_fits fitB
  by_cases c1 : c = 105
  · simp [c1, i]
  by_cases c2 : c = 98
  · cases sm_of h with
    | int j =>
      simp [ixB] at i
      by_cases hj : 0 ≤ j <;> simp [c2, i, ixB, hj]
    | str s _ => simp [ixB] at i; simp [c2, i, ixB]
    | tup s _ => simp [ixB] at i; simp [c2, i, ixB]
  by_cases c3 : c = 109
  · cases sm_of h with
    | int j =>
      simp [ixB] at i
      by_cases hj : 0 ≤ j <;> simp [c3, i, ixB, hj]
    | str s _ => simp [ixB] at i; simp [c3, i, ixB]
    | tup s _ => simp [ixB] at i; simp [c3, i, ixB]
  by_cases c4 : c = 110
  · simp [c4, n]
  by_cases c5 : c = 119
  · simp [c5, inr]
  by_cases c6 : c = 99
  · simp [c6, w]
  by_cases c7 : c = 116
  · simp [c7, t]
  by_cases c8 : c = 106
  · cases sm_of h with
    | int j =>
      simp [ixB] at i
      by_cases hj : 0 ≤ j <;> simp [c8, i, ixB, hj]
    | str s _ =>
      simp [ixB] at i
      have : oEq (.str s) (.int (-1)) = some (.p (.bl false)) := rfl
      simp [c8, i, ixB, this]
    | tup s _ =>
      simp [ixB] at i
      have : oEq (.tup s) (.int (-1)) = some (.p (.bl false)) := rfl
      simp [c8, i, ixB, this]
  cases sm_of h with
  | int j => simp [c1, c2, c3, c4, c5, c6, c7, c8]
  | str j _ => simp [c1, c2, c3, c4, c5, c6, c7, c8]
  | tup xs _ _ =>
    have := fit_all_ok c xs h (by omega)
    simp [c1, c2, c3, c4, c5, c6, c7, c8, this]
end Lw
namespace Lw
open Pd
theorem fits_len : ∀ (s : List Nat) (xs : List P), s.length ≠ xs.length → fitsB s xs = false
  | [], [], h => absurd rfl h
  | [], _ :: _, _ => rfl
  | _ :: _, [], _ => rfl
  | c :: s, x :: xs, h => by
    rw [fitsB, fits_len s xs (by simpa using h), Bool.and_false]
theorem fits_zip : ∀ (s : List Nat) (xs : List P), s.length = xs.length → fitsB s xs = (s.zip xs).all fun q => fitB q.1 q.2
  | [], [], h => rfl
  | [], _ :: _, h => by cases h
  | _ :: _, [], h => by cases h
  | c :: s, x :: xs, h => by
    rw [fitsB, fits_zip s xs (by simpa using h)]
    rfl
theorem shapes_all : ∀ q ∈ tb_SHAPES, ∃ s, q.2 = .str s ∧ s.length ≤ 5 := by
  intro q hq
  simp [tb_SHAPES] at hq
  rcases hq with rfl | rfl | rfl | rfl | rfl | rfl | rfl | rfl | rfl | rfl | rfl | rfl | rfl | rfl | rfl
  all_goals exact ⟨_, rfl, by decide⟩
theorem sh_get (w : List Nat) : tget tb_SHAPES w = none ∨ ∃ s, tget tb_SHAPES w = some (.str s) ∧ s.length ≤ 5 := by
  unfold tget
  cases e : tb_SHAPES.find? (·.1 == w) with
  | none => exact .inl rfl
  | some q =>
    obtain ⟨s, h, hl⟩ := shapes_all q (List.mem_of_find?_eq_some e)
    exact .inr ⟨s, by simp [h], hl⟩
theorem instr_ok (w : List Nat) (xs : List P) (h : smB (.tup (.str w :: xs)) = true) (hd : (P.tup (.str w :: xs)).dep ≤ 100) : F_is_instruction [.p (.tup (.str w :: xs))] [] = .ok (.p (.bl (inB (.tup (.str w :: xs))))) [] := by
  unfold F_is_instruction B_is_instruction
  rcases sh_get w with e | ⟨s, e, hl⟩
  · simp [e, inB, shL]
  · simp only [inB, shL, e]
    by_cases h2 : s.length = xs.length
    · have comp : C_is_instruction_1 [some (.p (.tup (.str w :: xs))), some (.p (.str s)), none, none] [] = .ok (.r 0) [.lst ((s.zip xs).map fun q => .bl (fitB q.1 q.2))] := by
        unfold C_is_instruction_1
        refine (comp_pure (.p (.tup xs)) (fun q : Nat × P => .tup [.str [q.1], q.2]) (s.zip xs) (fun _ => true) (fun q => .bl (fitB q.1 q.2)) ?_ ?_ rfl ?_).trans ?_
        · simp [pairS]
        · simp; omega
        · intro q hq
          refine ⟨_, rfl, rfl, fun _ => ?_⟩
          have hx : q.2 ∈ xs := (List.of_mem_zip (a := q.1) (b := q.2) hq).2
          have hd2 : q.2.dep < 100 := by
            have := sm_dep hx
            simp [P.dep, P.deps] at hd
            omega
          have hs2 : smB q.2 = true := by
            simp only [smB, smBs_all, Bool.and_eq_true, decide_eq_true_eq, List.all_eq_true] at h
            exact h.2 _ (List.mem_cons_of_mem _ hx)
          have f := fits_ok q.1 q.2 hs2 hd2
          simp [f]
        · simp
      rw [fits_zip s xs h2]
      have l1 : s.length ≤ 16777216 := by omega
      have l2 : ((xs.length : Nat) : Int) = (s.length : Nat) := by omega
      simp [e, comp, l1, l2, -ev_call]
    · rw [fits_len s xs h2]
      have l1 : s.length ≤ 16777216 := by omega
      have l2 : ¬ ((xs.length : Nat) : Int) + 1 = (s.length : Nat) + 1 := by omega
      simp [e, l1, l2]
end Lw
namespace Lw
open Pd
abbrev conL : List (List Nat) := [[101, 110, 100], [97, 49], [90, 122], [99, 111, 110, 115]]
inductive Tp : Nat → P → Prop
  | num {d : Nat} (i : Int) : Tp d (.int i)
  | reg {d : Nat} (i : Nat) (h : i < 9) : Tp d (.tup [.str [114], .int i])
  | con {d : Nat} (s : List Nat) (xs : List P) (hs : s ∈ conL) (h : ∀ x ∈ xs, Tp d x) (hl : xs.length ≤ 3) : Tp (d + 1) (.tup [.str [99], .str s, .tup xs])
theorem deps_le {xs : List P} {n : Nat} (h : ∀ x ∈ xs, x.dep ≤ n) : P.deps xs ≤ n := by
  induction xs with
  | nil => simp [P.deps]
  | cons x r ih =>
    simp only [P.deps]
    have := h x (by simp)
    have := ih fun y hy => h y (by simp [hy])
    omega
theorem tp_ok : ∀ (d : Nat) (x : P), Tp d x → smB x = true ∧ tmB x = true ∧ x.dep ≤ 2 * d + 1 := by
  intro d
  induction d with
  | zero =>
    intro x h
    cases h with
    | num i => exact ⟨rfl, by rw [tm_i], by simp [P.dep]⟩
    | reg i h => exact ⟨by simp [smB, smBs], by rw [tm_2]; simp [sB, ixB], by simp [P.dep, P.deps]⟩
  | succ d ih =>
    intro x h
    cases h with
    | num i => exact ⟨rfl, by rw [tm_i], by simp [P.dep]⟩
    | reg i h => exact ⟨by simp [smB, smBs], by rw [tm_2]; simp [sB, ixB], by simp [P.dep, P.deps]⟩
    | con s xs hs h hl =>
      refine ⟨?_, ?_, ?_⟩
      · have h1 : s.length ≤ 1000 := (by decide : ∀ s ∈ conL, s.length ≤ 1000) s hs
        have h2 : xs.all smB = true := List.all_eq_true.mpr fun x hx => (ih x (h x hx)).1
        have h3 : xs.length ≤ 1000 := by omega
        simp only [smB, smBs, smBs_all, h1, h2, h3]
        rfl
      · rw [tm_3]
        have h1 : nmB s = true := (by decide : ∀ s ∈ conL, nmB s = true) s hs
        have h2 : xs.all tmB = true := List.all_eq_true.mpr fun x hx => (ih x (h x hx)).2.1
        simp only [sB, wdB, tsB, tmBs_all, h1, h2]
        rfl
      · have : P.deps xs ≤ 2 * d + 1 := deps_le fun x hx => (ih x (h x hx)).2.2
        simp only [P.dep, P.deps]
        omega
theorem templateC {d k : Nat} (row : List Nat) (ih : ∀ a : Nat, ∃ (t : P) (a' : Nat), R__law_template k 0 [.p (.lst (eN row)), .r 0, .p (.int d)] [.lst [.int a]] = .ok (.p t) [.lst [.int a']] ∧ Tp d t)
    (a p : Nat) : ∃ (ys : List P) (a' : Nat), C__law_template_1 (R__law_template k) [some (.p (.lst (eN row))), some (.r 0), some (.p (.int ((d : Int) + 1))), some (.p (.int p)), none, none] [.lst [.int a]] = .ok (.r 1) [.lst [.int a'], .lst ys] ∧ (∀ y ∈ ys, Tp d y) ∧ ys.length ≤ 3 := by
  unfold C__law_template_1
  obtain ⟨m, e, hm⟩ := nat_of (i := (p : Int) / 4) (n := 4) (by decide)
  refine Ex.to (comp_range (σ := Nat) m (fun s => [.lst [.int s]]) (fun j s' ys => (∀ y ∈ ys, Tp d y) ∧ ys.length = j) a ?_ rfl ?_ ?_ ?_ ?_) fun ys h => Ex.to h fun s' h => ⟨ys, s', h.1, h.2.1, by omega⟩
  · have : m ≤ 1000000 := by omega
    simp [e, this]
  · show m ≤ 16777216; omega
  · simp
  · intro s; rfl
  · intro j s1 ys hj hI
    obtain ⟨t, s2, e2, h1⟩ := ih s1
    refine ⟨t, s2, ?_, ?_⟩
    · simp [e2]
    · obtain ⟨i1, i2⟩ := hI
      refine ⟨fun y hy => ?_, by simp [i2]⟩
      rcases List.mem_append.mp hy with hy | hy
      · exact i1 y hy
      · cases List.mem_singleton.mp hy; exact h1
theorem template_gen (row : List Nat) (hr : row.length = 40) : ∀ (d k a : Nat), d < k → ∃ (t : P) (a' : Nat), R__law_template k 0 [.p (.lst (eN row)), .r 0, .p (.int d)] [.lst [.int a]] = .ok (.p t) [.lst [.int a']] ∧ Tp d t := by
  intro d
  induction d with
  | zero =>
    intro k a hk
    obtain ⟨k, rfl⟩ : ∃ j, k = j + 1 := ⟨k - 1, by omega⟩
    have e := pick_ok row hr a
    generalize pk row (a + 1) = p at e
    obtain ⟨m, e3, hm⟩ := nat_of (i := (p : Int) / 4) (n := 9) (by decide)
    obtain ⟨x, h1, h2⟩ := atI_modn (xs := [P.int ((p : Int) / 4 % 50 - 20), .tup [.str [114], .int m], .int 10000000000000, .int (0 - 1000000000000)]) 4 rfl (by decide) ((p : Int) / 50)
    refine ⟨x, a + 1, ?_, ?_⟩
    · show fDef 6 (B__law_template (R__law_template k)) _ _ = _
      unfold B__law_template
      simp at h2
      simp at e
      simp [e, e3, h2]
    · simp at h1
      rcases h1 with rfl | rfl | rfl | rfl
      · exact .num _
      · exact .reg m (by omega)
      · exact .num _
      · exact .num _
  | succ d ih =>
    intro k a hk
    obtain ⟨k, rfl⟩ : ∃ j, k = j + 1 := ⟨k - 1, by omega⟩
    have e := pick_ok row hr a
    generalize pk row (a + 1) = p at e
    obtain ⟨m, e3, hm⟩ := nat_of (i := (p : Int) / 4) (n := 9) (by decide)
    by_cases hp : (p : Int) % 4 = 0
    · obtain ⟨x, h1, h2⟩ := atI_modn (xs := [P.int ((p : Int) / 4 % 50 - 20), .tup [.str [114], .int m], .int 10000000000000, .int (0 - 1000000000000)]) 4 rfl (by decide) ((p : Int) / 50)
      refine ⟨x, a + 1, ?_, ?_⟩
      · show fDef 6 (B__law_template (R__law_template k)) _ _ = _
        unfold B__law_template
        simp at h2
        simp at e
        have hd : ¬ ((d : Int) + 1 = 0) := by omega
        simp [e, e3, h2, hp, hd]
      · simp at h1
        rcases h1 with rfl | rfl | rfl | rfl
        · exact .num _
        · exact .reg m (by omega)
        · exact .num _
        · exact .num _
    · obtain ⟨ys, a', c, h1, h2⟩ := templateC (d := d) (k := k) row (fun a => ih k a (by omega)) (a + 1) p
      obtain ⟨x, h3, h4⟩ := atI_modn (xs := [P.str [101, 110, 100], .str [97, 49], .str [90, 122], .str [99, 111, 110, 115]]) 4 rfl (by decide) ((p : Int) / 16)
      have hx : ∃ s ∈ conL, x = .str s := by
        simp at h3
        rcases h3 with rfl | rfl | rfl | rfl
        all_goals exact ⟨_, by decide, rfl⟩
      obtain ⟨s, hs, rfl⟩ := hx
      refine ⟨.tup [.str [99], .str s, .tup ys], a', ?_, .con s ys hs h1 h2⟩
      show fDef 6 (B__law_template (R__law_template k)) _ _ = _
      unfold B__law_template
      simp at e
      simp at c
      have hd : ¬ ((d : Int) + 1 = 0) := by omega
      simp [e, hp, hd, c, h4]
end Lw
namespace Lw
open Pd
inductive Fl (h : List P) : Nat → P → P → Prop
  | num {d : Nat} (i : Int) : Fl h d (.int i) (.int i)
  | reg {d : Nat} (i : Nat) (y : P) (e : h[i]? = some y) : Fl h d (.tup [.str [114], .int i]) y
  | con {d : Nat} (s : List Nat) (xs : List P) (f : P → P) (q : ∀ x ∈ xs, Fl h d x (f x)) (hl : xs.length ≤ 1000) : Fl h (d + 1) (.tup [.str [99], .str s, .tup xs]) (.tup [.str [99], .str s, .tup (xs.map f)])
theorem compF {xs : List P} (hl : xs.length ≤ 1000) (h : List P) (F : FF) (f : P → P) (s : List Nat) (hF : ∀ x ∈ xs, F [.p x, .p (.lst h)] [] = .ok (.p (f x)) []) :
    eComp (eCall F [eVar 2, eVar 1]) (.one 2) (wSeq (e2 oIdx (eVar 0) (eLit (.int 2)))) (tTrue) [2] [some (.p (.tup [.str [99], .str s, .tup xs])), some (.p (.lst h)), none] [] = .ok (.r 0) [.lst (xs.map f)] := by
  refine (comp_pure (.p (.tup xs)) id xs (fun _ => true) f ?_ ?_ rfl ?_).trans ?_
  · simp
  · omega
  · intro y hy
    refine ⟨_, rfl, rfl, fun _ => ?_⟩
    simp [hF y hy]
  · simp
theorem fl_ok (h : List P) : ∀ (k d : Nat) (x y : P), Fl h d x y → d < k → R_filled k 0 [.p x, .p (.lst h)] [] = .ok (.p y) [] ∧ R__law_filled k 0 [.p x, .p (.lst h)] [] = .ok (.p y) [] := by
  intro k
  induction k with
  | zero => intro d x y _ h; omega
  | succ k ih =>
    intro d x y hf hd
    show fDef 3 (B_filled (R_filled k)) _ _ = _ ∧ fDef 3 (B__law_filled (R__law_filled k)) _ _ = _
    unfold B_filled B__law_filled C_filled_1 C__law_filled_1
    cases hf with
    | num i => constructor <;> simp
    | reg i y e => constructor <;> simp [e]
    | @con d s xs f q hl =>
      have c1 := compF hl h (R_filled k 0) f s fun x hx => (ih d x (f x) (q x hx) (by omega)).1
      have c2 := compF hl h (R__law_filled k 0) f s fun x hx => (ih d x (f x) (q x hx) (by omega)).2
      constructor
      · simp [c1, -ev_call]
      · simp [c2, -ev_call]
theorem fl_tp (h : List P) (hl : h.length = 9) (n : Nat) (hn : ∀ x ∈ h, x.dep ≤ n) : ∀ (d : Nat) (t : P), Tp d t → ∃ y, Fl h d t y ∧ y.dep ≤ 2 * d + n := by
  intro d
  induction d with
  | zero =>
    intro t ht
    cases ht with
    | num i => exact ⟨_, .num i, by simp [P.dep]⟩
    | reg i hi =>
      have : i < h.length := by omega
      exact ⟨h[i], .reg i _ (List.getElem?_eq_getElem this), by have := hn h[i] (List.getElem_mem this); omega⟩
  | succ d ih =>
    intro t ht
    cases ht with
    | num i => exact ⟨_, .num i, by simp [P.dep]⟩
    | reg i hi =>
      have : i < h.length := by omega
      exact ⟨h[i], .reg i _ (List.getElem?_eq_getElem this), by have := hn h[i] (List.getElem_mem this); omega⟩
    | con s xs hs q hl =>
      obtain ⟨f, hf⟩ : ∃ f : P → P, ∀ x ∈ xs, Fl h d x (f x) ∧ (f x).dep ≤ 2 * d + n := by
        classical
        refine ⟨fun x => if g : ∃ y, Fl h d x y ∧ y.dep ≤ 2 * d + n then g.choose else .non, fun x hx => ?_⟩
        have g := ih x (q x hx)
        show Fl h d x (dite _ _ _) ∧ (dite _ _ _ : P).dep ≤ _
        rw [dif_pos g]
        exact g.choose_spec
      refine ⟨_, .con s xs f (fun x hx => (hf x hx).1) (by omega), ?_⟩
      have : P.deps (xs.map f) ≤ 2 * d + n := deps_le fun y hy => by
        obtain ⟨x, hx, rfl⟩ := List.mem_map.mp hy
        exact (hf x hx).2
      simp only [P.dep, P.deps]
      omega
end Lw
namespace Lw
open Pd
theorem fit_i (v : P) : fitB 105 v = ixB v := opq rfl
theorem fit_b (v : P) : fitB 98 v = (ixB v && (match v with | .int i => decide (i ≤ 1) | _ => false)) := opq rfl
theorem fit_m (v : P) : fitB 109 v = (ixB v && (match v with | .int i => decide (1 ≤ i) | _ => false)) := opq rfl
theorem fit_n (v : P) : fitB 110 v = nbB v := opq rfl
theorem fit_w (v : P) : fitB 119 v = inR v := opq rfl
theorem fit_c (v : P) : fitB 99 v = wdB v := opq rfl
theorem fit_t (v : P) : fitB 116 v = tmB v := opq rfl
theorem fit_j (v : P) : fitB 106 v = (ixB v || (match v with | .int i => i == -1 | _ => false)) := opq rfl
theorem fit_s (xs : List P) : fitB 115 (.tup xs) = xs.all tmB := opq rfl
theorem fit_l (xs : List P) : fitB 108 (.tup xs) = xs.all ixB := opq rfl
theorem fit_k (xs : List P) : fitB 107 (.tup xs) = xs.all csB := opq rfl
theorem fit_ki (i : Int) : fitB 107 (.int i) = false := opq rfl
theorem fit_li (i : Int) : fitB 108 (.int i) = false := opq rfl
theorem fit_si (i : Int) : fitB 115 (.int i) = false := opq rfl
theorem sb_s (s t : List Nat) : sB s (.str t) = (t == s) := opq rfl
theorem sb_i (s : List Nat) (t : Int) : sB s (.int t) = false := opq rfl
theorem sb_t (s : List Nat) (t : List P) : sB s (.tup t) = false := opq rfl
/-- an instruction, or none -/
def Ins (v : Bool) (x : P) : Prop := F_is_instruction [.p x] [] = .ok (.p (.bl v)) []
theorem ins_of {v : Bool} (w : List Nat) (xs : List P) (h : smB (.tup (.str w :: xs)) = true) (hd : (P.tup (.str w :: xs)).dep ≤ 100) (e : inB (.tup (.str w :: xs)) = v) : Ins v (.tup (.str w :: xs)) := by
  subst e
  exact instr_ok w xs h hd
def Bads (g : P) : Prop := ∃ j t bs, F__law_bad [.p g] [] = .ok (.r j) t ∧ t[j]? = some (.lst bs) ∧ ∀ x ∈ bs, Ins false x
theorem all_c {α : Type} {p : α → Prop} {x : α} {r : List α} (h : p x) (q : ∀ y ∈ r, p y) : ∀ y ∈ x :: r, p y := by
  intro y hy
  rcases List.mem_cons.mp hy with rfl | hy
  · exact h
  · exact q y hy
theorem all_n {α : Type} {p : α → Prop} : ∀ y ∈ ([] : List α), p y := fun _ h => nomatch h
theorem sh_parts : shL [112, 97, 114, 116, 115] = some [105, 105, 105] := opq rfl
theorem sh_parts_u : shL [80, 65, 82, 84, 83] = none := opq rfl
theorem sh_number : shL [110, 117, 109, 98, 101, 114] = some [105, 105, 98] := opq rfl
theorem sh_number_u : shL [78, 85, 77, 66, 69, 82] = none := opq rfl
theorem sh_set : shL [115, 101, 116] = some [105, 110] := opq rfl
theorem sh_set_u : shL [83, 69, 84] = none := opq rfl
theorem sh_add : shL [97, 100, 100] = some [105, 105, 105] := opq rfl
theorem sh_add_u : shL [65, 68, 68] = none := opq rfl
theorem sh_sub : shL [115, 117, 98] = some [105, 105, 105] := opq rfl
theorem sh_sub_u : shL [83, 85, 66] = none := opq rfl
theorem sh_mul : shL [109, 117, 108] = some [105, 105, 105] := opq rfl
theorem sh_mul_u : shL [77, 85, 76] = none := opq rfl
theorem sh_unless : shL [117, 110, 108, 101, 115, 115] = some [119, 105, 105, 105] := opq rfl
theorem sh_unless_u : shL [85, 78, 76, 69, 83, 83] = none := opq rfl
theorem sh_new : shL [110, 101, 119] = some [105, 105, 105] := opq rfl
theorem sh_new_u : shL [78, 69, 87] = none := opq rfl
theorem sh_copy : shL [99, 111, 112, 121] = some [105, 109] := opq rfl
theorem sh_copy_u : shL [67, 79, 80, 89] = none := opq rfl
theorem sh_drop : shL [100, 114, 111, 112] = some [105] := opq rfl
theorem sh_drop_u : shL [68, 82, 79, 80] = none := opq rfl
theorem sh_tell : shL [116, 101, 108, 108] = some [105, 116] := opq rfl
theorem sh_tell_u : shL [84, 69, 76, 76] = none := opq rfl
theorem sh_go : shL [103, 111] = some [105, 99, 115, 108] := opq rfl
theorem sh_go_u : shL [71, 79] = none := opq rfl
theorem sh_sum : shL [115, 117, 109] = some [105, 105, 108, 105] := opq rfl
theorem sh_sum_u : shL [83, 85, 77] = none := opq rfl
theorem sh_end : shL [101, 110, 100] = some [] := opq rfl
theorem sh_end_u : shL [69, 78, 68] = none := opq rfl
theorem sh_look : shL [108, 111, 111, 107] = some [105, 105, 98, 107, 106] := opq rfl
theorem sh_look_u : shL [76, 79, 79, 75] = none := opq rfl
theorem sh_jump : shL [106, 117, 109, 112] = none := opq rfl
theorem bad_parts (a b c : Nat) : Bads (.tup [.str [112, 97, 114, 116, 115], .int a, .int b, .int c]) := by
  have e : F__law_bad [.p (.tup [.str [112, 97, 114, 116, 115], .int a, .int b, .int c])] [] = F__law_bad [.p (.tup [.str [112, 97, 114, 116, 115], .int a, .int b, .int c])] [] := rfl
  conv at e =>
    rhs
    unfold F__law_bad B__law_bad
    simp [in_l2, cut, sIx, upC]
  refine ⟨_, _, _, e, rfl, ?_⟩
  clear e
  repeat (first | exact all_n | refine all_c (by refine ins_of _ _ (by simp [smB, smBs, *]) (by simp [P.dep, P.deps, *] <;> omega) (by simp [inB, fitsB, fit_i, fit_b, fit_m, fit_n, fit_w, fit_c, fit_t, fit_j, fit_s, fit_l, fit_k, fit_ki, fit_li, fit_si, ixB, nbB, inR, wdB, kyB, csB, tm_i, tm_s, tm_0, tm_1, tm_2, tm_3, tm_4, sb_s, sb_i, sb_t, tsB, tmBs, nmB, sh_parts, sh_number, sh_set, sh_add, sh_sub, sh_mul, sh_unless, sh_new, sh_copy, sh_drop, sh_tell, sh_go, sh_sum, sh_end, sh_look, sh_parts_u, sh_number_u, sh_set_u, sh_add_u, sh_sub_u, sh_mul_u, sh_unless_u, sh_new_u, sh_copy_u, sh_drop_u, sh_tell_u, sh_go_u, sh_sum_u, sh_end_u, sh_look_u, sh_jump, *] <;> omega)) ?_)
theorem bad_add (a b c : Nat) : Bads (.tup [.str [97, 100, 100], .int a, .int b, .int c]) := by
  have e : F__law_bad [.p (.tup [.str [97, 100, 100], .int a, .int b, .int c])] [] = F__law_bad [.p (.tup [.str [97, 100, 100], .int a, .int b, .int c])] [] := rfl
  conv at e =>
    rhs
    unfold F__law_bad B__law_bad
    simp [in_l2, cut, sIx, upC]
  refine ⟨_, _, _, e, rfl, ?_⟩
  clear e
  repeat (first | exact all_n | refine all_c (by refine ins_of _ _ (by simp [smB, smBs, *]) (by simp [P.dep, P.deps, *] <;> omega) (by simp [inB, fitsB, fit_i, fit_b, fit_m, fit_n, fit_w, fit_c, fit_t, fit_j, fit_s, fit_l, fit_k, fit_ki, fit_li, fit_si, ixB, nbB, inR, wdB, kyB, csB, tm_i, tm_s, tm_0, tm_1, tm_2, tm_3, tm_4, sb_s, sb_i, sb_t, tsB, tmBs, nmB, sh_parts, sh_number, sh_set, sh_add, sh_sub, sh_mul, sh_unless, sh_new, sh_copy, sh_drop, sh_tell, sh_go, sh_sum, sh_end, sh_look, sh_parts_u, sh_number_u, sh_set_u, sh_add_u, sh_sub_u, sh_mul_u, sh_unless_u, sh_new_u, sh_copy_u, sh_drop_u, sh_tell_u, sh_go_u, sh_sum_u, sh_end_u, sh_look_u, sh_jump, *] <;> omega)) ?_)
theorem bad_sub (a b c : Nat) : Bads (.tup [.str [115, 117, 98], .int a, .int b, .int c]) := by
  have e : F__law_bad [.p (.tup [.str [115, 117, 98], .int a, .int b, .int c])] [] = F__law_bad [.p (.tup [.str [115, 117, 98], .int a, .int b, .int c])] [] := rfl
  conv at e =>
    rhs
    unfold F__law_bad B__law_bad
    simp [in_l2, cut, sIx, upC]
  refine ⟨_, _, _, e, rfl, ?_⟩
  clear e
  repeat (first | exact all_n | refine all_c (by refine ins_of _ _ (by simp [smB, smBs, *]) (by simp [P.dep, P.deps, *] <;> omega) (by simp [inB, fitsB, fit_i, fit_b, fit_m, fit_n, fit_w, fit_c, fit_t, fit_j, fit_s, fit_l, fit_k, fit_ki, fit_li, fit_si, ixB, nbB, inR, wdB, kyB, csB, tm_i, tm_s, tm_0, tm_1, tm_2, tm_3, tm_4, sb_s, sb_i, sb_t, tsB, tmBs, nmB, sh_parts, sh_number, sh_set, sh_add, sh_sub, sh_mul, sh_unless, sh_new, sh_copy, sh_drop, sh_tell, sh_go, sh_sum, sh_end, sh_look, sh_parts_u, sh_number_u, sh_set_u, sh_add_u, sh_sub_u, sh_mul_u, sh_unless_u, sh_new_u, sh_copy_u, sh_drop_u, sh_tell_u, sh_go_u, sh_sum_u, sh_end_u, sh_look_u, sh_jump, *] <;> omega)) ?_)
theorem bad_mul (a b c : Nat) : Bads (.tup [.str [109, 117, 108], .int a, .int b, .int c]) := by
  have e : F__law_bad [.p (.tup [.str [109, 117, 108], .int a, .int b, .int c])] [] = F__law_bad [.p (.tup [.str [109, 117, 108], .int a, .int b, .int c])] [] := rfl
  conv at e =>
    rhs
    unfold F__law_bad B__law_bad
    simp [in_l2, cut, sIx, upC]
  refine ⟨_, _, _, e, rfl, ?_⟩
  clear e
  repeat (first | exact all_n | refine all_c (by refine ins_of _ _ (by simp [smB, smBs, *]) (by simp [P.dep, P.deps, *] <;> omega) (by simp [inB, fitsB, fit_i, fit_b, fit_m, fit_n, fit_w, fit_c, fit_t, fit_j, fit_s, fit_l, fit_k, fit_ki, fit_li, fit_si, ixB, nbB, inR, wdB, kyB, csB, tm_i, tm_s, tm_0, tm_1, tm_2, tm_3, tm_4, sb_s, sb_i, sb_t, tsB, tmBs, nmB, sh_parts, sh_number, sh_set, sh_add, sh_sub, sh_mul, sh_unless, sh_new, sh_copy, sh_drop, sh_tell, sh_go, sh_sum, sh_end, sh_look, sh_parts_u, sh_number_u, sh_set_u, sh_add_u, sh_sub_u, sh_mul_u, sh_unless_u, sh_new_u, sh_copy_u, sh_drop_u, sh_tell_u, sh_go_u, sh_sum_u, sh_end_u, sh_look_u, sh_jump, *] <;> omega)) ?_)
theorem bad_new (a b c : Nat) : Bads (.tup [.str [110, 101, 119], .int a, .int b, .int c]) := by
  have e : F__law_bad [.p (.tup [.str [110, 101, 119], .int a, .int b, .int c])] [] = F__law_bad [.p (.tup [.str [110, 101, 119], .int a, .int b, .int c])] [] := rfl
  conv at e =>
    rhs
    unfold F__law_bad B__law_bad
    simp [in_l2, cut, sIx, upC]
  refine ⟨_, _, _, e, rfl, ?_⟩
  clear e
  repeat (first | exact all_n | refine all_c (by refine ins_of _ _ (by simp [smB, smBs, *]) (by simp [P.dep, P.deps, *] <;> omega) (by simp [inB, fitsB, fit_i, fit_b, fit_m, fit_n, fit_w, fit_c, fit_t, fit_j, fit_s, fit_l, fit_k, fit_ki, fit_li, fit_si, ixB, nbB, inR, wdB, kyB, csB, tm_i, tm_s, tm_0, tm_1, tm_2, tm_3, tm_4, sb_s, sb_i, sb_t, tsB, tmBs, nmB, sh_parts, sh_number, sh_set, sh_add, sh_sub, sh_mul, sh_unless, sh_new, sh_copy, sh_drop, sh_tell, sh_go, sh_sum, sh_end, sh_look, sh_parts_u, sh_number_u, sh_set_u, sh_add_u, sh_sub_u, sh_mul_u, sh_unless_u, sh_new_u, sh_copy_u, sh_drop_u, sh_tell_u, sh_go_u, sh_sum_u, sh_end_u, sh_look_u, sh_jump, *] <;> omega)) ?_)
theorem bad_drop (a : Nat) : Bads (.tup [.str [100, 114, 111, 112], .int a]) := by
  have e : F__law_bad [.p (.tup [.str [100, 114, 111, 112], .int a])] [] = F__law_bad [.p (.tup [.str [100, 114, 111, 112], .int a])] [] := rfl
  conv at e =>
    rhs
    unfold F__law_bad B__law_bad
    simp [in_l2, cut, sIx, upC]
  refine ⟨_, _, _, e, rfl, ?_⟩
  clear e
  repeat (first | exact all_n | refine all_c (by refine ins_of _ _ (by simp [smB, smBs, *]) (by simp [P.dep, P.deps, *] <;> omega) (by simp [inB, fitsB, fit_i, fit_b, fit_m, fit_n, fit_w, fit_c, fit_t, fit_j, fit_s, fit_l, fit_k, fit_ki, fit_li, fit_si, ixB, nbB, inR, wdB, kyB, csB, tm_i, tm_s, tm_0, tm_1, tm_2, tm_3, tm_4, sb_s, sb_i, sb_t, tsB, tmBs, nmB, sh_parts, sh_number, sh_set, sh_add, sh_sub, sh_mul, sh_unless, sh_new, sh_copy, sh_drop, sh_tell, sh_go, sh_sum, sh_end, sh_look, sh_parts_u, sh_number_u, sh_set_u, sh_add_u, sh_sub_u, sh_mul_u, sh_unless_u, sh_new_u, sh_copy_u, sh_drop_u, sh_tell_u, sh_go_u, sh_sum_u, sh_end_u, sh_look_u, sh_jump, *] <;> omega)) ?_)
theorem bad_end  : Bads (.tup [.str [101, 110, 100]]) := by
  have e : F__law_bad [.p (.tup [.str [101, 110, 100]])] [] = F__law_bad [.p (.tup [.str [101, 110, 100]])] [] := rfl
  conv at e =>
    rhs
    unfold F__law_bad B__law_bad
    simp [in_l2, cut, sIx, upC]
  refine ⟨_, _, _, e, rfl, ?_⟩
  clear e
  repeat (first | exact all_n | refine all_c (by refine ins_of _ _ (by simp [smB, smBs, *]) (by simp [P.dep, P.deps, *] <;> omega) (by simp [inB, fitsB, fit_i, fit_b, fit_m, fit_n, fit_w, fit_c, fit_t, fit_j, fit_s, fit_l, fit_k, fit_ki, fit_li, fit_si, ixB, nbB, inR, wdB, kyB, csB, tm_i, tm_s, tm_0, tm_1, tm_2, tm_3, tm_4, sb_s, sb_i, sb_t, tsB, tmBs, nmB, sh_parts, sh_number, sh_set, sh_add, sh_sub, sh_mul, sh_unless, sh_new, sh_copy, sh_drop, sh_tell, sh_go, sh_sum, sh_end, sh_look, sh_parts_u, sh_number_u, sh_set_u, sh_add_u, sh_sub_u, sh_mul_u, sh_unless_u, sh_new_u, sh_copy_u, sh_drop_u, sh_tell_u, sh_go_u, sh_sum_u, sh_end_u, sh_look_u, sh_jump, *] <;> omega)) ?_)
theorem bad_copy (a b : Nat) : Bads (.tup [.str [99, 111, 112, 121], .int a, .int b]) := by
  have e : F__law_bad [.p (.tup [.str [99, 111, 112, 121], .int a, .int b])] [] = F__law_bad [.p (.tup [.str [99, 111, 112, 121], .int a, .int b])] [] := rfl
  conv at e =>
    rhs
    unfold F__law_bad B__law_bad
    simp [in_l2, cut, sIx, upC]
  refine ⟨_, _, _, e, rfl, ?_⟩
  clear e
  repeat (first | exact all_n | refine all_c (by refine ins_of _ _ (by simp [smB, smBs, *]) (by simp [P.dep, P.deps, *] <;> omega) (by simp [inB, fitsB, fit_i, fit_b, fit_m, fit_n, fit_w, fit_c, fit_t, fit_j, fit_s, fit_l, fit_k, fit_ki, fit_li, fit_si, ixB, nbB, inR, wdB, kyB, csB, tm_i, tm_s, tm_0, tm_1, tm_2, tm_3, tm_4, sb_s, sb_i, sb_t, tsB, tmBs, nmB, sh_parts, sh_number, sh_set, sh_add, sh_sub, sh_mul, sh_unless, sh_new, sh_copy, sh_drop, sh_tell, sh_go, sh_sum, sh_end, sh_look, sh_parts_u, sh_number_u, sh_set_u, sh_add_u, sh_sub_u, sh_mul_u, sh_unless_u, sh_new_u, sh_copy_u, sh_drop_u, sh_tell_u, sh_go_u, sh_sum_u, sh_end_u, sh_look_u, sh_jump, *] <;> omega)) ?_)
theorem bad_set (a : Nat) (i : Int) : Bads (.tup [.str [115, 101, 116], .int a, .int i]) := by
  have e : F__law_bad [.p (.tup [.str [115, 101, 116], .int a, .int i])] [] = F__law_bad [.p (.tup [.str [115, 101, 116], .int a, .int i])] [] := rfl
  conv at e =>
    rhs
    unfold F__law_bad B__law_bad
    simp [in_l2, cut, sIx, upC]
  refine ⟨_, _, _, e, rfl, ?_⟩
  clear e
  repeat (first | exact all_n | refine all_c (by refine ins_of _ _ (by simp [smB, smBs, *]) (by simp [P.dep, P.deps, *] <;> omega) (by simp [inB, fitsB, fit_i, fit_b, fit_m, fit_n, fit_w, fit_c, fit_t, fit_j, fit_s, fit_l, fit_k, fit_ki, fit_li, fit_si, ixB, nbB, inR, wdB, kyB, csB, tm_i, tm_s, tm_0, tm_1, tm_2, tm_3, tm_4, sb_s, sb_i, sb_t, tsB, tmBs, nmB, sh_parts, sh_number, sh_set, sh_add, sh_sub, sh_mul, sh_unless, sh_new, sh_copy, sh_drop, sh_tell, sh_go, sh_sum, sh_end, sh_look, sh_parts_u, sh_number_u, sh_set_u, sh_add_u, sh_sub_u, sh_mul_u, sh_unless_u, sh_new_u, sh_copy_u, sh_drop_u, sh_tell_u, sh_go_u, sh_sum_u, sh_end_u, sh_look_u, sh_jump, *] <;> omega)) ?_)
theorem bad_number (a b c : Nat) : Bads (.tup [.str [110, 117, 109, 98, 101, 114], .int a, .int b, .int c]) := by
  have e : F__law_bad [.p (.tup [.str [110, 117, 109, 98, 101, 114], .int a, .int b, .int c])] [] = F__law_bad [.p (.tup [.str [110, 117, 109, 98, 101, 114], .int a, .int b, .int c])] [] := rfl
  conv at e =>
    rhs
    unfold F__law_bad B__law_bad
    simp [in_l2, cut, sIx, upC]
  refine ⟨_, _, _, e, rfl, ?_⟩
  clear e
  repeat (first | exact all_n | refine all_c (by refine ins_of _ _ (by simp [smB, smBs, *]) (by simp [P.dep, P.deps, *] <;> omega) (by simp [inB, fitsB, fit_i, fit_b, fit_m, fit_n, fit_w, fit_c, fit_t, fit_j, fit_s, fit_l, fit_k, fit_ki, fit_li, fit_si, ixB, nbB, inR, wdB, kyB, csB, tm_i, tm_s, tm_0, tm_1, tm_2, tm_3, tm_4, sb_s, sb_i, sb_t, tsB, tmBs, nmB, sh_parts, sh_number, sh_set, sh_add, sh_sub, sh_mul, sh_unless, sh_new, sh_copy, sh_drop, sh_tell, sh_go, sh_sum, sh_end, sh_look, sh_parts_u, sh_number_u, sh_set_u, sh_add_u, sh_sub_u, sh_mul_u, sh_unless_u, sh_new_u, sh_copy_u, sh_drop_u, sh_tell_u, sh_go_u, sh_sum_u, sh_end_u, sh_look_u, sh_jump, *] <;> omega)) ?_)
end Lw
namespace Lw
open Pd
theorem bad_unless (w : List Nat) (hw : w ∈ relL) (a b c : Nat) : Bads (.tup [.str [117, 110, 108, 101, 115, 115], .str w, .int a, .int b, .int c]) := by
  have e : F__law_bad [.p (.tup [.str [117, 110, 108, 101, 115, 115], .str w, .int a, .int b, .int c])] [] = F__law_bad [.p (.tup [.str [117, 110, 108, 101, 115, 115], .str w, .int a, .int b, .int c])] [] := rfl
  conv at e =>
    rhs
    unfold F__law_bad B__law_bad
    simp [in_l2, cut, sIx, upC]
  refine ⟨_, _, _, e, rfl, ?_⟩
  clear e
  have hl : w.length ≤ 1000 := (by decide : ∀ w ∈ relL, w.length ≤ 1000) w hw
  repeat (first | exact all_n | refine all_c (by refine ins_of _ _ (by simp [smB, smBs, *]) (by simp [P.dep, P.deps, *] <;> omega) (by simp [inB, fitsB, fit_i, fit_b, fit_m, fit_n, fit_w, fit_c, fit_t, fit_j, fit_s, fit_l, fit_k, fit_ki, fit_li, fit_si, ixB, nbB, inR, wdB, kyB, csB, tm_i, tm_s, tm_0, tm_1, tm_2, tm_3, tm_4, sb_s, sb_i, sb_t, tsB, tmBs, nmB, sh_parts, sh_number, sh_set, sh_add, sh_sub, sh_mul, sh_unless, sh_new, sh_copy, sh_drop, sh_tell, sh_go, sh_sum, sh_end, sh_look, sh_parts_u, sh_number_u, sh_set_u, sh_add_u, sh_sub_u, sh_mul_u, sh_unless_u, sh_new_u, sh_copy_u, sh_drop_u, sh_tell_u, sh_go_u, sh_sum_u, sh_end_u, sh_look_u, sh_jump, *] <;> omega)) ?_)
theorem bad_sum (a b c : Nat) (ks : List P) (h1 : ks.all ixB = true) (h2 : smBs ks = true) (h3 : ks.length ≤ 1000) (h4 : P.deps ks ≤ 10) : Bads (.tup [.str [115, 117, 109], .int a, .int b, .tup ks, .int c]) := by
  have e : F__law_bad [.p (.tup [.str [115, 117, 109], .int a, .int b, .tup ks, .int c])] [] = F__law_bad [.p (.tup [.str [115, 117, 109], .int a, .int b, .tup ks, .int c])] [] := rfl
  conv at e =>
    rhs
    unfold F__law_bad B__law_bad
    simp [in_l2, cut, sIx, upC]
  refine ⟨_, _, _, e, rfl, ?_⟩
  clear e
  repeat (first | exact all_n | refine all_c (by refine ins_of _ _ (by simp [smB, smBs, *]) (by simp [P.dep, P.deps, *] <;> omega) (by simp [inB, fitsB, fit_i, fit_b, fit_m, fit_n, fit_w, fit_c, fit_t, fit_j, fit_s, fit_l, fit_k, fit_ki, fit_li, fit_si, ixB, nbB, inR, wdB, kyB, csB, tm_i, tm_s, tm_0, tm_1, tm_2, tm_3, tm_4, sb_s, sb_i, sb_t, tsB, tmBs, nmB, sh_parts, sh_number, sh_set, sh_add, sh_sub, sh_mul, sh_unless, sh_new, sh_copy, sh_drop, sh_tell, sh_go, sh_sum, sh_end, sh_look, sh_parts_u, sh_number_u, sh_set_u, sh_add_u, sh_sub_u, sh_mul_u, sh_unless_u, sh_new_u, sh_copy_u, sh_drop_u, sh_tell_u, sh_go_u, sh_sum_u, sh_end_u, sh_look_u, sh_jump, *] <;> omega)) ?_)
theorem bad_tell (a : Nat) (t : P) (h1 : tmB t = true) (h2 : smB t = true) (h3 : t.dep ≤ 20) : Bads (.tup [.str [116, 101, 108, 108], .int a, t]) := by
  have e : F__law_bad [.p (.tup [.str [116, 101, 108, 108], .int a, t])] [] = F__law_bad [.p (.tup [.str [116, 101, 108, 108], .int a, t])] [] := rfl
  conv at e =>
    rhs
    unfold F__law_bad B__law_bad
    simp [in_l2, cut, sIx, upC, L__law_bad_1, ev_for, forL_cons, forL_nil, tget]
  refine ⟨_, _, _, e, rfl, ?_⟩
  clear e
  repeat (first | exact all_n | refine all_c (by refine ins_of _ _ (by simp [smB, smBs, *]) (by simp [P.dep, P.deps, *] <;> omega) (by simp [inB, fitsB, fit_i, fit_b, fit_m, fit_n, fit_w, fit_c, fit_t, fit_j, fit_s, fit_l, fit_k, fit_ki, fit_li, fit_si, ixB, nbB, inR, wdB, kyB, csB, tm_i, tm_s, tm_0, tm_1, tm_2, tm_3, tm_4, sb_s, sb_i, sb_t, tsB, tmBs, nmB, sh_parts, sh_number, sh_set, sh_add, sh_sub, sh_mul, sh_unless, sh_new, sh_copy, sh_drop, sh_tell, sh_go, sh_sum, sh_end, sh_look, sh_parts_u, sh_number_u, sh_set_u, sh_add_u, sh_sub_u, sh_mul_u, sh_unless_u, sh_new_u, sh_copy_u, sh_drop_u, sh_tell_u, sh_go_u, sh_sum_u, sh_end_u, sh_look_u, sh_jump, *] <;> omega)) ?_)
theorem bad_go (a : Nat) (ts ks : List P) (h1 : ts.all tmB = true) (h2 : smBs ts = true) (h3 : ts.length ≤ 1000) (h4 : P.deps ts ≤ 20) (g1 : ks.all ixB = true) (g2 : smBs ks = true) (g3 : ks.length ≤ 1000) (g4 : P.deps ks ≤ 10) : Bads (.tup [.str [103, 111], .int a, .str [112, 50], .tup ts, .tup ks]) := by
  have e : F__law_bad [.p (.tup [.str [103, 111], .int a, .str [112, 50], .tup ts, .tup ks])] [] = F__law_bad [.p (.tup [.str [103, 111], .int a, .str [112, 50], .tup ts, .tup ks])] [] := rfl
  conv at e =>
    rhs
    unfold F__law_bad B__law_bad
    simp [in_l2, cut, sIx, upC, L__law_bad_1, ev_for, forL_cons, forL_nil, tget]
  refine ⟨_, _, _, e, rfl, ?_⟩
  clear e
  repeat (first | exact all_n | refine all_c (by refine ins_of _ _ (by simp [smB, smBs, *]) (by simp [P.dep, P.deps, *] <;> omega) (by simp [inB, fitsB, fit_i, fit_b, fit_m, fit_n, fit_w, fit_c, fit_t, fit_j, fit_s, fit_l, fit_k, fit_ki, fit_li, fit_si, ixB, nbB, inR, wdB, kyB, csB, tm_i, tm_s, tm_0, tm_1, tm_2, tm_3, tm_4, sb_s, sb_i, sb_t, tsB, tmBs, nmB, sh_parts, sh_number, sh_set, sh_add, sh_sub, sh_mul, sh_unless, sh_new, sh_copy, sh_drop, sh_tell, sh_go, sh_sum, sh_end, sh_look, sh_parts_u, sh_number_u, sh_set_u, sh_add_u, sh_sub_u, sh_mul_u, sh_unless_u, sh_new_u, sh_copy_u, sh_drop_u, sh_tell_u, sh_go_u, sh_sum_u, sh_end_u, sh_look_u, sh_jump, *] <;> omega)) ?_)
theorem bad_look (a b c : Nat) (j : Int) (cs : List P) (h1 : cs.all csB = true) (h2 : smBs cs = true) (h3 : cs.length ≤ 1000) (h4 : P.deps cs ≤ 10) : Bads (.tup [.str [108, 111, 111, 107], .int a, .int b, .int c, .tup cs, .int j]) := by
  have e : F__law_bad [.p (.tup [.str [108, 111, 111, 107], .int a, .int b, .int c, .tup cs, .int j])] [] = F__law_bad [.p (.tup [.str [108, 111, 111, 107], .int a, .int b, .int c, .tup cs, .int j])] [] := rfl
  conv at e =>
    rhs
    unfold F__law_bad B__law_bad
    simp [in_l2, cut, sIx, upC]
  refine ⟨_, _, _, e, rfl, ?_⟩
  clear e
  repeat (first | exact all_n | refine all_c (by refine ins_of _ _ (by simp [smB, smBs, *]) (by simp [P.dep, P.deps, *] <;> omega) (by simp [inB, fitsB, fit_i, fit_b, fit_m, fit_n, fit_w, fit_c, fit_t, fit_j, fit_s, fit_l, fit_k, fit_ki, fit_li, fit_si, ixB, nbB, inR, wdB, kyB, csB, tm_i, tm_s, tm_0, tm_1, tm_2, tm_3, tm_4, sb_s, sb_i, sb_t, tsB, tmBs, nmB, sh_parts, sh_number, sh_set, sh_add, sh_sub, sh_mul, sh_unless, sh_new, sh_copy, sh_drop, sh_tell, sh_go, sh_sum, sh_end, sh_look, sh_parts_u, sh_number_u, sh_set_u, sh_add_u, sh_sub_u, sh_mul_u, sh_unless_u, sh_new_u, sh_copy_u, sh_drop_u, sh_tell_u, sh_go_u, sh_sum_u, sh_end_u, sh_look_u, sh_jump, *] <;> omega)) ?_)
end Lw
namespace Lw
open Pd
def Good (g : P) : Prop := Ins true g ∧ Bads g
structure Args where
  (a b c f c2 b1 : Nat) (i j : Int) (w : List Nat) (t : P) (ts ks cs : List P)
def Args.goods (q : Args) : List P := match q with
  | ⟨a, b, c, f, c2, b1, i, j, w, t, ts, ks, cs⟩ => [.tup [.str [108, 111, 111, 107], .int a, .int b, .int c2, .tup cs, .int j],
    .tup [.str [112, 97, 114, 116, 115], .int a, .int b, .int c],
    .tup [.str [110, 117, 109, 98, 101, 114], .int a, .int b, .int c2],
    .tup [.str [115, 101, 116], .int a, .int i],
    .tup [.str [97, 100, 100], .int a, .int b, .int c],
    .tup [.str [115, 117, 98], .int a, .int b, .int c],
    .tup [.str [109, 117, 108], .int a, .int b, .int c],
    .tup [.str [117, 110, 108, 101, 115, 115], .str w, .int a, .int b, .int c],
    .tup [.str [110, 101, 119], .int a, .int b, .int c],
    .tup [.str [99, 111, 112, 121], .int a, .int b1],
    .tup [.str [100, 114, 111, 112], .int a],
    .tup [.str [116, 101, 108, 108], .int a, t],
    .tup [.str [103, 111], .int a, .str [112, 50], .tup ts, .tup ks],
    .tup [.str [115, 117, 109], .int a, .int b, .tup ks, .int f],
    .tup [.str [101, 110, 100]]]
structure Args.Ok (q : Args) : Prop where
  h1 : q.ts.all tmB = true
  h2 : smBs q.ts = true
  h3 : q.ts.length ≤ 1000
  h4 : P.deps q.ts ≤ 20
  g1 : q.ks.all ixB = true
  g2 : smBs q.ks = true
  g3 : q.ks.length ≤ 1000
  g4 : P.deps q.ks ≤ 10
  c1 : q.cs.all csB = true
  c2 : smBs q.cs = true
  c3 : q.cs.length ≤ 1000
  c4 : P.deps q.cs ≤ 10
  t1 : tmB q.t = true
  t2 : smB q.t = true
  t3 : q.t.dep ≤ 20
  hw : q.w ∈ relL
  hc2 : q.c2 ≤ 1
  hb1 : 1 ≤ q.b1
  hi : -1000000000000 ≤ q.i ∧ q.i ≤ 1000000000000
  hj : -1 ≤ q.j
theorem goods_ok (q : Args) (h : q.Ok) : ∀ g ∈ q.goods, Good g := by
  obtain ⟨h1, h2, h3, h4, g1, g2, g3, g4, c1, c2', c3, c4, t1, t2, t3, hw, hc2, hb1, ⟨hi1, hi2⟩, hj⟩ := h
  obtain ⟨a, b, c, f, c2, b1, i, j, w, t, ts, ks, cs⟩ := q
  dsimp only at *
  have hl : w.length ≤ 1000 := (by decide : ∀ w ∈ relL, w.length ≤ 1000) w hw
  have hwr : (w = [108, 101, 115, 115] ∨ w = [109, 111, 115, 116] ∨ w = [115, 97, 109, 101]) := by simpa using hw
  unfold Args.goods
  refine all_c ⟨by refine ins_of _ _ (by simp [smB, smBs, *]) (by simp [P.dep, P.deps, *] <;> omega) (by simp [inB, fitsB, fit_i, fit_b, fit_m, fit_n, fit_w, fit_c, fit_t, fit_j, fit_s, fit_l, fit_k, fit_ki, fit_li, fit_si, ixB, nbB, inR, wdB, kyB, csB, tm_i, tm_s, tm_0, tm_1, tm_2, tm_3, tm_4, sb_s, sb_i, sb_t, tsB, tmBs, nmB, sh_parts, sh_number, sh_set, sh_add, sh_sub, sh_mul, sh_unless, sh_new, sh_copy, sh_drop, sh_tell, sh_go, sh_sum, sh_end, sh_look, sh_parts_u, sh_number_u, sh_set_u, sh_add_u, sh_sub_u, sh_mul_u, sh_unless_u, sh_new_u, sh_copy_u, sh_drop_u, sh_tell_u, sh_go_u, sh_sum_u, sh_end_u, sh_look_u, sh_jump, *] <;> omega), bad_look a b c2 j cs c1 c2' c3 c4⟩ ?_
  refine all_c ⟨by refine ins_of _ _ (by simp [smB, smBs, *]) (by simp [P.dep, P.deps, *] <;> omega) (by simp [inB, fitsB, fit_i, fit_b, fit_m, fit_n, fit_w, fit_c, fit_t, fit_j, fit_s, fit_l, fit_k, fit_ki, fit_li, fit_si, ixB, nbB, inR, wdB, kyB, csB, tm_i, tm_s, tm_0, tm_1, tm_2, tm_3, tm_4, sb_s, sb_i, sb_t, tsB, tmBs, nmB, sh_parts, sh_number, sh_set, sh_add, sh_sub, sh_mul, sh_unless, sh_new, sh_copy, sh_drop, sh_tell, sh_go, sh_sum, sh_end, sh_look, sh_parts_u, sh_number_u, sh_set_u, sh_add_u, sh_sub_u, sh_mul_u, sh_unless_u, sh_new_u, sh_copy_u, sh_drop_u, sh_tell_u, sh_go_u, sh_sum_u, sh_end_u, sh_look_u, sh_jump, *] <;> omega), bad_parts a b c⟩ ?_
  refine all_c ⟨by refine ins_of _ _ (by simp [smB, smBs, *]) (by simp [P.dep, P.deps, *] <;> omega) (by simp [inB, fitsB, fit_i, fit_b, fit_m, fit_n, fit_w, fit_c, fit_t, fit_j, fit_s, fit_l, fit_k, fit_ki, fit_li, fit_si, ixB, nbB, inR, wdB, kyB, csB, tm_i, tm_s, tm_0, tm_1, tm_2, tm_3, tm_4, sb_s, sb_i, sb_t, tsB, tmBs, nmB, sh_parts, sh_number, sh_set, sh_add, sh_sub, sh_mul, sh_unless, sh_new, sh_copy, sh_drop, sh_tell, sh_go, sh_sum, sh_end, sh_look, sh_parts_u, sh_number_u, sh_set_u, sh_add_u, sh_sub_u, sh_mul_u, sh_unless_u, sh_new_u, sh_copy_u, sh_drop_u, sh_tell_u, sh_go_u, sh_sum_u, sh_end_u, sh_look_u, sh_jump, *] <;> omega), bad_number a b c2⟩ ?_
  refine all_c ⟨by refine ins_of _ _ (by simp [smB, smBs, *]) (by simp [P.dep, P.deps, *] <;> omega) (by simp [inB, fitsB, fit_i, fit_b, fit_m, fit_n, fit_w, fit_c, fit_t, fit_j, fit_s, fit_l, fit_k, fit_ki, fit_li, fit_si, ixB, nbB, inR, wdB, kyB, csB, tm_i, tm_s, tm_0, tm_1, tm_2, tm_3, tm_4, sb_s, sb_i, sb_t, tsB, tmBs, nmB, sh_parts, sh_number, sh_set, sh_add, sh_sub, sh_mul, sh_unless, sh_new, sh_copy, sh_drop, sh_tell, sh_go, sh_sum, sh_end, sh_look, sh_parts_u, sh_number_u, sh_set_u, sh_add_u, sh_sub_u, sh_mul_u, sh_unless_u, sh_new_u, sh_copy_u, sh_drop_u, sh_tell_u, sh_go_u, sh_sum_u, sh_end_u, sh_look_u, sh_jump, *] <;> omega), bad_set a i⟩ ?_
  refine all_c ⟨by refine ins_of _ _ (by simp [smB, smBs, *]) (by simp [P.dep, P.deps, *] <;> omega) (by simp [inB, fitsB, fit_i, fit_b, fit_m, fit_n, fit_w, fit_c, fit_t, fit_j, fit_s, fit_l, fit_k, fit_ki, fit_li, fit_si, ixB, nbB, inR, wdB, kyB, csB, tm_i, tm_s, tm_0, tm_1, tm_2, tm_3, tm_4, sb_s, sb_i, sb_t, tsB, tmBs, nmB, sh_parts, sh_number, sh_set, sh_add, sh_sub, sh_mul, sh_unless, sh_new, sh_copy, sh_drop, sh_tell, sh_go, sh_sum, sh_end, sh_look, sh_parts_u, sh_number_u, sh_set_u, sh_add_u, sh_sub_u, sh_mul_u, sh_unless_u, sh_new_u, sh_copy_u, sh_drop_u, sh_tell_u, sh_go_u, sh_sum_u, sh_end_u, sh_look_u, sh_jump, *] <;> omega), bad_add a b c⟩ ?_
  refine all_c ⟨by refine ins_of _ _ (by simp [smB, smBs, *]) (by simp [P.dep, P.deps, *] <;> omega) (by simp [inB, fitsB, fit_i, fit_b, fit_m, fit_n, fit_w, fit_c, fit_t, fit_j, fit_s, fit_l, fit_k, fit_ki, fit_li, fit_si, ixB, nbB, inR, wdB, kyB, csB, tm_i, tm_s, tm_0, tm_1, tm_2, tm_3, tm_4, sb_s, sb_i, sb_t, tsB, tmBs, nmB, sh_parts, sh_number, sh_set, sh_add, sh_sub, sh_mul, sh_unless, sh_new, sh_copy, sh_drop, sh_tell, sh_go, sh_sum, sh_end, sh_look, sh_parts_u, sh_number_u, sh_set_u, sh_add_u, sh_sub_u, sh_mul_u, sh_unless_u, sh_new_u, sh_copy_u, sh_drop_u, sh_tell_u, sh_go_u, sh_sum_u, sh_end_u, sh_look_u, sh_jump, *] <;> omega), bad_sub a b c⟩ ?_
  refine all_c ⟨by refine ins_of _ _ (by simp [smB, smBs, *]) (by simp [P.dep, P.deps, *] <;> omega) (by simp [inB, fitsB, fit_i, fit_b, fit_m, fit_n, fit_w, fit_c, fit_t, fit_j, fit_s, fit_l, fit_k, fit_ki, fit_li, fit_si, ixB, nbB, inR, wdB, kyB, csB, tm_i, tm_s, tm_0, tm_1, tm_2, tm_3, tm_4, sb_s, sb_i, sb_t, tsB, tmBs, nmB, sh_parts, sh_number, sh_set, sh_add, sh_sub, sh_mul, sh_unless, sh_new, sh_copy, sh_drop, sh_tell, sh_go, sh_sum, sh_end, sh_look, sh_parts_u, sh_number_u, sh_set_u, sh_add_u, sh_sub_u, sh_mul_u, sh_unless_u, sh_new_u, sh_copy_u, sh_drop_u, sh_tell_u, sh_go_u, sh_sum_u, sh_end_u, sh_look_u, sh_jump, *] <;> omega), bad_mul a b c⟩ ?_
  refine all_c ⟨by refine ins_of _ _ (by simp [smB, smBs, *]) (by simp [P.dep, P.deps, *] <;> omega) (by simp [inB, fitsB, fit_i, fit_b, fit_m, fit_n, fit_w, fit_c, fit_t, fit_j, fit_s, fit_l, fit_k, fit_ki, fit_li, fit_si, ixB, nbB, inR, wdB, kyB, csB, tm_i, tm_s, tm_0, tm_1, tm_2, tm_3, tm_4, sb_s, sb_i, sb_t, tsB, tmBs, nmB, sh_parts, sh_number, sh_set, sh_add, sh_sub, sh_mul, sh_unless, sh_new, sh_copy, sh_drop, sh_tell, sh_go, sh_sum, sh_end, sh_look, sh_parts_u, sh_number_u, sh_set_u, sh_add_u, sh_sub_u, sh_mul_u, sh_unless_u, sh_new_u, sh_copy_u, sh_drop_u, sh_tell_u, sh_go_u, sh_sum_u, sh_end_u, sh_look_u, sh_jump, *] <;> omega), bad_unless w hw a b c⟩ ?_
  refine all_c ⟨by refine ins_of _ _ (by simp [smB, smBs, *]) (by simp [P.dep, P.deps, *] <;> omega) (by simp [inB, fitsB, fit_i, fit_b, fit_m, fit_n, fit_w, fit_c, fit_t, fit_j, fit_s, fit_l, fit_k, fit_ki, fit_li, fit_si, ixB, nbB, inR, wdB, kyB, csB, tm_i, tm_s, tm_0, tm_1, tm_2, tm_3, tm_4, sb_s, sb_i, sb_t, tsB, tmBs, nmB, sh_parts, sh_number, sh_set, sh_add, sh_sub, sh_mul, sh_unless, sh_new, sh_copy, sh_drop, sh_tell, sh_go, sh_sum, sh_end, sh_look, sh_parts_u, sh_number_u, sh_set_u, sh_add_u, sh_sub_u, sh_mul_u, sh_unless_u, sh_new_u, sh_copy_u, sh_drop_u, sh_tell_u, sh_go_u, sh_sum_u, sh_end_u, sh_look_u, sh_jump, *] <;> omega), bad_new a b c⟩ ?_
  refine all_c ⟨by refine ins_of _ _ (by simp [smB, smBs, *]) (by simp [P.dep, P.deps, *] <;> omega) (by simp [inB, fitsB, fit_i, fit_b, fit_m, fit_n, fit_w, fit_c, fit_t, fit_j, fit_s, fit_l, fit_k, fit_ki, fit_li, fit_si, ixB, nbB, inR, wdB, kyB, csB, tm_i, tm_s, tm_0, tm_1, tm_2, tm_3, tm_4, sb_s, sb_i, sb_t, tsB, tmBs, nmB, sh_parts, sh_number, sh_set, sh_add, sh_sub, sh_mul, sh_unless, sh_new, sh_copy, sh_drop, sh_tell, sh_go, sh_sum, sh_end, sh_look, sh_parts_u, sh_number_u, sh_set_u, sh_add_u, sh_sub_u, sh_mul_u, sh_unless_u, sh_new_u, sh_copy_u, sh_drop_u, sh_tell_u, sh_go_u, sh_sum_u, sh_end_u, sh_look_u, sh_jump, *] <;> omega), bad_copy a b1⟩ ?_
  refine all_c ⟨by refine ins_of _ _ (by simp [smB, smBs, *]) (by simp [P.dep, P.deps, *] <;> omega) (by simp [inB, fitsB, fit_i, fit_b, fit_m, fit_n, fit_w, fit_c, fit_t, fit_j, fit_s, fit_l, fit_k, fit_ki, fit_li, fit_si, ixB, nbB, inR, wdB, kyB, csB, tm_i, tm_s, tm_0, tm_1, tm_2, tm_3, tm_4, sb_s, sb_i, sb_t, tsB, tmBs, nmB, sh_parts, sh_number, sh_set, sh_add, sh_sub, sh_mul, sh_unless, sh_new, sh_copy, sh_drop, sh_tell, sh_go, sh_sum, sh_end, sh_look, sh_parts_u, sh_number_u, sh_set_u, sh_add_u, sh_sub_u, sh_mul_u, sh_unless_u, sh_new_u, sh_copy_u, sh_drop_u, sh_tell_u, sh_go_u, sh_sum_u, sh_end_u, sh_look_u, sh_jump, *] <;> omega), bad_drop a⟩ ?_
  refine all_c ⟨by refine ins_of _ _ (by simp [smB, smBs, *]) (by simp [P.dep, P.deps, *] <;> omega) (by simp [inB, fitsB, fit_i, fit_b, fit_m, fit_n, fit_w, fit_c, fit_t, fit_j, fit_s, fit_l, fit_k, fit_ki, fit_li, fit_si, ixB, nbB, inR, wdB, kyB, csB, tm_i, tm_s, tm_0, tm_1, tm_2, tm_3, tm_4, sb_s, sb_i, sb_t, tsB, tmBs, nmB, sh_parts, sh_number, sh_set, sh_add, sh_sub, sh_mul, sh_unless, sh_new, sh_copy, sh_drop, sh_tell, sh_go, sh_sum, sh_end, sh_look, sh_parts_u, sh_number_u, sh_set_u, sh_add_u, sh_sub_u, sh_mul_u, sh_unless_u, sh_new_u, sh_copy_u, sh_drop_u, sh_tell_u, sh_go_u, sh_sum_u, sh_end_u, sh_look_u, sh_jump, *] <;> omega), bad_tell a t t1 t2 t3⟩ ?_
  refine all_c ⟨by refine ins_of _ _ (by simp [smB, smBs, *]) (by simp [P.dep, P.deps, *] <;> omega) (by simp [inB, fitsB, fit_i, fit_b, fit_m, fit_n, fit_w, fit_c, fit_t, fit_j, fit_s, fit_l, fit_k, fit_ki, fit_li, fit_si, ixB, nbB, inR, wdB, kyB, csB, tm_i, tm_s, tm_0, tm_1, tm_2, tm_3, tm_4, sb_s, sb_i, sb_t, tsB, tmBs, nmB, sh_parts, sh_number, sh_set, sh_add, sh_sub, sh_mul, sh_unless, sh_new, sh_copy, sh_drop, sh_tell, sh_go, sh_sum, sh_end, sh_look, sh_parts_u, sh_number_u, sh_set_u, sh_add_u, sh_sub_u, sh_mul_u, sh_unless_u, sh_new_u, sh_copy_u, sh_drop_u, sh_tell_u, sh_go_u, sh_sum_u, sh_end_u, sh_look_u, sh_jump, *] <;> omega), bad_go a ts ks h1 h2 h3 h4 g1 g2 g3 g4⟩ ?_
  refine all_c ⟨by refine ins_of _ _ (by simp [smB, smBs, *]) (by simp [P.dep, P.deps, *] <;> omega) (by simp [inB, fitsB, fit_i, fit_b, fit_m, fit_n, fit_w, fit_c, fit_t, fit_j, fit_s, fit_l, fit_k, fit_ki, fit_li, fit_si, ixB, nbB, inR, wdB, kyB, csB, tm_i, tm_s, tm_0, tm_1, tm_2, tm_3, tm_4, sb_s, sb_i, sb_t, tsB, tmBs, nmB, sh_parts, sh_number, sh_set, sh_add, sh_sub, sh_mul, sh_unless, sh_new, sh_copy, sh_drop, sh_tell, sh_go, sh_sum, sh_end, sh_look, sh_parts_u, sh_number_u, sh_set_u, sh_add_u, sh_sub_u, sh_mul_u, sh_unless_u, sh_new_u, sh_copy_u, sh_drop_u, sh_tell_u, sh_go_u, sh_sum_u, sh_end_u, sh_look_u, sh_jump, *] <;> omega), bad_sum a b f ks g1 g2 g3 g4⟩ ?_
  refine all_c ⟨by refine ins_of _ _ (by simp [smB, smBs, *]) (by simp [P.dep, P.deps, *] <;> omega) (by simp [inB, fitsB, fit_i, fit_b, fit_m, fit_n, fit_w, fit_c, fit_t, fit_j, fit_s, fit_l, fit_k, fit_ki, fit_li, fit_si, ixB, nbB, inR, wdB, kyB, csB, tm_i, tm_s, tm_0, tm_1, tm_2, tm_3, tm_4, sb_s, sb_i, sb_t, tsB, tmBs, nmB, sh_parts, sh_number, sh_set, sh_add, sh_sub, sh_mul, sh_unless, sh_new, sh_copy, sh_drop, sh_tell, sh_go, sh_sum, sh_end, sh_look, sh_parts_u, sh_number_u, sh_set_u, sh_add_u, sh_sub_u, sh_mul_u, sh_unless_u, sh_new_u, sh_copy_u, sh_drop_u, sh_tell_u, sh_go_u, sh_sum_u, sh_end_u, sh_look_u, sh_jump, *] <;> omega), bad_end⟩ ?_
  exact all_n
end Lw
namespace Lw
open Pd
theorem good1 (row : List Nat) (hr : row.length = 40) (a : Nat) : ∃ (ks : List Nat) (a' : Nat), C__law_good_1 [some (.p (.lst (eN row))), some (.r 0), none, none, none, none, none] [.lst [.int a]] = .ok (.r 1) [.lst [.int a'], .lst (eN ks)] ∧ ks.length = 8 ∧ ∀ k ∈ ks, k < 12 := by
  unfold C__law_good_1
  refine Ex.to (comp_range (σ := Nat) 8 (fun s => [.lst [.int s]]) (fun j s' ys => ∃ ks : List Nat, ys = eN ks ∧ ks.length = j ∧ ∀ k ∈ ks, k < 12) a ?_ rfl ?_ ?_ ?_ ?_) fun ys h => Ex.to h fun s' h => Ex.to h.2 fun ks q => ⟨ks, s', by rw [← q.1]; exact h.1, q.2⟩
  · simp
  · decide
  · exact ⟨[], rfl, rfl, by simp⟩
  · intro s; rfl
  · intro j s ys hj hI
    obtain ⟨ks, rfl, h1, h2⟩ := hI
    have e := pick_ok row hr s
    generalize pk row (s + 1) = p at e
    obtain ⟨m, e2, hm⟩ := nat_of (i := (p : Int)) (n := 12) (by decide)
    refine ⟨.int m, s + 1, ?_, ks ++ [m], by simp [eN], by simp [h1], ?_⟩
    · simp at e
      simp [e, e2]
    · intro k hk
      rcases List.mem_append.mp hk with h | h
      · exact h2 k h
      · cases List.mem_singleton.mp h; omega
theorem good2 (row : List Nat) (hr : row.length = 40) (x : P) (a : Nat) : ∃ (ts : List P) (a' : Nat), C__law_good_2 [some (.p (.lst (eN row))), some (.r 0), some (.p x), none, none, none, none] [.lst [.int a]] = .ok (.r 1) [.lst [.int a'], .lst ts] ∧ ts.length = 3 ∧ ∀ t ∈ ts, Tp 2 t := by
  unfold C__law_good_2
  refine Ex.to (comp_range (σ := Nat) 3 (fun s => [.lst [.int s]]) (fun j s' ys => ys.length = j ∧ ∀ t ∈ ys, Tp 2 t) a ?_ rfl ?_ ?_ ?_ ?_) fun ys h => Ex.to h fun s' h => ⟨ys, s', h⟩
  · simp
  · decide
  · exact ⟨rfl, by simp⟩
  · intro s; rfl
  · intro j s ys hj hI
    obtain ⟨t, a', e, ht⟩ := template_gen row hr 2 100 s (by decide)
    have e : F__law_template [.p (.lst (eN row)), .r 0, .p (.int 2)] [.lst [.int s]] = .ok (.p t) [.lst [.int a']] := e
    refine ⟨t, a', ?_, by simp [hI.1], ?_⟩
    · simp [e]
    · intro k hk
      rcases List.mem_append.mp hk with h | h
      · exact hI.2 k h
      · cases List.mem_singleton.mp h; exact ht
theorem len8 {α : Type} {l : List α} (h : l.length = 8) : ∃ a b c d e f g i, l = [a, b, c, d, e, f, g, i] := by
  rcases l with _ | ⟨a, _ | ⟨b, _ | ⟨c, _ | ⟨d, _ | ⟨e, _ | ⟨f, _ | ⟨g, _ | ⟨i, _ | ⟨j, r⟩⟩⟩⟩⟩⟩⟩⟩⟩ <;> simp at h
  exact ⟨_, _, _, _, _, _, _, _, rfl⟩
theorem len3 {α : Type} {l : List α} (h : l.length = 3) : ∃ a b c, l = [a, b, c] := by
  rcases l with _ | ⟨a, _ | ⟨b, _ | ⟨c, _ | ⟨d, r⟩⟩⟩⟩ <;> simp at h
  exact ⟨_, _, _, rfl⟩
def CsOk (cs : List P) : Prop := cs.all csB = true ∧ smBs cs = true ∧ cs.length ≤ 1000 ∧ P.deps cs ≤ 10
theorem cs1 (a b c : Nat) : CsOk [.tup [.int 3, .int a], .tup [.tup [.str [99, 111, 110, 115], .int b], .int c]] := by
  refine ⟨?_, ?_, by simp, by simp [P.deps, P.dep]⟩
  · simp [csB, kyB, ixB, wdB]; decide
  · simp [smBs, smB]
theorem cs2 : CsOk [] := ⟨rfl, rfl, by simp, by simp [P.deps]⟩
theorem cs3 (a : Nat) : CsOk [.tup [.int (-5), .int a], .tup [.int 100000000000000, .int 2]] := by
  refine ⟨?_, ?_, by simp, by simp [P.deps, P.dep]⟩
  · simp [csB, kyB, ixB, wdB]
  · simp [smBs, smB]
theorem good_ok (row : List Nat) (hr : row.length = 40) (a : Nat) : ∃ (q : Args) (a' : Nat), F__law_good [.p (.lst (eN row)), .r 0] [.lst [.int a]] = .ok (.r 1) [.lst [.int a'], .lst q.goods] ∧ q.Ok := by
  obtain ⟨ks, a1, e1, hl, hk⟩ := good1 row hr a
  obtain ⟨k0, k1, k2, k3, k4, k5, k6, k7, rfl⟩ := len8 hl
  obtain ⟨ts, a2, e2, hl2, ht⟩ := good2 row hr (.lst (eN [k0, k1, k2, k3, k4, k5, k6, k7])) a1
  obtain ⟨t0, t1, t2, rfl⟩ := len3 hl2
  have p0 := tp_ok 2 t0 (ht t0 (by simp))
  have p1 := tp_ok 2 t1 (ht t1 (by simp))
  have h1 := hk k1 (by simp)
  obtain ⟨x, hx, ex⟩ := atI_modn (xs := [P.str [108, 101, 115, 115], .str [109, 111, 115, 116], .str [115, 97, 109, 101]]) 3 rfl (by decide) (k0 : Int)
  have hx : ∃ w ∈ relL, x = .str w := by
    simp at hx
    rcases hx with rfl | rfl | rfl
    all_goals exact ⟨_, by decide, rfl⟩
  obtain ⟨w, hw, rfl⟩ := hx
  obtain ⟨y, hy, ey⟩ := atI_modn (xs := [P.tup [.tup [.int 3, .int k1], .tup [.tup [.str [99, 111, 110, 115], .int k2], .int k3]], .tup [], .tup [.tup [.int (-5), .int k4], .tup [.int 100000000000000, .int 2]]]) 3 rfl (by decide) (k5 : Int)
  have hy : ∃ cs, CsOk cs ∧ y = .tup cs := by
    simp at hy
    rcases hy with rfl | rfl | rfl
    · exact ⟨_, cs1 k1 k2 k3, rfl⟩
    · exact ⟨_, cs2, rfl⟩
    · exact ⟨_, cs3 k4, rfl⟩
  obtain ⟨cs, ⟨c1, c2, c3, c4⟩, rfl⟩ := hy
  obtain ⟨m2, em2, hm2⟩ := nat_of (i := (k2 : Int)) (n := 2) (by decide)
  obtain ⟨m1, em1, hm1⟩ := nat_of (i := (k1 : Int)) (n := 3) (by decide)
  obtain ⟨m4, em4, hm4⟩ := nat_of (i := (k4 : Int)) (n := 3) (by decide)
  have ok : ∀ j : Int, -1 ≤ j → (Args.mk k0 k1 k2 k5 m2 (1 + k1) ((k1 : Int) - 6) j w t0 ([t0, t1].take m1) ([P.int k2, P.int k3].take m4) cs).Ok := by
    intro j hj
    have tk : ∀ t ∈ [t0, t1].take m1, smB t = true ∧ tmB t = true ∧ t.dep ≤ 5 := by
      intro t ht
      have := List.mem_of_mem_take ht
      simp at this
      rcases this with rfl | rfl
      · exact p0
      · exact p1
    have kk : ∀ t ∈ [P.int k2, P.int k3].take m4, smB t = true ∧ ixB t = true ∧ t.dep ≤ 5 := by
      intro t ht
      have := List.mem_of_mem_take ht
      simp at this
      rcases this with rfl | rfl <;> exact ⟨rfl, by simp [ixB], by simp [P.dep]⟩
    constructor
    · exact List.all_eq_true.mpr fun t h => (tk t h).2.1
    · show smBs _ = true; rw [smBs_all]; exact List.all_eq_true.mpr fun t h => (tk t h).1
    · show (List.take _ _).length ≤ _; simp; omega
    · exact Nat.le_trans (deps_le fun t h => (tk t h).2.2) (by decide)
    · exact List.all_eq_true.mpr fun t h => (kk t h).2.1
    · show smBs _ = true; rw [smBs_all]; exact List.all_eq_true.mpr fun t h => (kk t h).1
    · show (List.take _ _).length ≤ _; simp; omega
    · exact Nat.le_trans (deps_le fun t h => (kk t h).2.2) (by decide)
    · exact c1
    · exact c2
    · exact c3
    · exact c4
    · exact p0.2.1
    · exact p0.1
    · show t0.dep ≤ 20; omega
    · exact hw
    · show m2 ≤ 1; omega
    · show 1 ≤ 1 + k1; omega
    · show -1000000000000 ≤ (k1 : Int) - 6 ∧ (k1 : Int) - 6 ≤ 1000000000000; omega
    · exact hj
  have sl1 : cut [t0, t1] none (some (m1 : Int)) = [t0, t1].take m1 := cut_take _ _
  have sl2 : cut [P.int k2, P.int k3] none (some (m4 : Int)) = [P.int k2, P.int k3].take m4 := cut_take _ _
  by_cases h3 : k3 = 0
  · subst h3
    refine ⟨_, a2, ?_, ok (-1) (by decide)⟩
    unfold F__law_good B__law_good
    simp at e1 e2 ey
    simp [e1, e2, ex, ey, em1, em2, em4, Args.goods]
  · refine ⟨_, a2, ?_, ok k3 (by omega)⟩
    have h3' : ¬ ((k3 : Nat) : Int) = 0 := by omega
    unfold F__law_good B__law_good
    simp at e1 e2 ey
    simp [e1, e2, ex, ey, em1, em2, em4, Args.goods, h3, h3']
end Lw
namespace Lw
open Pd
abbrev abcL : List Nat := [97, 98, 99, 100, 101, 102, 103, 104, 105, 106, 107, 108]
def dp : Nat → P → P
  | 0, x => x
  | k + 1, x => .tup [.str [99], .str abcL, .tup (List.replicate (k % 8) (.int 3) ++ [dp k x])]
theorem mulx1 (x : P) (m : Nat) (h : m ≤ 1000) : oMulX (.tup [x]) (.int m) = some (.p (.tup (List.replicate m x))) := by
  have : oMulX (.tup [x]) (.int m) = gd (¬ ([x] : List P).isEmpty = true ∧ ([x] : List P).length ≤ 1000 ∧ -1000000 ≤ (m : Int) ∧ (m : Int) ≤ 1000) (some (.p (.tup (List.replicate (m : Int).toNat [x]).flatten))) := rfl
  rw [this, gd_pos ⟨by simp, by simp, by omega, by omega⟩]
  simp
theorem mulx30 (x : P) : oMulX (.tup [x]) (.int 30) = some (.p (.tup (List.replicate 30 x))) := mulx1 x 30 (by decide)
theorem mulxl (xs : List P) (h : xs.length ≤ 1000) : oMulX (.lst xs) (.int 5) = some (.l (xs ++ (xs ++ (xs ++ (xs ++ xs))))) := by
  have : oMulX (.lst xs) (.int 5) = gd (xs.length * (5 : Int).toNat ≤ line ∧ -1000000 ≤ (5 : Int) ∧ (5 : Int) ≤ 1000000) (some (.l (List.replicate (5 : Int).toNat xs).flatten)) := rfl
  rw [this, gd_pos ⟨by show xs.length * 5 ≤ 16777216; omega, by decide, by decide⟩]
  simp [List.replicate]
theorem dp_tm (x : P) (h : tmB x = true) (h2 : smB x = true) : ∀ k, tmB (dp k x) = true ∧ smB (dp k x) = true
  | 0 => ⟨h, h2⟩
  | k + 1 => by
    have ih := dp_tm x h h2 k
    have hn : nmB abcL = true := by decide
    refine ⟨?_, ?_⟩
    · rw [dp, tm_3]
      simp only [sB, wdB, tsB, tmBs_all, hn, List.all_append, List.all_cons, List.all_nil, ih.1]
      simp [tm_i]
    · rw [dp]
      simp only [smB, smBs, smBs_all, List.all_append, List.all_cons, List.all_nil, ih.2]
      simp [smB]
      omega
theorem dp_dep (x : P) : ∀ k, (dp k x).dep = x.dep + 2 * k
  | 0 => rfl
  | k + 1 => by
    have ih := dp_dep x k
    have hr : ∀ m, P.deps (List.replicate m (P.int 3)) = 0 := fun m => by
      have := deps_le (xs := List.replicate m (P.int 3)) (n := 0) fun y hy => by
        rw [List.eq_of_mem_replicate hy]
        simp [P.dep]
      omega
    simp [dp, P.dep, P.deps, deps_app, ih, hr]
    omega
theorem dp_tup (xs : List P) : ∀ k, ∃ ys, dp k (.tup xs) = .tup ys
  | 0 => ⟨_, rfl⟩
  | k + 1 => ⟨_, rfl⟩
theorem dp_fl (h : List P) (xs : List P) (y : P) (e : Fl h 0 (.tup xs) y) : ∀ k, Fl h k (dp k (.tup xs)) (dp k y)
  | 0 => e
  | k + 1 => by
    have ih := dp_fl h xs y e k
    obtain ⟨ys, ey⟩ := dp_tup xs k
    let f : P → P := fun z => match z with
      | .int i => .int i
      | _ => dp k y
    have : (List.replicate (k % 8) (P.int 3) ++ [dp k (.tup xs)]).map f = List.replicate (k % 8) (P.int 3) ++ [dp k y] := by
      rw [List.map_append, List.map_replicate, List.map_singleton, ey]
    rw [dp, dp, ← this]
    refine .con _ _ f ?_ ?_
    · intro z hz
      rcases List.mem_append.mp hz with h | h
      · rw [List.eq_of_mem_replicate h]; exact .num 3
      · rw [List.mem_singleton.mp h]
        rw [ey] at ih ⊢
        exact ih
    · simp; omega
theorem far1 (row : List Nat) : C__law_far_1 [some (.p (.lst (eN row))), none, none, none, none, none, none, none, none, none] [] = .ok (.r 0) [.lst (eN ((row.take 6).map (1000000000001 + ·)))] := by
  unfold C__law_far_1
  refine (comp_pure (.p (.lst (eN (row.take 6)))) (fun n : Nat => P.int n) (row.take 6) (fun _ => true) (fun n => .int ((1000000000001 + n : Nat) : Int)) ?_ ?_ rfl ?_).trans ?_
  · have : cut row none (some 6) = row.take 6 := cut_take row 6
    simp [this]
  · simp; omega
  · intro y hy
    refine ⟨_, rfl, rfl, fun _ => ?_⟩
    simp
  · simp [Function.comp_def]
theorem far2 (a b c d : P) : ∃ s : Nat, L__law_far_1 [some (.p a), some (.p b), some (.p (.tup [.str [114], c])), some (.p (.tup [.str [114], .int 5])), some (.p d), none, none, none, none, none] [] = .next [some (.p a), some (.p b), some (.p (dp 40 (.tup [.str [114], c]))), some (.p (dp 40 (.tup [.str [114], .int 5]))), some (.p (dp 40 d)), none, none, none, none, none] [] := by
  unfold L__law_far_1
  refine Ex.to (for_range (σ := Nat) 40 (fun s => ([some (.p a), some (.p b), some (.p (dp s (.tup [.str [114], c]))), some (.p (dp s (.tup [.str [114], .int 5]))), some (.p (dp s d)), none, none, none, none, none], [])) (fun j s => s = j) 0 ?_ rfl rfl ?_) fun s h => ⟨s, by obtain ⟨h, rfl⟩ := h; exact h⟩
  · simp
  · rintro j s hj rfl
    refine ⟨s + 1, ?_, rfl⟩
    obtain ⟨q, e, hq⟩ := nat_of (i := (s : Int)) (n := 8) (by decide)
    have e2 : s % 8 = q := by omega
    have m : oMulX (.tup [.int 3]) (.int (q : Int)) = some (.p (.tup (List.replicate q (.int 3)))) := mulx1 _ _ (by omega)
    have l : (List.replicate q (P.int 3)).length + 1 ≤ 16777216 := by simp; omega
    have d : ∀ x, dp (s + 1) x = .tup [.str [99], .str abcL, .tup (List.replicate q (.int 3) ++ [dp s x])] := fun x => by rw [dp, e2]
    simp only [d]
    generalize List.replicate q (P.int 3) = r at *
    simp [e, m, l]
theorem far3 (a b c d f n0 n1 n2 n3 n4 n5 : Nat) (x y z w : P) : ∃ cs : List P, C__law_far_2 [some (.p x), some (.p (.lst (eN [n0, n1, n2, n3, n4, n5]))), some (.p y), some (.p z), some (.p w), none, none, none, none, none] [] = .ok (.r 0) [.lst cs] ∧ CsOk cs ∧ cs.length = 40 := by
  unfold C__law_far_2
  refine Ex.to (comp_range (σ := Unit) 40 (fun s => []) (fun j s' ys => ys.length = j ∧ ∀ c ∈ ys, csB c = true ∧ smB c = true ∧ c.dep ≤ 2) () ?_ rfl ?_ ?_ ?_ ?_) fun ys h => Ex.to h fun s' h => ⟨ys, h.1, ⟨?_, ?_, ?_, ?_⟩, h.2.1⟩
  · simp
  · decide
  · exact ⟨rfl, by simp⟩
  · intro s; rfl
  · intro j s ys hj hI
    obtain ⟨v, hv, ev⟩ := atI_modn (xs := eN [n0, n1, n2, n3, n4, n5]) 6 rfl (by decide) (j : Int)
    obtain ⟨n, _, rfl⟩ := List.mem_map.mp hv
    have il : (intL j).length ≤ 100 := (by decide : ∀ j < 40, (intL (j : Nat)).length ≤ 100) j hj
    have nm : nmB (99 :: intL j) = true := (by decide : ∀ j < 40, nmB (99 :: intL (j : Nat)) = true) j hj
    refine ⟨.tup [.tup [.str (99 :: intL j), .int j], .int n], (), ?_, by simp [hI.1], ?_⟩
    · have l : 1 + (intL j).length ≤ 16777216 := by omega
      have b1 : (-1000000000000000000 : Int) ≤ j := by omega
      have b2 : (j : Int) ≤ 1000000000000000000 := by omega
      simp at ev
      simp [ev, l, b1, b2]
    · intro c hc
      rcases List.mem_append.mp hc with h | h
      · exact hI.2 c h
      · cases List.mem_singleton.mp h
        refine ⟨?_, ?_, by simp [P.dep, P.deps]⟩
        · simp [csB, kyB, ixB, wdB, nm]
        · simp [smB, smBs]; omega
  · exact List.all_eq_true.mpr fun t q => (h.2.2 t q).1
  · rw [smBs_all]; exact List.all_eq_true.mpr fun t q => (h.2.2 t q).2.1
  · omega
  · exact Nat.le_trans (deps_le fun t q => (h.2.2 t q).2.2) (by decide)
end Lw
namespace Lw
open Pd
theorem is_tt : oIs (.bl true) (.bl true) = some (.p (.bl true)) := opq rfl
theorem is_ff : oIs (.bl false) (.bl false) = some (.p (.bl true)) := opq rfl
theorem bAll_tt (gs : List P) : bAll [.lst (gs.map fun _ => .bl true)] = some (.p (.bl true)) := by
  rw [bAll_f gs fun _ => true]
  congr 3
  exact List.all_eq_true.mpr fun _ _ => rfl
theorem far4 (o0 o1 o2 o3 o4 o5 o6 : Option D) (gs bs : List P) (hl : gs.length ≤ 1000) (h : ∀ g ∈ gs, Ins true g) : ∃ l, C__law_far_3 [o0, o1, o2, o3, o4, o5, o6, some (.p (.lst gs)), some (.p (.lst bs)), none] [] = .ok (.r 0) [.lst l] ∧ bAll [.lst l] = some (.p (.bl true)) := by
  refine ⟨_, ?_, bAll_tt gs⟩
  unfold C__law_far_3
  refine (comp_pure (.p (.lst gs)) id gs (fun _ => true) (fun y => .bl true) ?_ ?_ rfl ?_).trans ?_
  · simp
  · omega
  · intro y hy
    refine ⟨_, rfl, rfl, fun _ => ?_⟩
    have e : F_is_instruction [.p y] [] = .ok (.p (.bl true)) [] := h y hy
    simp [e, is_tt]
  · simp
theorem far5 (o0 o1 o2 o3 o4 o5 o6 : Option D) (gs bs : List P) (hl : bs.length ≤ 1000) (h : ∀ g ∈ bs, Ins false g) : ∃ l, C__law_far_4 [o0, o1, o2, o3, o4, o5, o6, some (.p (.lst gs)), some (.p (.lst bs)), none] [] = .ok (.r 0) [.lst l] ∧ bAll [.lst l] = some (.p (.bl true)) := by
  refine ⟨_, ?_, bAll_tt bs⟩
  unfold C__law_far_4
  refine (comp_pure (.p (.lst bs)) id bs (fun _ => true) (fun y => .bl true) ?_ ?_ rfl ?_).trans ?_
  · simp
  · omega
  · intro y hy
    refine ⟨_, rfl, rfl, fun _ => ?_⟩
    have e : F_is_instruction [.p y] [] = .ok (.p (.bl false)) [] := h y hy
    simp [e, is_ff]
  · simp
abbrev uL (k : Nat) : P := .tup [.str [117], .tup [.tup [], .int k]]
theorem far6 (o0 o1 o2 o3 o4 o6 o7 o8 o9 : Option D) : C__law_far_5 [o0, o1, o2, o3, o4, none, o6, o7, o8, o9] [] = .ok (.r 0) [.lst [uL 0, uL 1, uL 2, uL 3, uL 4, uL 5]] := by
  unfold C__law_far_5
  refine (comp_pure (.p .non) (fun k : Nat => P.int (0 + (k : Nat))) (List.range 6) (fun _ => true) (fun k => uL k) ?_ ?_ rfl ?_).trans ?_
  · simp
  · decide
  · intro y hy
    refine ⟨_, rfl, rfl, fun _ => ?_⟩
    simp
  · rfl
theorem smBs_app (xs ys : List P) : smBs (xs ++ ys) = (smBs xs && smBs ys) := by simp only [smBs_all, List.all_append]
theorem len6 {α : Type} {l : List α} (h : l.length = 6) : ∃ a b c d e f, l = [a, b, c, d, e, f] := by
  rcases l with _ | ⟨a, _ | ⟨b, _ | ⟨c, _ | ⟨d, _ | ⟨e, _ | ⟨f, _ | ⟨g, r⟩⟩⟩⟩⟩⟩⟩ <;> simp at h
  exact ⟨_, _, _, _, _, _, rfl⟩
def goodF (n0 n1 n2 : Nat) (cs ts ks : List P) (deep : P) : List P :=
  [.tup [.str [108, 111, 111, 107], .int n0, .int n1, .int 1, .tup cs, .int n2], .tup [.str [112, 97, 114, 116, 115], .int n0, .int n1, .int n2], .tup [.str [110, 117, 109, 98, 101, 114], .int n0, .int n1, .int 0],
   .tup [.str [115, 101, 116], .int n0, .int 1000000000000], .tup [.str [115, 101, 116], .int n0, .int (-1000000000000)], .tup [.str [109, 117, 108], .int n0, .int n1, .int n2], .tup [.str [117, 110, 108, 101, 115, 115], .str [109, 111, 115, 116], .int n0, .int n1, .int n2],
   .tup [.str [110, 101, 119], .int n0, .int n1, .int n2], .tup [.str [99, 111, 112, 121], .int n0, .int n1], .tup [.str [100, 114, 111, 112], .int n0], .tup [.str [116, 101, 108, 108], .int n0, deep],
   .tup [.str [103, 111], .int n0, .str abcL, .tup ts, .tup ks], .tup [.str [115, 117, 109], .int n0, .int n1, .tup ks, .int n2], .tup [.str [115, 101, 116], .int n0, .int 0]]
abbrev ab13 : List Nat := [97, 98, 99, 100, 101, 102, 103, 104, 105, 106, 107, 108, 109]
def badF (n0 : Nat) (cs : List P) : List P :=
  [.tup [.str [115, 101, 116], .int n0, .int (-1000000000001)], .tup [.str [103, 111], .int 0, .str ab13, .tup [], .tup []], .tup [.str [116, 101, 108, 108], .int 0, .tup [.str [99], .str ab13, .tup []]],
   .tup [.str [108, 111, 111, 107], .int 0, .int 0, .int 0, .tup (cs ++ [.tup [.tup [.str [99], .int (-1)], .int 0]]), .int 0]]
theorem goodF_ok (n0 n1 n2 : Nat) (hn : 1 ≤ n1) (cs ts ks : List P) (deep : P) (c1 : cs.all csB = true) (c2 : smBs cs = true) (c3 : cs.length ≤ 1000) (c4 : P.deps cs ≤ 10)
    (h1 : ts.all tmB = true) (h2 : smBs ts = true) (h3 : ts.length ≤ 1000) (h4 : P.deps ts ≤ 81) (g1 : ks.all ixB = true) (g2 : smBs ks = true) (g3 : ks.length ≤ 1000) (g4 : P.deps ks ≤ 10) (d1 : tmB deep = true) (d2 : smB deep = true) (d3 : deep.dep ≤ 81) :
    ∀ g ∈ goodF n0 n1 n2 cs ts ks deep, Ins true g := by
  unfold goodF
  repeat (first | exact all_n | refine all_c (by refine ins_of _ _ (by simp [smB, smBs, *]) (by simp [P.dep, P.deps, *] <;> omega) (by simp [inB, fitsB, fit_i, fit_b, fit_m, fit_n, fit_w, fit_c, fit_t, fit_j, fit_s, fit_l, fit_k, fit_ki, fit_li, fit_si, ixB, nbB, inR, wdB, kyB, csB, tm_i, tm_s, tm_0, tm_1, tm_2, tm_3, tm_4, sb_s, sb_i, sb_t, tsB, tmBs, nmB, sh_parts, sh_number, sh_set, sh_add, sh_sub, sh_mul, sh_unless, sh_new, sh_copy, sh_drop, sh_tell, sh_go, sh_sum, sh_end, sh_look, sh_parts_u, sh_number_u, sh_set_u, sh_add_u, sh_sub_u, sh_mul_u, sh_unless_u, sh_new_u, sh_copy_u, sh_drop_u, sh_tell_u, sh_go_u, sh_sum_u, sh_end_u, sh_look_u, sh_jump, *] <;> omega)) ?_)
theorem badF_ok (n0 : Nat) (cs : List P) (c1 : cs.all csB = true) (c2 : smBs cs = true) (c3 : cs.length ≤ 100) (c4 : P.deps cs ≤ 10) : ∀ g ∈ badF n0 cs, Ins false g := by
  have k1 : cs.length ≤ 1000 := by omega
  have k2 : cs.length + 1 ≤ 1000 := by omega
  unfold badF
  refine all_c (by refine ins_of _ _ (by simp [smB, smBs, *]) (by simp [P.dep, P.deps, *] <;> omega) (by simp [inB, fitsB, fit_i, fit_b, fit_m, fit_n, fit_w, fit_c, fit_t, fit_j, fit_s, fit_l, fit_k, fit_ki, fit_li, fit_si, ixB, nbB, inR, wdB, kyB, csB, tm_i, tm_s, tm_0, tm_1, tm_2, tm_3, tm_4, sb_s, sb_i, sb_t, tsB, tmBs, nmB, sh_parts, sh_number, sh_set, sh_add, sh_sub, sh_mul, sh_unless, sh_new, sh_copy, sh_drop, sh_tell, sh_go, sh_sum, sh_end, sh_look, sh_parts_u, sh_number_u, sh_set_u, sh_add_u, sh_sub_u, sh_mul_u, sh_unless_u, sh_new_u, sh_copy_u, sh_drop_u, sh_tell_u, sh_go_u, sh_sum_u, sh_end_u, sh_look_u, sh_jump, *] <;> omega)) (all_c (by refine ins_of _ _ (by simp [smB, smBs, *]) (by simp [P.dep, P.deps, *] <;> omega) (by simp [inB, fitsB, fit_i, fit_b, fit_m, fit_n, fit_w, fit_c, fit_t, fit_j, fit_s, fit_l, fit_k, fit_ki, fit_li, fit_si, ixB, nbB, inR, wdB, kyB, csB, tm_i, tm_s, tm_0, tm_1, tm_2, tm_3, tm_4, sb_s, sb_i, sb_t, tsB, tmBs, nmB, sh_parts, sh_number, sh_set, sh_add, sh_sub, sh_mul, sh_unless, sh_new, sh_copy, sh_drop, sh_tell, sh_go, sh_sum, sh_end, sh_look, sh_parts_u, sh_number_u, sh_set_u, sh_add_u, sh_sub_u, sh_mul_u, sh_unless_u, sh_new_u, sh_copy_u, sh_drop_u, sh_tell_u, sh_go_u, sh_sum_u, sh_end_u, sh_look_u, sh_jump, *] <;> omega)) (all_c (by refine ins_of _ _ (by simp [smB, smBs, *]) (by simp [P.dep, P.deps, *] <;> omega) (by simp [inB, fitsB, fit_i, fit_b, fit_m, fit_n, fit_w, fit_c, fit_t, fit_j, fit_s, fit_l, fit_k, fit_ki, fit_li, fit_si, ixB, nbB, inR, wdB, kyB, csB, tm_i, tm_s, tm_0, tm_1, tm_2, tm_3, tm_4, sb_s, sb_i, sb_t, tsB, tmBs, nmB, sh_parts, sh_number, sh_set, sh_add, sh_sub, sh_mul, sh_unless, sh_new, sh_copy, sh_drop, sh_tell, sh_go, sh_sum, sh_end, sh_look, sh_parts_u, sh_number_u, sh_set_u, sh_add_u, sh_sub_u, sh_mul_u, sh_unless_u, sh_new_u, sh_copy_u, sh_drop_u, sh_tell_u, sh_go_u, sh_sum_u, sh_end_u, sh_look_u, sh_jump, *] <;> omega)) (all_c ?_ all_n)))
  refine ins_of _ _ (by simp [smB, smBs, smBs_app, *]) (by simp [P.dep, P.deps, deps_app, *] <;> omega) ?_
  simp [inB, fitsB, sh_look, fit_i, fit_b, fit_k, fit_j, ixB, c1, csB, kyB, wdB, nmB]
end Lw
namespace Lw
open Pd
theorem deps_rep (x : P) : ∀ m, P.deps (List.replicate m x) ≤ x.dep := fun m => deps_le fun y hy => by rw [List.eq_of_mem_replicate hy]; omega
theorem far_ok (row : List Nat) (hr : row.length = 40) : ∃ t, F__law_far [.p (.lst (eN row))] [] = .ok (.p (.bl true)) t := by
  have e1 := far1 row
  obtain ⟨n0, n1, n2, n3, n4, n5, en⟩ := len6 (l := (row.take 6).map (1000000000001 + ·)) (by simp; omega)
  have hn : 1 ≤ n1 := by
    have : n1 ∈ (row.take 6).map (1000000000001 + ·) := by rw [en]; simp
    obtain ⟨x, _, rfl⟩ := List.mem_map.mp this
    omega
  rw [en] at e1
  clear en hr
  obtain ⟨s, e2⟩ := far2 (.lst (eN row)) (.lst (eN [n0, n1, n2, n3, n4, n5])) (.int n0) (uL 5)
  have t1 := dp_tm (.tup [.str [114], .int n0]) (by rw [tm_2]; simp [sB, ixB]) (by simp [smB, smBs]) 40
  have t2 := dp_dep (.tup [.str [114], .int n0]) 40
  have t3 := dp_dep (uL 5) 40
  have t4 := dp_fl [uL 0, uL 1, uL 2, uL 3, uL 4, uL 5] [.str [114], .int 5] (uL 5) (.reg 5 _ rfl) 40
  have d1 : (P.tup [.str [114], .int n0]).dep = 1 := by simp [P.dep, P.deps]
  have d2 : (uL 5).dep = 3 := by simp [P.dep, P.deps]
  rw [d1] at t2
  rw [d2] at t3
  generalize dp 40 (.tup [.str [114], .int n0]) = deep at *
  generalize dp 40 (.tup [.str [114], .int 5]) = opn at *
  generalize dp 40 (uL 5) = due at *
  obtain ⟨cs, e3, ⟨c1, c2, c3, c4⟩, c5⟩ := far3 0 0 0 0 0 n0 n1 n2 n3 n4 n5 (.lst (eN row)) deep opn due
  have ff := (fl_ok _ 100 40 opn due t4 (by decide)).1
  have ff : F_filled [.p opn, .p (.lst [uL 0, uL 1, uL 2, uL 3, uL 4, uL 5])] [] = .ok (.p due) [] := ff
  have q := oEq_same (x := due) (by omega)
  have tt := template_ok' deep t1.2 (by omega)
  rw [t1.1] at tt
  have m5 := mulxl (eN [n0, n1, n2, n3, n4, n5]) (by simp)
  have m30 := mulx30 deep
  have gk := goodF_ok n0 n1 n2 hn cs (List.replicate 30 deep) (eN [n0, n1, n2, n3, n4, n5] ++ (eN [n0, n1, n2, n3, n4, n5] ++ (eN [n0, n1, n2, n3, n4, n5] ++ (eN [n0, n1, n2, n3, n4, n5] ++ eN [n0, n1, n2, n3, n4, n5])))) deep c1 c2 c3 c4
    (by rw [List.all_replicate]; simp [t1.1]) (by rw [smBs_all, List.all_replicate]; simp [t1.2]) (by simp) (Nat.le_trans (deps_rep deep 30) (by omega))
    (by simp [ixB]) (by simp [smBs, smB]) (by simp) (by simp [P.deps, P.dep]) t1.1 t1.2 (by omega)
  have bk := badF_ok n0 cs c1 c2 (by omega) c4
  have f4 := fun bs => far4 (some (.p (.lst (eN row)))) (some (.p (.lst (eN [n0, n1, n2, n3, n4, n5])))) (some (.p deep)) (some (.p opn)) (some (.p due)) none (some (.p (.tup cs))) _ bs (by simp [goodF]) gk
  have f5 := fun gs => far5 (some (.p (.lst (eN row)))) (some (.p (.lst (eN [n0, n1, n2, n3, n4, n5])))) (some (.p deep)) (some (.p opn)) (some (.p due)) none (some (.p (.tup cs))) gs _ (by simp [badF]) bk
  obtain ⟨l1, f4, a1⟩ := f4 (badF n0 cs)
  obtain ⟨l2, f5, a2⟩ := f5 (goodF n0 n1 n2 cs (List.replicate 30 deep) (eN [n0, n1, n2, n3, n4, n5] ++ (eN [n0, n1, n2, n3, n4, n5] ++ (eN [n0, n1, n2, n3, n4, n5] ++ (eN [n0, n1, n2, n3, n4, n5] ++ eN [n0, n1, n2, n3, n4, n5])))) deep)
  have f6 := far6 (some (.p (.lst (eN row)))) (some (.p (.lst (eN [n0, n1, n2, n3, n4, n5])))) (some (.p deep)) (some (.p opn)) (some (.p due)) (some (.p (.tup cs))) (some (.p (.lst (goodF n0 n1 n2 cs (List.replicate 30 deep) (eN [n0, n1, n2, n3, n4, n5] ++ (eN [n0, n1, n2, n3, n4, n5] ++ (eN [n0, n1, n2, n3, n4, n5] ++ (eN [n0, n1, n2, n3, n4, n5] ++ eN [n0, n1, n2, n3, n4, n5])))) deep)))) (some (.p (.lst (badF n0 cs)))) none
  generalize hT : List.replicate 30 deep = ts at *
  clear gk bk t1 t2 t3 t4 c1 c2 c3 c4
  unfold goodF at f4 f5 f6
  unfold badF at f4 f5 f6
  simp [uL] at e1 e2 e3 f4 f5 f6 m5 ff
  unfold F__law_far B__law_far
  simp [e1, e2, e3, m5, m30, hT, f4, f5, f6, a1, a2, tt, ff, q, is_tt, is_ff, c5]
end Lw
namespace Lw
open Pd
theorem law1 (sc x r g : P) (hb : Bads g) (a : Nat) : ∃ u : Unit, L_law_1 [some (.p sc), some (.p x), some (.p r), some (.r 0), some (.p g), none, none, none, none, none, none] [.lst [.int a]] = .next [some (.p sc), some (.p x), some (.p r), some (.r 0), some (.p g), none, none, none, none, none, none] [.lst [.int a]] := by
  obtain ⟨j, t, bs, e1, e2, h⟩ := hb
  unfold L_law_1
  refine Ex.to (for_spec (σ := Unit) (.p (.lst bs)) id bs (fun _ => ([some (.p sc), some (.p x), some (.p r), some (.r 0), some (.p g), none, none, none, none, none, none], [.lst [.int a]])) (fun _ _ => True) () ?_ rfl trivial (fun _ => rfl) ?_) fun x h => ⟨x, h.1⟩
  · simp [e1, e2]
  · rintro i b u hi _
    have e : F_is_instruction [.p b] [] = .ok (.p (.bl false)) [] := h b (List.mem_of_getElem? hi)
    refine ⟨(), ?_, trivial⟩
    simp [e, isNot_bb]
theorem law2 (sc x : P) (row : List Nat) (hr : row.length = 40) (a : Nat) : ∃ a' : Nat, L_law_2 [some (.p sc), some (.p x), some (.p (.lst (eN row))), some (.r 0), none, none, none, none, none, none, none] [.lst [.int a]] = .next [some (.p sc), some (.p x), some (.p (.lst (eN row))), some (.r 0), none, none, none, none, none, none, none] [.lst [.int a']] := by
  obtain ⟨q, a', e1, ok⟩ := good_ok row hr a
  have gs := goods_ok q ok
  generalize q.goods = l at *
  unfold L_law_2
  refine Ex.to (for_spec (σ := Unit) (st := [.lst [.int a']]) (.p (.lst l)) id l (fun _ => ([some (.p sc), some (.p x), some (.p (.lst (eN row))), some (.r 0), none, none, none, none, none, none, none], [.lst [.int a']])) (fun _ _ => True) () ?_ rfl trivial (fun _ => rfl) ?_) fun x h => ⟨a', h.1⟩
  · simp [e1]
  · rintro i b u hi _
    obtain ⟨h1, h2⟩ := gs b (List.mem_of_getElem? hi)
    have e : F_is_instruction [.p b] [] = .ok (.p (.bl true)) [] := h1
    obtain ⟨_, e2⟩ := law1 sc x (.lst (eN row)) b h2 a'
    refine ⟨(), ?_, trivial⟩
    simp [e, isNot_bb, e2]
theorem law3 (o0 o1 o2 o3 o4 o5 o6 o7 o8 o9 : Option D) (st : Sto) : C_law_1 [o0, o1, o2, o3, o4, o5, o6, o7, o8, o9, none] st = .ok (.r st.length) (st ++ [.lst [uL 0, uL 1, uL 2, uL 3, uL 4, uL 5]]) := by
  unfold C_law_1
  refine (comp_pure (.p .non) (fun k : Nat => P.int (0 + (k : Nat))) (List.range 6) (fun _ => true) (fun k => uL k) ?_ ?_ rfl ?_).trans ?_
  · simp
  · decide
  · intro y hy
    refine ⟨_, rfl, rfl, fun _ => ?_⟩
    simp
  · rfl
abbrev hL : List P := [uL 0, uL 1, uL 2, uL 3, uL 4, uL 5, .int 5, .tup [.str [99], .str [101, 110, 100], .tup []], .tup [.str [99], .str [115, 111, 109, 101], .tup [.tup [.str [117], .tup [.tup [.int 1], .int 2]]]]]
theorem law4 (sc x : P) (row : List Nat) (hr : row.length = 40) (a : Nat) : ∃ a' : Nat, L_law_3 [some (.p sc), some (.p x), some (.p (.lst (eN row))), some (.r 0), none, none, some (.p (.lst hL)), some (.p (.lst hL)), none, none, none] [.lst [.int a]] = .next [some (.p sc), some (.p x), some (.p (.lst (eN row))), some (.r 0), none, none, some (.p (.lst hL)), some (.p (.lst hL)), none, none, none] [.lst [.int a']] := by
  have n2 := oNe_same (x := .lst hL) (by decide)
  have hd : ∀ x ∈ hL, x.dep ≤ 6 := by decide
  have hlen : hL.length = 9 := rfl
  have ft := fl_tp hL hlen 6 hd 3
  have fl := fl_ok hL 100 3
  generalize hL = H at *
  unfold L_law_3
  refine Ex.to (for_range (σ := Nat) 3 (fun s => ([some (.p sc), some (.p x), some (.p (.lst (eN row))), some (.r 0), none, none, some (.p (.lst H)), some (.p (.lst H)), none, none, none], [.lst [.int s]])) (fun j s => True) a ?_ rfl trivial ?_) fun s h => ⟨s, h.1⟩
  · simp
  · intro j s hj _
    obtain ⟨t, a', e, ht⟩ := template_gen row hr 3 100 s (by decide)
    have e : F__law_template [.p (.lst (eN row)), .r 0, .p (.int 3)] [.lst [.int s]] = .ok (.p t) [.lst [.int a']] := e
    obtain ⟨t1, t2, t3⟩ := tp_ok 3 t ht
    have tt := template_ok' t t1 (by omega)
    rw [t2] at tt
    obtain ⟨y, h1, h2⟩ := ft t ht
    obtain ⟨f1, f2⟩ := fl t y h1 (by decide)
    have f1 : F_filled [.p t, .p (.lst H)] [] = .ok (.p y) [] := f1
    have f2 : F__law_filled [.p t, .p (.lst H)] [] = .ok (.p y) [] := f2
    have n1 := oNe_same (x := y) (by omega)
    refine ⟨a', ?_, trivial⟩
    simp [e, tt, isNot_bb, f1, f2, n1, n2]
theorem law5 (sc x r o4 h k : P) (st : Sto) (a : Nat) : L_law_4 [some (.p sc), some (.p x), some (.p r), some (.r 0), none, none, some (.p h), some (.p k), none, none, none] [.lst [.int a]] = .next [some (.p sc), some (.p x), some (.p r), some (.r 0), none, none, some (.p h), some (.p k), none, none, none] [.lst [.int a]] := by
  have b : ∀ x, smB x = true → x.dep < 100 → tmB x = false → F_is_template [.p x] [] = .ok (.p (.bl false)) [] := fun x h1 h2 h3 => by rw [template_ok' x h1 h2, h3]
  have b1 := b (.tup [.str [114], .int (-1)]) (by decide) (by decide) (by decide)
  have b2 := b (.tup [.str [114]]) (by decide) (by decide) (by decide)
  have b3 := b (.tup [.str [99], .str [120]]) (by decide) (by decide) (by decide)
  have b4 := b (.tup [.str [99], .str [57], .tup []]) (by decide) (by decide) (by decide)
  have b5 := b (.tup [.str [99], .str [120], .tup [.tup []]]) (by decide) (by decide) (by decide)
  have b6 := b (.tup [.str [100], .int 1]) (by decide) (by decide) (by decide)
  have b7 := b (.tup [.str [99], .str [120], .int 1]) (by decide) (by decide) (by decide)
  unfold L_law_4
  simp [ev_for, forL_cons, forL_nil, b1, b2, b3, b4, b5, b6, b7, isNot_bb]
theorem law_true (ns : List Int) (h : ns.length ≤ 63) : ∃ st, F_law [.p (.ro (ns.map .int))] [] = .ok (.p (.bl true)) st := by
  obtain ⟨m, em, hm⟩ : ∃ m : Nat, bMax2 [.int 1, .int (if (3 : Int) < ns.length then 3 else (ns.length : Int))] = some (.p (.int m)) ∧ m ≤ 3 := by
    have e : ∀ i j : Int, bMax2 [.int i, .int j] = some (.p (.int (if j > i then j else i))) := fun _ _ => rfl
    rw [e]
    by_cases h1 : (3 : Int) < ns.length
    · exact ⟨3, by simp [h1], by decide⟩
    · by_cases h2 : (1 : Int) < ns.length
      · exact ⟨ns.length, by simp [h1, h2], by omega⟩
      · exact ⟨1, by simp [h1, h2], by decide⟩
  have emin : bMin2 [.int (ns.length : Nat), .int 3] = some (.p (.int (if (3 : Int) < ns.length then 3 else (ns.length : Int)))) := rfl
  generalize (if (3 : Int) < ns.length then 3 else (ns.length : Int)) = mi at *
  have key : ∃ u : Unit, L_law_5 [some (.p (.ro (ns.map .int))), none, none, none, none, none, none, none, none, none, none] [] = .next [some (.p (.ro (ns.map .int))), none, none, none, none, none, none, none, none, none, none] [] := by
    unfold L_law_5
    refine Ex.to (for_range (σ := Unit) m (fun s => ([some (.p (.ro (ns.map .int))), none, none, none, none, none, none, none, none, none, none], [])) (fun j s => True) () ?_ rfl trivial ?_) fun s h => ⟨s, h.1⟩
    · have : m ≤ 1000000 := by omega
      simp [em, emin, this]
    · intro k s hk _
      obtain ⟨c, e1⟩ := cell_ok ns k
      obtain ⟨row, e2, hr, _⟩ := numbers_ok c k (by omega)
      obtain ⟨a1, e3⟩ := law2 (.ro (ns.map .int)) (.int k) row hr 0
      obtain ⟨a2, e4⟩ := law4 (.ro (ns.map .int)) (.int k) row hr a1
      have e5 := law5 (.ro (ns.map .int)) (.int k) (.lst (eN row)) .non (.lst hL) (.lst hL) [] a2
      obtain ⟨t, e6⟩ := far_ok row hr
      refine ⟨(), ?_, trivial⟩
      simp [hL, uL] at e3 e4 e5 e6
      simp [e1, e2, e3, e4, e5, e6, law3, uL, hL]
  obtain ⟨_, key⟩ := key
  refine ⟨[], ?_⟩
  unfold F_law B_law
  simp [key]
end Lw
end
set_option Elab.async false
set_option linter.all false
set_option maxRecDepth 100000
set_option maxHeartbeats 8000000
namespace Lw
open PySem PySem.Spec PyProof.Rows L2 Pd
/-! ### the defs in the text -/
def top (i : Nat) : Stmt := PySem.Challenge.pw_headrace_k40_instructions.main.body.getD i (.Pass ⟨0, 0, 0, 0⟩)
abbrev s_is_name : Stmt := top 6
abbrev s_is_index : Stmt := top 10
abbrev s_is_number : Stmt := top 11
abbrev s_is_word : Stmt := top 12
abbrev s_is_template : Stmt := top 13
abbrev s_is_key : Stmt := top 14
abbrev s_is_case : Stmt := top 15
abbrev s_fit_all : Stmt := top 17
abbrev s_fits : Stmt := top 16
abbrev s_is_instruction : Stmt := top 18
abbrev s_filled : Stmt := top 19
abbrev s__law_cell : Stmt := top 21
abbrev s__law_numbers : Stmt := top 22
abbrev s__law_pick : Stmt := top 23
abbrev s__law_template : Stmt := top 24
abbrev s__law_good : Stmt := top 25
abbrev s__law_bad : Stmt := top 26
abbrev s__law_filled : Stmt := top 27
abbrev s__law_far : Stmt := top 28
abbrev s_law : Stmt := top 29
abbrev N_is_name : List Str := ["text", "sign"]
abbrev N_is_index : List Str := ["value"]
abbrev N_is_number : List Str := ["value"]
abbrev N_is_word : List Str := ["value"]
abbrev N_is_template : List Str := ["value", "part"]
abbrev N_is_key : List Str := ["value"]
abbrev N_is_case : List Str := ["value"]
abbrev N_fit_all : List Str := ["kind", "values", "value"]
abbrev N_fits : List Str := ["kind", "value"]
abbrev N_is_instruction : List Str := ["value", "kinds", "kind", "part"]
abbrev N_filled : List Str := ["template", "registers", "part"]
abbrev N__law_cell : List Str := ["script", "k"]
abbrev N__law_numbers : List Str := ["cell", "k", "many", "numbers", "rest", "j", "mixed", "twice"]
abbrev N__law_pick : List Str := ["numbers", "at"]
abbrev N__law_template : List Str := ["numbers", "at", "depth", "pick", "parts", "k"]
abbrev N__law_good : List Str := ["numbers", "at", "k", "t", "word", "cases", "j"]
abbrev N__law_bad : List Str := ["one", "bad", "at", "wrong", "part"]
abbrev N__law_filled : List Str := ["template", "held", "part"]
abbrev N__law_far : List Str := ["numbers", "n", "deep", "open_one", "due", "k", "many", "good", "bad", "one"]
abbrev N_law : List Str := ["script", "k", "numbers", "at", "one", "bad", "held", "kept", "turn", "template", "j"]
structure Ad where
  f_is_name : Addr
  d_is_name : FuncData
  f_is_index : Addr
  d_is_index : FuncData
  f_is_number : Addr
  d_is_number : FuncData
  f_is_word : Addr
  d_is_word : FuncData
  f_is_template : Addr
  d_is_template : FuncData
  f_is_key : Addr
  d_is_key : FuncData
  f_is_case : Addr
  d_is_case : FuncData
  f_fit_all : Addr
  d_fit_all : FuncData
  f_fits : Addr
  d_fits : FuncData
  f_is_instruction : Addr
  d_is_instruction : FuncData
  f_filled : Addr
  d_filled : FuncData
  f__law_cell : Addr
  d__law_cell : FuncData
  f__law_numbers : Addr
  d__law_numbers : FuncData
  f__law_pick : Addr
  d__law_pick : FuncData
  f__law_template : Addr
  d__law_template : FuncData
  f__law_good : Addr
  d__law_good : FuncData
  f__law_bad : Addr
  d__law_bad : FuncData
  f__law_filled : Addr
  d__law_filled : FuncData
  f__law_far : Addr
  d__law_far : FuncData
  f_law : Addr
  d_law : FuncData
def mkT (a : Ad) (K : PySem.W.Frag) : Ct := ⟨K, fun n => [].getD n 0, fun _ => "line"⟩
structure Txt (a : Ad) (K : PySem.W.Frag) (P : Program) (mg : Str → Option Value) (w : World) : Prop where
  F_is_name : Fun K "is_name" "is_name" s_is_name a.f_is_name a.d_is_name
  g_is_name : mg "is_name" = some (.ref a.f_is_name)
  k_is_name : PySem.W.keepIn K (.ref a.f_is_name) = true
  b_is_name : Binds K a.d_is_name ["text"] []
  F_is_index : Fun K "is_index" "is_index" s_is_index a.f_is_index a.d_is_index
  g_is_index : mg "is_index" = some (.ref a.f_is_index)
  k_is_index : PySem.W.keepIn K (.ref a.f_is_index) = true
  b_is_index : Binds K a.d_is_index ["value"] []
  F_is_number : Fun K "is_number" "is_number" s_is_number a.f_is_number a.d_is_number
  g_is_number : mg "is_number" = some (.ref a.f_is_number)
  k_is_number : PySem.W.keepIn K (.ref a.f_is_number) = true
  b_is_number : Binds K a.d_is_number ["value"] []
  F_is_word : Fun K "is_word" "is_word" s_is_word a.f_is_word a.d_is_word
  g_is_word : mg "is_word" = some (.ref a.f_is_word)
  k_is_word : PySem.W.keepIn K (.ref a.f_is_word) = true
  b_is_word : Binds K a.d_is_word ["value"] []
  F_is_template : Fun K "is_template" "is_template" s_is_template a.f_is_template a.d_is_template
  g_is_template : mg "is_template" = some (.ref a.f_is_template)
  k_is_template : PySem.W.keepIn K (.ref a.f_is_template) = true
  b_is_template : Binds K a.d_is_template ["value"] []
  F_is_key : Fun K "is_key" "is_key" s_is_key a.f_is_key a.d_is_key
  g_is_key : mg "is_key" = some (.ref a.f_is_key)
  k_is_key : PySem.W.keepIn K (.ref a.f_is_key) = true
  b_is_key : Binds K a.d_is_key ["value"] []
  F_is_case : Fun K "is_case" "is_case" s_is_case a.f_is_case a.d_is_case
  g_is_case : mg "is_case" = some (.ref a.f_is_case)
  k_is_case : PySem.W.keepIn K (.ref a.f_is_case) = true
  b_is_case : Binds K a.d_is_case ["value"] []
  F_fit_all : Fun K "fit_all" "fit_all" s_fit_all a.f_fit_all a.d_fit_all
  g_fit_all : mg "fit_all" = some (.ref a.f_fit_all)
  k_fit_all : PySem.W.keepIn K (.ref a.f_fit_all) = true
  b_fit_all : Binds K a.d_fit_all ["kind", "values"] []
  F_fits : Fun K "fits" "fits" s_fits a.f_fits a.d_fits
  g_fits : mg "fits" = some (.ref a.f_fits)
  k_fits : PySem.W.keepIn K (.ref a.f_fits) = true
  b_fits : Binds K a.d_fits ["kind", "value"] []
  F_is_instruction : Fun K "is_instruction" "is_instruction" s_is_instruction a.f_is_instruction a.d_is_instruction
  g_is_instruction : mg "is_instruction" = some (.ref a.f_is_instruction)
  k_is_instruction : PySem.W.keepIn K (.ref a.f_is_instruction) = true
  b_is_instruction : Binds K a.d_is_instruction ["value"] []
  F_filled : Fun K "filled" "filled" s_filled a.f_filled a.d_filled
  g_filled : mg "filled" = some (.ref a.f_filled)
  k_filled : PySem.W.keepIn K (.ref a.f_filled) = true
  b_filled : Binds K a.d_filled ["template", "registers"] []
  F__law_cell : Fun K "_law_cell" "_law_cell" s__law_cell a.f__law_cell a.d__law_cell
  g__law_cell : mg "_law_cell" = some (.ref a.f__law_cell)
  k__law_cell : PySem.W.keepIn K (.ref a.f__law_cell) = true
  b__law_cell : Binds K a.d__law_cell ["script", "k"] []
  F__law_numbers : Fun K "_law_numbers" "_law_numbers" s__law_numbers a.f__law_numbers a.d__law_numbers
  g__law_numbers : mg "_law_numbers" = some (.ref a.f__law_numbers)
  k__law_numbers : PySem.W.keepIn K (.ref a.f__law_numbers) = true
  b__law_numbers : Binds K a.d__law_numbers ["cell", "k", "many"] []
  F__law_pick : Fun K "_law_pick" "_law_pick" s__law_pick a.f__law_pick a.d__law_pick
  g__law_pick : mg "_law_pick" = some (.ref a.f__law_pick)
  k__law_pick : PySem.W.keepIn K (.ref a.f__law_pick) = true
  b__law_pick : Binds K a.d__law_pick ["numbers", "at"] []
  F__law_template : Fun K "_law_template" "_law_template" s__law_template a.f__law_template a.d__law_template
  g__law_template : mg "_law_template" = some (.ref a.f__law_template)
  k__law_template : PySem.W.keepIn K (.ref a.f__law_template) = true
  b__law_template : Binds K a.d__law_template ["numbers", "at", "depth"] []
  F__law_good : Fun K "_law_good" "_law_good" s__law_good a.f__law_good a.d__law_good
  g__law_good : mg "_law_good" = some (.ref a.f__law_good)
  k__law_good : PySem.W.keepIn K (.ref a.f__law_good) = true
  b__law_good : Binds K a.d__law_good ["numbers", "at"] []
  F__law_bad : Fun K "_law_bad" "_law_bad" s__law_bad a.f__law_bad a.d__law_bad
  g__law_bad : mg "_law_bad" = some (.ref a.f__law_bad)
  k__law_bad : PySem.W.keepIn K (.ref a.f__law_bad) = true
  b__law_bad : Binds K a.d__law_bad ["one"] []
  F__law_filled : Fun K "_law_filled" "_law_filled" s__law_filled a.f__law_filled a.d__law_filled
  g__law_filled : mg "_law_filled" = some (.ref a.f__law_filled)
  k__law_filled : PySem.W.keepIn K (.ref a.f__law_filled) = true
  b__law_filled : Binds K a.d__law_filled ["template", "held"] []
  F__law_far : Fun K "_law_far" "_law_far" s__law_far a.f__law_far a.d__law_far
  g__law_far : mg "_law_far" = some (.ref a.f__law_far)
  k__law_far : PySem.W.keepIn K (.ref a.f__law_far) = true
  b__law_far : Binds K a.d__law_far ["numbers"] []
  F_law : Fun K "law" "law" s_law a.f_law a.d_law
  g_law : mg "law" = some (.ref a.f_law)
  k_law : PySem.W.keepIn K (.ref a.f_law) = true
  b_law : Binds K a.d_law ["script"] []
  z_abs : mg "abs" = none
  z_all : mg "all" = none
  z_int : mg "int" = none
  z_isinstance : mg "isinstance" = none
  z_len : mg "len" = none
  z_list : mg "list" = none
  z_max : mg "max" = none
  z_min : mg "min" = none
  z_range : mg "range" = none
  z_str : mg "str" = none
  z_tuple : mg "tuple" = none
  z_zip : mg "zip" = none
  c_LETTERS : ∃ tok, mg "LETTERS" = some (.str (sS [97, 98, 99, 100, 101, 102, 103, 104, 105, 106, 107, 108, 109, 110, 111, 112, 113, 114, 115, 116, 117, 118, 119, 120, 121, 122, 65, 66, 67, 68, 69, 70, 71, 72, 73, 74, 75, 76, 77, 78, 79, 80, 81, 82, 83, 84, 85, 86, 87, 88, 89, 90]) tok)
  c_MAX_NAME : ∃ tok, mg "MAX_NAME" = some (.int 12 tok)
  c_MAX_NUMBER : ∃ tok, mg "MAX_NUMBER" = some (.int 1000000000000 tok)
  c_RELATIONS : ∃ A, mg "RELATIONS" = some (.ref A) ∧ TopT K A [.str [108, 101, 115, 115], .str [109, 111, 115, 116], .str [115, 97, 109, 101]]
  c_SHAPES : ∃ A, mg "SHAPES" = some (.ref A) ∧ TopD K w A tb_SHAPES
  c_SIGNS : ∃ tok, mg "SIGNS" = some (.str (sS [97, 98, 99, 100, 101, 102, 103, 104, 105, 106, 107, 108, 109, 110, 111, 112, 113, 114, 115, 116, 117, 118, 119, 120, 121, 122, 65, 66, 67, 68, 69, 70, 71, 72, 73, 74, 75, 76, 77, 78, 79, 80, 81, 82, 83, 84, 85, 86, 87, 88, 89, 90, 48, 49, 50, 51, 52, 53, 54, 55, 56, 57]) tok)
  c_WORDS : ∃ A, mg "WORDS" = some (.ref A) ∧ TopT K A [.str [100, 101, 102], .str [119, 97, 105, 116], .str [105, 102], .str [101, 108, 115, 101], .str [97, 115, 107]]
section
variable {P : Program} {w : World} {K : PySem.W.Frag} {mg : Str → Option Value} {base : Heap} {a : Ad}
theorem S_is_name : FnScope N_is_name ["text"] (defScope s_is_name) := ⟨rfl, rfl, rfl, by decide +kernel, rfl, by decide +kernel, by decide +kernel⟩
theorem ok_is_name (t : Txt a K P mg w) : FnOk P w K mg base (L2.CX P w) 2 a.f_is_name a.d_is_name ["text"] (spF (mkT a K) 1 F_is_name) := by
  refine def_ok (T := mkT a K) (N := N_is_name) (ps := ["text"]) (k := 1) (n := 2) (np := 1) (g := B_is_name) t.F_is_name S_is_name (fun cdv A outer s H E m X eX hr tk0 lv0 po => ?_) rfl rfl
  have hu := hu_room hr
  subst eX
  exact sss_cons (ss_if (PW.pt (sw_or (st_cmp (so_lt) (se_bi (sb_len rfl) t.z_len boo_len (sa_cons (se_var 0) (sa_nil))) (se_int)) (sw_or (st_cmp (so_gt) (se_bi (sb_len rfl) t.z_len boo_len (sa_cons (se_var 0) (sa_nil))) (t.c_MAX_NAME.elim fun tok h => se_glob (v := .int 12) (.int 12) h ⟨tok, rfl⟩ (fun _ _ => .int _))) (sw_or1 (st_cmp (so_in rfl hu.1) (se_var 0) (t.c_WORDS.elim fun A h => se_globT h.2 h.1)))))) (sss_one (ss_ret (se_bl))) (sss_nil))
    (sss_one (ss_ret (se_and (se_cmp (so_in rfl hu.1) (se_ix (so_idx rfl) (se_var 0) (se_int)) (t.c_LETTERS.elim fun tok h => se_glob (v := .str (sS [97, 98, 99, 100, 101, 102, 103, 104, 105, 106, 107, 108, 109, 110, 111, 112, 113, 114, 115, 116, 117, 118, 119, 120, 121, 122, 65, 66, 67, 68, 69, 70, 71, 72, 73, 74, 75, 76, 77, 78, 79, 80, 81, 82, 83, 84, 85, 86, 87, 88, 89, 90])) (.str [97, 98, 99, 100, 101, 102, 103, 104, 105, 106, 107, 108, 109, 110, 111, 112, 113, 114, 115, 116, 117, 118, 119, 120, 121, 122, 65, 66, 67, 68, 69, 70, 71, 72, 73, 74, 75, 76, 77, 78, 79, 80, 81, 82, 83, 84, 85, 86, 87, 88, 89, 90]) h ⟨tok, rfl⟩ (fun _ _ => .str (by decide +kernel)))) (se_one (se_bi (sb_all rfl) t.z_all boo_all (sa_cons (se_comp (own := [("sign", 1)]) lv0 tk0 rfl S_is_name.nd (sp_seq rfl (se_var 0)) (by exact (show BlkOk N_is_name (defScope s_is_name) _ [("sign", 1)] from ⟨rfl, by decide +kernel, by decide +kernel, by decide +kernel, by decide +kernel⟩)) (by decide) (fun _ _ _ _ _ _ => sg_one S_is_name.nd) (fun _ _ _ _ _ _ W1 tk1 => sts_nil) (fun _ _ _ _ _ _ W1 tk1 => se_cmp (so_in rfl hu.1) (se_var 1) (t.c_SIGNS.elim fun tok h => se_glob (v := .str (sS [97, 98, 99, 100, 101, 102, 103, 104, 105, 106, 107, 108, 109, 110, 111, 112, 113, 114, 115, 116, 117, 118, 119, 120, 121, 122, 65, 66, 67, 68, 69, 70, 71, 72, 73, 74, 75, 76, 77, 78, 79, 80, 81, 82, 83, 84, 85, 86, 87, 88, 89, 90, 48, 49, 50, 51, 52, 53, 54, 55, 56, 57])) (.str [97, 98, 99, 100, 101, 102, 103, 104, 105, 106, 107, 108, 109, 110, 111, 112, 113, 114, 115, 116, 117, 118, 119, 120, 121, 122, 65, 66, 67, 68, 69, 70, 71, 72, 73, 74, 75, 76, 77, 78, 79, 80, 81, 82, 83, 84, 85, 86, 87, 88, 89, 90, 48, 49, 50, 51, 52, 53, 54, 55, 56, 57]) h ⟨tok, rfl⟩ (fun _ _ => .str (by decide +kernel))))) (sa_nil)))))))
theorem S_is_index : FnScope N_is_index ["value"] (defScope s_is_index) := ⟨rfl, rfl, rfl, by decide +kernel, rfl, by decide +kernel, by decide +kernel⟩
theorem ok_is_index (t : Txt a K P mg w) : FnOk P w K mg base (L2.CX P w) 2 a.f_is_index a.d_is_index ["value"] (spF (mkT a K) 1 F_is_index) := by
  refine def_ok (T := mkT a K) (N := N_is_index) (ps := ["value"]) (k := 1) (n := 1) (np := 1) (g := B_is_index) t.F_is_index S_is_index (fun cdv A outer s H E m X eX hr tk0 lv0 po => ?_) rfl rfl
  have hu := hu_room hr
  subst eX
  exact sss_one (ss_ret (se_and (se_isT .int rfl t.z_isinstance t.z_int boo_int (se_var 0)) (se_one (se_cmp (so_ge) (se_var 0) (se_int)))))
theorem S_is_number : FnScope N_is_number ["value"] (defScope s_is_number) := ⟨rfl, rfl, rfl, by decide +kernel, rfl, by decide +kernel, by decide +kernel⟩
theorem ok_is_number (t : Txt a K P mg w) : FnOk P w K mg base (L2.CX P w) 2 a.f_is_number a.d_is_number ["value"] (spF (mkT a K) 1 F_is_number) := by
  refine def_ok (T := mkT a K) (N := N_is_number) (ps := ["value"]) (k := 1) (n := 1) (np := 1) (g := B_is_number) t.F_is_number S_is_number (fun cdv A outer s H E m X eX hr tk0 lv0 po => ?_) rfl rfl
  have hu := hu_room hr
  subst eX
  exact sss_one (ss_ret (se_and (se_isT .int rfl t.z_isinstance t.z_int boo_int (se_var 0)) (se_one (se_cmp (so_le) (se_bi (sb_abs) t.z_abs boo_abs (sa_cons (se_var 0) (sa_nil))) (t.c_MAX_NUMBER.elim fun tok h => se_glob (v := .int 1000000000000) (.int 1000000000000) h ⟨tok, rfl⟩ (fun _ _ => .int _))))))
theorem S_is_word : FnScope N_is_word ["value"] (defScope s_is_word) := ⟨rfl, rfl, rfl, by decide +kernel, rfl, by decide +kernel, by decide +kernel⟩
theorem ok_is_word (t : Txt a K P mg w) : FnOk P w K mg base (L2.CX P w) 3 a.f_is_word a.d_is_word ["value"] (spF (mkT a K) 1 F_is_word) := by
  refine def_ok (T := mkT a K) (N := N_is_word) (ps := ["value"]) (k := 2) (n := 1) (np := 1) (g := B_is_word) t.F_is_word S_is_word (fun cdv A outer s H E m X eX hr tk0 lv0 po => ?_) rfl rfl
  have hu := hu_room hr
  subst eX
  exact sss_one (ss_ret (se_and (se_isT .str rfl t.z_isinstance t.z_str boo_str (se_var 0)) (se_one (se_call (ok_is_name t) (hr.mono (by decide)) t.g_is_name t.k_is_name t.b_is_name tk0 (sa_cons (se_var 0) (sa_nil))))))
theorem S_is_template : FnScope N_is_template ["value"] (defScope s_is_template) := ⟨rfl, rfl, rfl, by decide +kernel, rfl, by decide +kernel, by decide +kernel⟩
theorem all_is_template (t : Txt a K P mg w) : ∀ k : Nat, FnOk P w K mg base (L2.CX P w) (3 + k) a.f_is_template a.d_is_template ["value"] (spF (mkT a K) 1 (R_is_template k 0))
  | 0 => fn_bad (T := mkT a K) rfl
  | k + 1 => by
    have ih_is_template := all_is_template t k
    · refine def_ok (T := mkT a K) (N := N_is_template) (ps := ["value"]) (k := 3 + k) (n := 2) (np := 1) (g := B_is_template (R_is_template k)) t.F_is_template S_is_template (fun cdv A outer s H E m X eX hr tk0 lv0 po => ?_) rfl rfl
      have hu := hu_room hr
      subst eX
      exact sss_cons (ss_if (st_not (st_val (se_isT .tuple rfl t.z_isinstance t.z_tuple boo_tuple (se_var 0)))) (sss_one (ss_ret (se_isT .int rfl t.z_isinstance t.z_int boo_int (se_var 0)))) (sss_nil))
        (sss_cons (ss_if (PW.pt (sw_and (st_cmp (so_eq rfl hu.2) (se_bi (sb_len rfl) t.z_len boo_len (sa_cons (se_var 0) (sa_nil))) (se_int)) (sw_and1 (st_cmp (so_eq rfl hu.2) (se_ix (so_idx rfl) (se_var 0) (se_int)) (se_str [114]))))) (sss_one (ss_ret (se_call (ok_is_index t) (hr.mono (by omega)) t.g_is_index t.k_is_index t.b_is_index tk0 (sa_cons (se_ix (so_idx rfl) (se_var 0) (se_int)) (sa_nil))))) (sss_nil))
        (sss_cons (ss_if (PW.pt (sw_or (st_cmp (so_ne rfl hu.2) (se_bi (sb_len rfl) t.z_len boo_len (sa_cons (se_var 0) (sa_nil))) (se_int)) (sw_or (st_cmp (so_ne rfl hu.2) (se_ix (so_idx rfl) (se_var 0) (se_int)) (se_str [99])) (sw_or (st_not (st_val (se_call (ok_is_word t) (hr.mono (by omega)) t.g_is_word t.k_is_word t.b_is_word tk0 (sa_cons (se_ix (so_idx rfl) (se_var 0) (se_int)) (sa_nil))))) (sw_or1 (st_not (st_val (se_isT .tuple rfl t.z_isinstance t.z_tuple boo_tuple (se_ix (so_idx rfl) (se_var 0) (se_int)))))))))) (sss_one (ss_ret (se_bl))) (sss_nil))
        (sss_one (ss_ret (se_bi (sb_all rfl) t.z_all boo_all (sa_cons (se_comp (own := [("part", 1)]) lv0 tk0 rfl S_is_template.nd (sp_seq rfl (se_ix (so_idx rfl) (se_var 0) (se_int))) (by exact (show BlkOk N_is_template (defScope s_is_template) _ [("part", 1)] from ⟨rfl, by decide +kernel, by decide +kernel, by decide +kernel, by decide +kernel⟩)) (by decide) (fun _ _ _ _ _ _ => sg_one S_is_template.nd) (fun _ _ _ _ _ _ W1 tk1 => sts_nil) (fun _ _ _ _ _ _ W1 tk1 => se_call ih_is_template hr t.g_is_template t.k_is_template t.b_is_template tk1 (sa_cons (se_var 1) (sa_nil)))) (sa_nil)))))))
theorem ok_is_template (t : Txt a K P mg w) : FnOk P w K mg base (L2.CX P w) 103 a.f_is_template a.d_is_template ["value"] (spF (mkT a K) 1 F_is_template) := (all_is_template t 100)
theorem S_is_key : FnScope N_is_key ["value"] (defScope s_is_key) := ⟨rfl, rfl, rfl, by decide +kernel, rfl, by decide +kernel, by decide +kernel⟩
theorem ok_is_key (t : Txt a K P mg w) : FnOk P w K mg base (L2.CX P w) 4 a.f_is_key a.d_is_key ["value"] (spF (mkT a K) 1 F_is_key) := by
  refine def_ok (T := mkT a K) (N := N_is_key) (ps := ["value"]) (k := 3) (n := 1) (np := 1) (g := B_is_key) t.F_is_key S_is_key (fun cdv A outer s H E m X eX hr tk0 lv0 po => ?_) rfl rfl
  have hu := hu_room hr
  subst eX
  exact sss_cons (ss_if (st_val (se_isT .tuple rfl t.z_isinstance t.z_tuple boo_tuple (se_var 0))) (sss_one (ss_ret (se_and (se_cmp (so_eq rfl hu.2) (se_bi (sb_len rfl) t.z_len boo_len (sa_cons (se_var 0) (sa_nil))) (se_int)) (se_and (se_call (ok_is_word t) (hr.mono (by decide)) t.g_is_word t.k_is_word t.b_is_word tk0 (sa_cons (se_ix (so_idx rfl) (se_var 0) (se_int)) (sa_nil))) (se_one (se_call (ok_is_index t) (hr.mono (by decide)) t.g_is_index t.k_is_index t.b_is_index tk0 (sa_cons (se_ix (so_idx rfl) (se_var 0) (se_int)) (sa_nil)))))))) (sss_nil))
    (sss_one (ss_ret (se_isT .int rfl t.z_isinstance t.z_int boo_int (se_var 0))))
theorem S_is_case : FnScope N_is_case ["value"] (defScope s_is_case) := ⟨rfl, rfl, rfl, by decide +kernel, rfl, by decide +kernel, by decide +kernel⟩
theorem ok_is_case (t : Txt a K P mg w) : FnOk P w K mg base (L2.CX P w) 5 a.f_is_case a.d_is_case ["value"] (spF (mkT a K) 1 F_is_case) := by
  refine def_ok (T := mkT a K) (N := N_is_case) (ps := ["value"]) (k := 4) (n := 1) (np := 1) (g := B_is_case) t.F_is_case S_is_case (fun cdv A outer s H E m X eX hr tk0 lv0 po => ?_) rfl rfl
  have hu := hu_room hr
  subst eX
  exact sss_one (ss_ret (se_and (se_isT .tuple rfl t.z_isinstance t.z_tuple boo_tuple (se_var 0)) (se_and (se_cmp (so_eq rfl hu.2) (se_bi (sb_len rfl) t.z_len boo_len (sa_cons (se_var 0) (sa_nil))) (se_int)) (se_and (se_call (ok_is_key t) (hr.mono (by decide)) t.g_is_key t.k_is_key t.b_is_key tk0 (sa_cons (se_ix (so_idx rfl) (se_var 0) (se_int)) (sa_nil))) (se_one (se_call (ok_is_index t) (hr.mono (by decide)) t.g_is_index t.k_is_index t.b_is_index tk0 (sa_cons (se_ix (so_idx rfl) (se_var 0) (se_int)) (sa_nil))))))))
theorem S_fit_all : FnScope N_fit_all ["kind", "values"] (defScope s_fit_all) := ⟨rfl, rfl, rfl, by decide +kernel, rfl, by decide +kernel, by decide +kernel⟩
theorem ok_fit_all (t : Txt a K P mg w) : FnOk P w K mg base (L2.CX P w) 104 a.f_fit_all a.d_fit_all ["kind", "values"] (spF (mkT a K) 2 F_fit_all) := by
  refine def_ok (T := mkT a K) (N := N_fit_all) (ps := ["kind", "values"]) (k := 103) (n := 3) (np := 2) (g := B_fit_all) t.F_fit_all S_fit_all (fun cdv A outer s H E m X eX hr tk0 lv0 po => ?_) rfl rfl
  have hu := hu_room hr
  subst eX
  exact sss_cons (ss_if (st_cmp (so_eq rfl hu.2) (se_var 0) (se_str [115])) (sss_one (ss_ret (se_bi (sb_all rfl) t.z_all boo_all (sa_cons (se_comp (own := [("value", 2)]) lv0 tk0 rfl S_fit_all.nd (sp_seq rfl (se_var 1)) (by exact (show BlkOk N_fit_all (defScope s_fit_all) _ [("value", 2)] from ⟨rfl, by decide +kernel, by decide +kernel, by decide +kernel, by decide +kernel⟩)) (by decide) (fun _ _ _ _ _ _ => sg_one S_fit_all.nd) (fun _ _ _ _ _ _ W1 tk1 => sts_nil) (fun _ _ _ _ _ _ W1 tk1 => se_call (ok_is_template t) (hr.mono (by decide)) t.g_is_template t.k_is_template t.b_is_template tk1 (sa_cons (se_var 2) (sa_nil)))) (sa_nil))))) (sss_nil))
    (sss_cons (ss_if (st_cmp (so_eq rfl hu.2) (se_var 0) (se_str [108])) (sss_one (ss_ret (se_bi (sb_all rfl) t.z_all boo_all (sa_cons (se_comp (own := [("value", 2)]) lv0 tk0 rfl S_fit_all.nd (sp_seq rfl (se_var 1)) (by exact (show BlkOk N_fit_all (defScope s_fit_all) _ [("value", 2)] from ⟨rfl, by decide +kernel, by decide +kernel, by decide +kernel, by decide +kernel⟩)) (by decide) (fun _ _ _ _ _ _ => sg_one S_fit_all.nd) (fun _ _ _ _ _ _ W1 tk1 => sts_nil) (fun _ _ _ _ _ _ W1 tk1 => se_call (ok_is_index t) (hr.mono (by decide)) t.g_is_index t.k_is_index t.b_is_index tk1 (sa_cons (se_var 2) (sa_nil)))) (sa_nil))))) (sss_nil))
    (sss_one (ss_ret (se_bi (sb_all rfl) t.z_all boo_all (sa_cons (se_comp (own := [("value", 2)]) lv0 tk0 rfl S_fit_all.nd (sp_seq rfl (se_var 1)) (by exact (show BlkOk N_fit_all (defScope s_fit_all) _ [("value", 2)] from ⟨rfl, by decide +kernel, by decide +kernel, by decide +kernel, by decide +kernel⟩)) (by decide) (fun _ _ _ _ _ _ => sg_one S_fit_all.nd) (fun _ _ _ _ _ _ W1 tk1 => sts_nil) (fun _ _ _ _ _ _ W1 tk1 => se_call (ok_is_case t) (hr.mono (by decide)) t.g_is_case t.k_is_case t.b_is_case tk1 (sa_cons (se_var 2) (sa_nil)))) (sa_nil))))))
theorem S_fits : FnScope N_fits ["kind", "value"] (defScope s_fits) := ⟨rfl, rfl, rfl, by decide +kernel, rfl, by decide +kernel, by decide +kernel⟩
theorem ok_fits (t : Txt a K P mg w) : FnOk P w K mg base (L2.CX P w) 105 a.f_fits a.d_fits ["kind", "value"] (spF (mkT a K) 2 F_fits) := by
  refine def_ok (T := mkT a K) (N := N_fits) (ps := ["kind", "value"]) (k := 104) (n := 2) (np := 2) (g := B_fits) t.F_fits S_fits (fun cdv A outer s H E m X eX hr tk0 lv0 po => ?_) rfl rfl
  have hu := hu_room hr
  subst eX
  exact sss_cons (ss_if (st_cmp (so_eq rfl hu.2) (se_var 0) (se_str [105])) (sss_one (ss_ret (se_call (ok_is_index t) (hr.mono (by decide)) t.g_is_index t.k_is_index t.b_is_index tk0 (sa_cons (se_var 1) (sa_nil))))) (sss_nil))
    (sss_cons (ss_if (st_cmp (so_eq rfl hu.2) (se_var 0) (se_str [98])) (sss_one (ss_ret (se_and (se_call (ok_is_index t) (hr.mono (by decide)) t.g_is_index t.k_is_index t.b_is_index tk0 (sa_cons (se_var 1) (sa_nil))) (se_one (se_cmp (so_le) (se_var 1) (se_int)))))) (sss_nil))
    (sss_cons (ss_if (st_cmp (so_eq rfl hu.2) (se_var 0) (se_str [109])) (sss_one (ss_ret (se_and (se_call (ok_is_index t) (hr.mono (by decide)) t.g_is_index t.k_is_index t.b_is_index tk0 (sa_cons (se_var 1) (sa_nil))) (se_one (se_cmp (so_ge) (se_var 1) (se_int)))))) (sss_nil))
    (sss_cons (ss_if (st_cmp (so_eq rfl hu.2) (se_var 0) (se_str [110])) (sss_one (ss_ret (se_call (ok_is_number t) (hr.mono (by decide)) t.g_is_number t.k_is_number t.b_is_number tk0 (sa_cons (se_var 1) (sa_nil))))) (sss_nil))
    (sss_cons (ss_if (st_cmp (so_eq rfl hu.2) (se_var 0) (se_str [119])) (sss_one (ss_ret (se_cmp (so_in rfl hu.1) (se_var 1) (t.c_RELATIONS.elim fun A h => se_globT h.2 h.1)))) (sss_nil))
    (sss_cons (ss_if (st_cmp (so_eq rfl hu.2) (se_var 0) (se_str [99])) (sss_one (ss_ret (se_call (ok_is_word t) (hr.mono (by decide)) t.g_is_word t.k_is_word t.b_is_word tk0 (sa_cons (se_var 1) (sa_nil))))) (sss_nil))
    (sss_cons (ss_if (st_cmp (so_eq rfl hu.2) (se_var 0) (se_str [116])) (sss_one (ss_ret (se_call (ok_is_template t) (hr.mono (by decide)) t.g_is_template t.k_is_template t.b_is_template tk0 (sa_cons (se_var 1) (sa_nil))))) (sss_nil))
    (sss_cons (ss_if (st_cmp (so_eq rfl hu.2) (se_var 0) (se_str [106])) (sss_one (ss_ret (se_or (se_call (ok_is_index t) (hr.mono (by decide)) t.g_is_index t.k_is_index t.b_is_index tk0 (sa_cons (se_var 1) (sa_nil))) (se_one (se_cmp (so_eq rfl hu.2) (se_var 1) (se_un so_neg (se_int))))))) (sss_nil))
    (sss_one (ss_ret (se_and (se_isT .tuple rfl t.z_isinstance t.z_tuple boo_tuple (se_var 1)) (se_one (se_call (ok_fit_all t) (hr.mono (by decide)) t.g_fit_all t.k_fit_all t.b_fit_all tk0 (sa_cons (se_var 0) (sa_cons (se_var 1) (sa_nil)))))))))))))))
theorem S_is_instruction : FnScope N_is_instruction ["value"] (defScope s_is_instruction) := ⟨rfl, rfl, rfl, by decide +kernel, rfl, by decide +kernel, by decide +kernel⟩
theorem ok_is_instruction (t : Txt a K P mg w) : FnOk P w K mg base (L2.CX P w) 106 a.f_is_instruction a.d_is_instruction ["value"] (spF (mkT a K) 1 F_is_instruction) := by
  refine def_ok (T := mkT a K) (N := N_is_instruction) (ps := ["value"]) (k := 105) (n := 4) (np := 1) (g := B_is_instruction) t.F_is_instruction S_is_instruction (fun cdv A outer s H E m X eX hr tk0 lv0 po => ?_) rfl rfl
  have hu := hu_room hr
  subst eX
  exact sss_cons (ss_if (t.c_SHAPES.elim fun A h => st_notInK h.2 h.1 (se_ix (so_idx rfl) (se_var 0) (se_int))) (sss_one (ss_ret (se_bl))) (sss_nil))
    (sss_cons (ss_set (i := 1) S_is_instruction.nd (t.c_SHAPES.elim fun A h => se_getK h.2 h.1 (se_ix (so_idx rfl) (se_var 0) (se_int))))
    (sss_cons (ss_if (st_cmp (so_ne rfl hu.2) (se_bi (sb_len rfl) t.z_len boo_len (sa_cons (se_var 0) (sa_nil))) (se_bin (so_add rfl) (se_bi (sb_len rfl) t.z_len boo_len (sa_cons (se_var 1) (sa_nil))) (se_int))) (sss_one (ss_ret (se_bl))) (sss_nil))
    (sss_one (ss_ret (se_bi (sb_all rfl) t.z_all boo_all (sa_cons (se_comp (own := [("kind", 2), ("part", 3)]) lv0 tk0 rfl S_is_instruction.nd (sp_zipS rfl t.z_zip (sa_cons (se_var 1) (sa_cons (se_sl rfl (se_var 0) (po_so (se_int)) po_no) (sa_nil)))) (by exact (show BlkOk N_is_instruction (defScope s_is_instruction) _ [("kind", 2), ("part", 3)] from ⟨rfl, by decide +kernel, by decide +kernel, by decide +kernel, by decide +kernel⟩)) (by decide) (fun _ _ _ _ _ _ => sg_tup rfl rfl (sgs_cons S_is_instruction.nd (by decide) (sgs_cons S_is_instruction.nd (by decide) (sgs_nil)))) (fun _ _ _ _ _ _ W1 tk1 => sts_nil) (fun _ _ _ _ _ _ W1 tk1 => se_call (ok_fits t) (hr.mono (by decide)) t.g_fits t.k_fits t.b_fits tk1 (sa_cons (se_var 2) (sa_cons (se_var 3) (sa_nil))))) (sa_nil)))))))
theorem S_filled : FnScope N_filled ["template", "registers"] (defScope s_filled) := ⟨rfl, rfl, rfl, by decide +kernel, rfl, by decide +kernel, by decide +kernel⟩
theorem all_filled (t : Txt a K P mg w) : ∀ k : Nat, FnOk P w K mg base (L2.CX P w) (1 + k) a.f_filled a.d_filled ["template", "registers"] (spF (mkT a K) 2 (R_filled k 0))
  | 0 => fn_bad (T := mkT a K) rfl
  | k + 1 => by
    have ih_filled := all_filled t k
    · refine def_ok (T := mkT a K) (N := N_filled) (ps := ["template", "registers"]) (k := 1 + k) (n := 3) (np := 2) (g := B_filled (R_filled k)) t.F_filled S_filled (fun cdv A outer s H E m X eX hr tk0 lv0 po => ?_) rfl rfl
      have hu := hu_room hr
      subst eX
      exact sss_cons (ss_if (st_not (st_val (se_isT .tuple rfl t.z_isinstance t.z_tuple boo_tuple (se_var 0)))) (sss_one (ss_ret (se_var 0))) (sss_nil))
        (sss_cons (ss_if (st_cmp (so_eq rfl hu.2) (se_ix (so_idx rfl) (se_var 0) (se_int)) (se_str [114])) (sss_one (ss_ret (se_ix (so_idx rfl) (se_var 1) (se_ix (so_idx rfl) (se_var 0) (se_int))))) (sss_nil))
        (sss_one (ss_ret (se_tup (si_cons (se_str [99]) (si_cons (se_ix (so_idx rfl) (se_var 0) (se_int)) (si_cons (se_ty (sb_tuple rfl) t.z_tuple boo_tuple (sa_cons (se_comp (own := [("part", 2)]) lv0 tk0 rfl S_filled.nd (sp_seq rfl (se_ix (so_idx rfl) (se_var 0) (se_int))) (by exact (show BlkOk N_filled (defScope s_filled) _ [("part", 2)] from ⟨rfl, by decide +kernel, by decide +kernel, by decide +kernel, by decide +kernel⟩)) (by decide) (fun _ _ _ _ _ _ => sg_one S_filled.nd) (fun _ _ _ _ _ _ W1 tk1 => sts_nil) (fun _ _ _ _ _ _ W1 tk1 => se_call ih_filled hr t.g_filled t.k_filled t.b_filled tk1 (sa_cons (se_var 2) (sa_cons (se_var 1) (sa_nil))))) (sa_nil))) (si_nil))))))))
theorem ok_filled (t : Txt a K P mg w) : FnOk P w K mg base (L2.CX P w) 101 a.f_filled a.d_filled ["template", "registers"] (spF (mkT a K) 2 F_filled) := (all_filled t 100)
theorem S__law_cell : FnScope N__law_cell ["script", "k"] (defScope s__law_cell) := ⟨rfl, rfl, rfl, by decide +kernel, rfl, by decide +kernel, by decide +kernel⟩
theorem ok__law_cell (t : Txt a K P mg w) : FnOk P w K mg base (L2.CX P w) 2 a.f__law_cell a.d__law_cell ["script", "k"] (spF (mkT a K) 2 F__law_cell) := by
  refine def_ok (T := mkT a K) (N := N__law_cell) (ps := ["script", "k"]) (k := 1) (n := 2) (np := 2) (g := B__law_cell) t.F__law_cell S__law_cell (fun cdv A outer s H E m X eX hr tk0 lv0 po => ?_) rfl rfl
  have hu := hu_room hr
  subst eX
  exact sss_cons (ss_if (st_cmp (so_lt) (se_var 1) (se_bi (sb_len rfl) t.z_len boo_len (sa_cons (se_var 0) (sa_nil)))) (sss_one (ss_ret (se_ix (so_idx rfl) (se_var 0) (se_var 1)))) (sss_nil))
    (sss_one (ss_ret (se_int)))
theorem S__law_numbers : FnScope N__law_numbers ["cell", "k", "many"] (defScope s__law_numbers) := ⟨rfl, rfl, rfl, by decide +kernel, rfl, by decide +kernel, by decide +kernel⟩
theorem ok__law_numbers (t : Txt a K P mg w) : FnOk P w K mg base (L2.CX P w) 2 a.f__law_numbers a.d__law_numbers ["cell", "k", "many"] (spF (mkT a K) 3 F__law_numbers) := by
  refine def_ok (T := mkT a K) (N := N__law_numbers) (ps := ["cell", "k", "many"]) (k := 1) (n := 8) (np := 3) (g := B__law_numbers) t.F__law_numbers S__law_numbers (fun cdv A outer s H E m X eX hr tk0 lv0 po => ?_) rfl rfl
  have hu := hu_room hr
  subst eX
  exact sss_cons (ss_set (i := 3) S__law_numbers.nd (se_lst (si_nil)))
    (sss_cons (ss_if (st_cmp (so_ge) (se_var 0) (se_bin (so_pow) (se_int) (se_int))) (sss_cons (ss_set (i := 4) S__law_numbers.nd (se_var 0))
      (sss_cons (ss_for po rfl (sp_range1 t.z_range (sa_cons (se_var 2) (sa_nil))) (sg_one S__law_numbers.nd) (fun m => sss_cons (ss_expr (se_app PySem.F.slot_list_append PySem.F.type_list_append sl_append (se_var 3) (si_cons (se_bin (so_mod) (se_ty (sb_int) t.z_int boo_int (sa_cons (se_var 4) (sa_nil))) (se_int)) si_nil)))
        (sss_one (ss_set (i := 4) S__law_numbers.nd (se_bin (so_div) (se_var 4) (se_int))))))
      (sss_one (ss_ret (se_var 3))))) (sss_nil))
    (sss_cons (ss_set (i := 6) S__law_numbers.nd (se_bin (so_mod) (se_ty (sb_int) t.z_int boo_int (sa_cons (se_bin (so_add rfl) (se_bin (so_add rfl) (se_bin (so_mul) (se_var 0) (se_int)) (se_bin (so_mul) (se_var 1) (se_int))) (se_int)) (sa_nil))) (se_int)))
    (sss_cons (ss_for po rfl (sp_range1 t.z_range (sa_cons (se_var 2) (sa_nil))) (sg_one S__law_numbers.nd) (fun m => sss_cons (ss_set (i := 6) S__law_numbers.nd (se_bin (so_mod) (se_ty (sb_int) t.z_int boo_int (sa_cons (se_bin (so_add rfl) (se_bin (so_add rfl) (se_bin (so_mul) (se_var 6) (se_int)) (se_bin (so_mul) (se_var 5) (se_int))) (se_int)) (sa_nil))) (se_int)))
      (sss_cons (ss_set (i := 7) S__law_numbers.nd (se_bin (so_mod) (se_ty (sb_int) t.z_int boo_int (sa_cons (se_bin (so_add rfl) (se_bin (so_add rfl) (se_bin (so_mul) (se_var 6) (se_var 6)) (se_bin (so_mul) (se_var 1) (se_int))) (se_var 5)) (sa_nil))) (se_int)))
      (sss_one (ss_expr (se_app PySem.F.slot_list_append PySem.F.type_list_append sl_append (se_var 3) (si_cons (se_bin (so_mod) (se_ty (sb_int) t.z_int boo_int (sa_cons (se_bin (so_div) (se_var 7) (se_int)) (sa_nil))) (se_int)) si_nil)))))))
    (sss_one (ss_ret (se_var 3))))))
theorem S__law_pick : FnScope N__law_pick ["numbers", "at"] (defScope s__law_pick) := ⟨rfl, rfl, rfl, by decide +kernel, rfl, by decide +kernel, by decide +kernel⟩
theorem ok__law_pick (t : Txt a K P mg w) : FnOk P w K mg base (L2.CX P w) 2 a.f__law_pick a.d__law_pick ["numbers", "at"] (spF (mkT a K) 2 F__law_pick) := by
  refine def_ok (T := mkT a K) (N := N__law_pick) (ps := ["numbers", "at"]) (k := 1) (n := 2) (np := 2) (g := B__law_pick) t.F__law_pick S__law_pick (fun cdv A outer s H E m X eX hr tk0 lv0 po => ?_) rfl rfl
  have hu := hu_room hr
  subst eX
  exact sss_cons (ss_setI (se_bin (so_add rfl) (se_ix (so_idx rfl) (se_var 1) (se_int)) (se_int)) (se_var 1) (se_int))
    (sss_one (ss_ret (se_bin (so_add rfl) (se_ty (sb_int) t.z_int boo_int (sa_cons (se_ix (so_idx rfl) (se_var 0) (se_bin (so_mod) (se_ty (sb_int) t.z_int boo_int (sa_cons (se_ix (so_idx rfl) (se_var 1) (se_int)) (sa_nil))) (se_bi (sb_len rfl) t.z_len boo_len (sa_cons (se_var 0) (sa_nil))))) (sa_nil))) (se_bin (so_mul) (se_bin (so_div) (se_ty (sb_int) t.z_int boo_int (sa_cons (se_ix (so_idx rfl) (se_var 1) (se_int)) (sa_nil))) (se_bi (sb_len rfl) t.z_len boo_len (sa_cons (se_var 0) (sa_nil)))) (se_int)))))
theorem S__law_template : FnScope N__law_template ["numbers", "at", "depth"] (defScope s__law_template) := ⟨rfl, rfl, rfl, by decide +kernel, rfl, by decide +kernel, by decide +kernel⟩
theorem all__law_template (t : Txt a K P mg w) : ∀ k : Nat, FnOk P w K mg base (L2.CX P w) (2 + k) a.f__law_template a.d__law_template ["numbers", "at", "depth"] (spF (mkT a K) 3 (R__law_template k 0))
  | 0 => fn_bad (T := mkT a K) rfl
  | k + 1 => by
    have ih__law_template := all__law_template t k
    · refine def_ok (T := mkT a K) (N := N__law_template) (ps := ["numbers", "at", "depth"]) (k := 2 + k) (n := 6) (np := 3) (g := B__law_template (R__law_template k)) t.F__law_template S__law_template (fun cdv A outer s H E m X eX hr tk0 lv0 po => ?_) rfl rfl
      have hu := hu_room hr
      subst eX
      exact sss_cons (ss_set (i := 3) S__law_template.nd (se_call (ok__law_pick t) (hr.mono (by omega)) t.g__law_pick t.k__law_pick t.b__law_pick tk0 (sa_cons (se_var 0) (sa_cons (se_var 1) (sa_nil)))))
        (sss_cons (ss_if (PW.pt (sw_or (st_cmp (so_eq rfl hu.2) (se_var 2) (se_int)) (sw_or1 (st_cmp (so_eq rfl hu.2) (se_bin (so_mod) (se_var 3) (se_int)) (se_int))))) (sss_one (ss_ret (se_ix (so_idx rfl) (se_lst (si_cons (se_bin (so_sub) (se_bin (so_mod) (se_bin (so_div) (se_var 3) (se_int)) (se_int)) (se_int)) (si_cons (se_tup (si_cons (se_str [114]) (si_cons (se_bin (so_mod) (se_bin (so_div) (se_var 3) (se_int)) (se_int)) (si_nil)))) (si_cons (se_bin (so_pow) (se_int) (se_int)) (si_cons (se_bin (so_sub) (se_int) (se_bin (so_pow) (se_int) (se_int))) (si_nil)))))) (se_bin (so_mod) (se_bin (so_div) (se_var 3) (se_int)) (se_int))))) (sss_nil))
        (sss_cons (ss_setLcF (i := 4) (own := [("k", 5)]) lv0 tk0 rfl S__law_template.nd (sp_range1 t.z_range (sa_cons (se_bin (so_mod) (se_bin (so_div) (se_var 3) (se_int)) (se_int)) (sa_nil))) (by exact (show BlkOk N__law_template (defScope s__law_template) _ [("k", 5)] from ⟨rfl, by decide +kernel, by decide +kernel, by decide +kernel, by decide +kernel⟩)) (by decide) (fun _ _ _ _ _ _ => sg_one S__law_template.nd) (fun _ _ _ _ _ _ W1 tk1 => sts_nil) (fun _ _ _ _ _ _ W1 tk1 => se_call ih__law_template hr t.g__law_template t.k__law_template t.b__law_template tk1 (sa_cons (se_var 0) (sa_cons (se_var 1) (sa_cons (se_bin (so_sub) (se_var 2) (se_int)) (sa_nil))))))
        (sss_one (ss_ret (se_tup (si_cons (se_str [99]) (si_cons (se_ix (so_idx rfl) (se_lst (si_cons (se_str [101, 110, 100]) (si_cons (se_str [97, 49]) (si_cons (se_str [90, 122]) (si_cons (se_str [99, 111, 110, 115]) (si_nil)))))) (se_bin (so_mod) (se_bin (so_div) (se_var 3) (se_int)) (se_int))) (si_cons (se_ty (sb_tuple rfl) t.z_tuple boo_tuple (sa_cons (se_var 4) (sa_nil))) (si_nil)))))))))
theorem ok__law_template (t : Txt a K P mg w) : FnOk P w K mg base (L2.CX P w) 102 a.f__law_template a.d__law_template ["numbers", "at", "depth"] (spF (mkT a K) 3 F__law_template) := (all__law_template t 100)
theorem S__law_good : FnScope N__law_good ["numbers", "at"] (defScope s__law_good) := ⟨rfl, rfl, rfl, by decide +kernel, rfl, by decide +kernel, by decide +kernel⟩
theorem ok__law_good (t : Txt a K P mg w) : FnOk P w K mg base (L2.CX P w) 103 a.f__law_good a.d__law_good ["numbers", "at"] (spF (mkT a K) 2 F__law_good) := by
  refine def_ok (T := mkT a K) (N := N__law_good) (ps := ["numbers", "at"]) (k := 102) (n := 7) (np := 2) (g := B__law_good) t.F__law_good S__law_good (fun cdv A outer s H E m X eX hr tk0 lv0 po => ?_) rfl rfl
  have hu := hu_room hr
  subst eX
  exact sss_cons (ss_setLcF (i := 2) (own := [("j", 6)]) lv0 tk0 rfl S__law_good.nd (sp_range1 t.z_range (sa_cons (se_int) (sa_nil))) (by exact (show BlkOk N__law_good (defScope s__law_good) _ [("j", 6)] from ⟨rfl, by decide +kernel, by decide +kernel, by decide +kernel, by decide +kernel⟩)) (by decide) (fun _ _ _ _ _ _ => sg_one S__law_good.nd) (fun _ _ _ _ _ _ W1 tk1 => sts_nil) (fun _ _ _ _ _ _ W1 tk1 => se_bin (so_mod) (se_call (ok__law_pick t) (hr.mono (by decide)) t.g__law_pick t.k__law_pick t.b__law_pick tk1 (sa_cons (se_var 0) (sa_cons (se_var 1) (sa_nil)))) (se_int)))
    (sss_cons (ss_setLcF (i := 3) (own := [("j", 6)]) lv0 tk0 rfl S__law_good.nd (sp_range1 t.z_range (sa_cons (se_int) (sa_nil))) (by exact (show BlkOk N__law_good (defScope s__law_good) _ [("j", 6)] from ⟨rfl, by decide +kernel, by decide +kernel, by decide +kernel, by decide +kernel⟩)) (by decide) (fun _ _ _ _ _ _ => sg_one S__law_good.nd) (fun _ _ _ _ _ _ W1 tk1 => sts_nil) (fun _ _ _ _ _ _ W1 tk1 => se_call (ok__law_template t) (hr.mono (by decide)) t.g__law_template t.k__law_template t.b__law_template tk1 (sa_cons (se_var 0) (sa_cons (se_var 1) (sa_cons (se_int) (sa_nil))))))
    (sss_cons (ss_set (i := 4) S__law_good.nd (se_ix (so_idx rfl) (se_lst (si_cons (se_str [108, 101, 115, 115]) (si_cons (se_str [109, 111, 115, 116]) (si_cons (se_str [115, 97, 109, 101]) (si_nil))))) (se_bin (so_mod) (se_ix (so_idx rfl) (se_var 2) (se_int)) (se_int))))
    (sss_cons (ss_set (i := 5) S__law_good.nd (se_ix (so_idx rfl) (se_tup (si_cons (se_tup (si_cons (se_tup (si_cons (se_int) (si_cons (se_ix (so_idx rfl) (se_var 2) (se_int)) (si_nil)))) (si_cons (se_tup (si_cons (se_tup (si_cons (se_str [99, 111, 110, 115]) (si_cons (se_ix (so_idx rfl) (se_var 2) (se_int)) (si_nil)))) (si_cons (se_ix (so_idx rfl) (se_var 2) (se_int)) (si_nil)))) (si_nil)))) (si_cons (se_tup (si_nil)) (si_cons (se_tup (si_cons (se_tup (si_cons (se_un so_neg (se_int)) (si_cons (se_ix (so_idx rfl) (se_var 2) (se_int)) (si_nil)))) (si_cons (se_tup (si_cons (se_bin (so_pow) (se_int) (se_int)) (si_cons (se_int) (si_nil)))) (si_nil)))) (si_nil))))) (se_bin (so_mod) (se_ix (so_idx rfl) (se_var 2) (se_int)) (se_int))))
    (sss_one (ss_ret (se_lst (si_cons (se_tup (si_cons (se_str [108, 111, 111, 107]) (si_cons (se_ix (so_idx rfl) (se_var 2) (se_int)) (si_cons (se_ix (so_idx rfl) (se_var 2) (se_int)) (si_cons (se_bin (so_mod) (se_ix (so_idx rfl) (se_var 2) (se_int)) (se_int)) (si_cons (se_var 5) (si_cons (se_if (st_cmp (so_eq rfl hu.2) (se_ix (so_idx rfl) (se_var 2) (se_int)) (se_int)) (se_bin (so_sub) (se_ix (so_idx rfl) (se_var 2) (se_int)) (se_int)) (se_ix (so_idx rfl) (se_var 2) (se_int))) (si_nil)))))))) (si_cons (se_tup (si_cons (se_str [112, 97, 114, 116, 115]) (si_cons (se_ix (so_idx rfl) (se_var 2) (se_int)) (si_cons (se_ix (so_idx rfl) (se_var 2) (se_int)) (si_cons (se_ix (so_idx rfl) (se_var 2) (se_int)) (si_nil)))))) (si_cons (se_tup (si_cons (se_str [110, 117, 109, 98, 101, 114]) (si_cons (se_ix (so_idx rfl) (se_var 2) (se_int)) (si_cons (se_ix (so_idx rfl) (se_var 2) (se_int)) (si_cons (se_bin (so_mod) (se_ix (so_idx rfl) (se_var 2) (se_int)) (se_int)) (si_nil)))))) (si_cons (se_tup (si_cons (se_str [115, 101, 116]) (si_cons (se_ix (so_idx rfl) (se_var 2) (se_int)) (si_cons (se_bin (so_sub) (se_ix (so_idx rfl) (se_var 2) (se_int)) (se_int)) (si_nil))))) (si_cons (se_tup (si_cons (se_str [97, 100, 100]) (si_cons (se_ix (so_idx rfl) (se_var 2) (se_int)) (si_cons (se_ix (so_idx rfl) (se_var 2) (se_int)) (si_cons (se_ix (so_idx rfl) (se_var 2) (se_int)) (si_nil)))))) (si_cons (se_tup (si_cons (se_str [115, 117, 98]) (si_cons (se_ix (so_idx rfl) (se_var 2) (se_int)) (si_cons (se_ix (so_idx rfl) (se_var 2) (se_int)) (si_cons (se_ix (so_idx rfl) (se_var 2) (se_int)) (si_nil)))))) (si_cons (se_tup (si_cons (se_str [109, 117, 108]) (si_cons (se_ix (so_idx rfl) (se_var 2) (se_int)) (si_cons (se_ix (so_idx rfl) (se_var 2) (se_int)) (si_cons (se_ix (so_idx rfl) (se_var 2) (se_int)) (si_nil)))))) (si_cons (se_tup (si_cons (se_str [117, 110, 108, 101, 115, 115]) (si_cons (se_var 4) (si_cons (se_ix (so_idx rfl) (se_var 2) (se_int)) (si_cons (se_ix (so_idx rfl) (se_var 2) (se_int)) (si_cons (se_ix (so_idx rfl) (se_var 2) (se_int)) (si_nil))))))) (si_cons (se_tup (si_cons (se_str [110, 101, 119]) (si_cons (se_ix (so_idx rfl) (se_var 2) (se_int)) (si_cons (se_ix (so_idx rfl) (se_var 2) (se_int)) (si_cons (se_ix (so_idx rfl) (se_var 2) (se_int)) (si_nil)))))) (si_cons (se_tup (si_cons (se_str [99, 111, 112, 121]) (si_cons (se_ix (so_idx rfl) (se_var 2) (se_int)) (si_cons (se_bin (so_add rfl) (se_int) (se_ix (so_idx rfl) (se_var 2) (se_int))) (si_nil))))) (si_cons (se_tup (si_cons (se_str [100, 114, 111, 112]) (si_cons (se_ix (so_idx rfl) (se_var 2) (se_int)) (si_nil)))) (si_cons (se_tup (si_cons (se_str [116, 101, 108, 108]) (si_cons (se_ix (so_idx rfl) (se_var 2) (se_int)) (si_cons (se_ix (so_idx rfl) (se_var 3) (se_int)) (si_nil))))) (si_cons (se_tup (si_cons (se_str [103, 111]) (si_cons (se_ix (so_idx rfl) (se_var 2) (se_int)) (si_cons (se_str [112, 50]) (si_cons (se_sl rfl (se_tup (si_cons (se_ix (so_idx rfl) (se_var 3) (se_int)) (si_cons (se_ix (so_idx rfl) (se_var 3) (se_int)) (si_nil)))) po_no (po_so (se_bin (so_mod) (se_ix (so_idx rfl) (se_var 2) (se_int)) (se_int)))) (si_cons (se_sl rfl (se_tup (si_cons (se_ix (so_idx rfl) (se_var 2) (se_int)) (si_cons (se_ix (so_idx rfl) (se_var 2) (se_int)) (si_nil)))) po_no (po_so (se_bin (so_mod) (se_ix (so_idx rfl) (se_var 2) (se_int)) (se_int)))) (si_nil))))))) (si_cons (se_tup (si_cons (se_str [115, 117, 109]) (si_cons (se_ix (so_idx rfl) (se_var 2) (se_int)) (si_cons (se_ix (so_idx rfl) (se_var 2) (se_int)) (si_cons (se_sl rfl (se_tup (si_cons (se_ix (so_idx rfl) (se_var 2) (se_int)) (si_cons (se_ix (so_idx rfl) (se_var 2) (se_int)) (si_nil)))) po_no (po_so (se_bin (so_mod) (se_ix (so_idx rfl) (se_var 2) (se_int)) (se_int)))) (si_cons (se_ix (so_idx rfl) (se_var 2) (se_int)) (si_nil))))))) (si_cons (se_tup (si_cons (se_str [101, 110, 100]) (si_nil))) (si_nil))))))))))))))))))))))
theorem S__law_bad : FnScope N__law_bad ["one"] (defScope s__law_bad) := ⟨rfl, rfl, rfl, by decide +kernel, rfl, by decide +kernel, by decide +kernel⟩
theorem ok__law_bad (t : Txt a K P mg w) : FnOk P w K mg base (L2.CX P w) 2 a.f__law_bad a.d__law_bad ["one"] (spF (mkT a K) 1 F__law_bad) := by
  refine def_ok (T := mkT a K) (N := N__law_bad) (ps := ["one"]) (k := 1) (n := 5) (np := 1) (g := B__law_bad) t.F__law_bad S__law_bad (fun cdv A outer s H E m X eX hr tk0 lv0 po => ?_) rfl rfl
  have hu := hu_room hr
  subst eX
  exact sss_cons (ss_set (i := 1) S__law_bad.nd (se_lst (si_cons (se_bin (so_add rfl) (se_var 0) (se_tup (si_cons (se_int) (si_nil)))) (si_cons (se_bin (so_add rfl) (se_tup (si_cons (se_str [106, 117, 109, 112]) (si_nil))) (se_sl rfl (se_var 0) (po_so (se_int)) po_no)) (si_cons (se_bin (so_add rfl) (se_tup (si_cons (se_m0 PySem.F.slot_str_upper PySem.F.type_str_upper (sm_upper) (se_ix (so_idx rfl) (se_var 0) (se_int))) (si_nil))) (se_sl rfl (se_var 0) (po_so (se_int)) po_no)) (si_nil))))))
    (sss_cons (ss_if (st_cmp (so_gt) (se_bi (sb_len rfl) t.z_len boo_len (sa_cons (se_var 0) (sa_nil))) (se_int)) (sss_one (ss_set (i := 1) S__law_bad.nd (se_bin (so_add rfl) (se_var 1) (se_lst (si_cons (se_sl rfl (se_var 0) po_no (po_so (se_un so_neg (se_int)))) (si_cons (se_bin (so_add rfl) (se_tup (si_cons (se_ix (so_idx rfl) (se_var 0) (se_int)) (si_cons (se_str [120]) (si_nil)))) (se_sl rfl (se_var 0) (po_so (se_int)) po_no)) (si_cons (se_bin (so_add rfl) (se_tup (si_cons (se_ix (so_idx rfl) (se_var 0) (se_int)) (si_cons (se_un so_neg (se_int)) (si_nil)))) (se_sl rfl (se_var 0) (po_so (se_int)) po_no)) (si_cons (se_bin (so_add rfl) (se_tup (si_cons (se_ix (so_idx rfl) (se_var 0) (se_int)) (si_cons (se_tup (si_nil)) (si_nil)))) (se_sl rfl (se_var 0) (po_so (se_int)) po_no)) (si_nil))))))))) (sss_nil))
    (sss_cons (ss_if (st_cmp (so_eq rfl hu.2) (se_ix (so_idx rfl) (se_var 0) (se_int)) (se_str [108, 111, 111, 107])) (sss_cons (ss_set (i := 1) S__law_bad.nd (se_bin (so_add rfl) (se_var 1) (se_lst (si_cons (se_bin (so_add rfl) (se_bin (so_add rfl) (se_sl rfl (se_var 0) po_no (po_so (se_int))) (se_tup (si_cons (se_int) (si_nil)))) (se_sl rfl (se_var 0) (po_so (se_int)) po_no)) (si_cons (se_bin (so_add rfl) (se_sl rfl (se_var 0) po_no (po_so (se_int))) (se_tup (si_cons (se_tup (si_cons (se_tup (si_cons (se_int) (si_cons (se_un so_neg (se_int)) (si_nil)))) (si_nil))) (si_cons (se_int) (si_nil))))) (si_cons (se_bin (so_add rfl) (se_sl rfl (se_var 0) po_no (po_so (se_int))) (se_tup (si_cons (se_tup (si_cons (se_tup (si_cons (se_int) (si_cons (se_int) (si_cons (se_int) (si_nil))))) (si_nil))) (si_cons (se_int) (si_nil))))) (si_cons (se_bin (so_add rfl) (se_sl rfl (se_var 0) po_no (po_so (se_int))) (se_tup (si_cons (se_tup (si_cons (se_tup (si_cons (se_str [101, 110, 100]) (si_cons (se_int) (si_nil)))) (si_nil))) (si_cons (se_int) (si_nil))))) (si_nil))))))))
      (sss_one (ss_set (i := 1) S__law_bad.nd (se_bin (so_add rfl) (se_var 1) (se_lst (si_cons (se_bin (so_add rfl) (se_sl rfl (se_var 0) po_no (po_so (se_int))) (se_tup (si_cons (se_tup (si_cons (se_tup (si_cons (se_tup (si_cons (se_str [119, 97, 105, 116]) (si_cons (se_int) (si_nil)))) (si_cons (se_int) (si_nil)))) (si_nil))) (si_cons (se_int) (si_nil))))) (si_cons (se_bin (so_add rfl) (se_sl rfl (se_var 0) po_no (po_so (se_int))) (se_tup (si_cons (se_tup (si_cons (se_tup (si_cons (se_tup (si_cons (se_str [99]) (si_cons (se_un so_neg (se_int)) (si_nil)))) (si_cons (se_int) (si_nil)))) (si_nil))) (si_cons (se_int) (si_nil))))) (si_cons (se_bin (so_add rfl) (se_sl rfl (se_var 0) po_no (po_so (se_int))) (se_tup (si_cons (se_un so_neg (se_int)) (si_nil)))) (si_cons (se_bin (so_add rfl) (se_sl rfl (se_var 0) po_no (po_so (se_int))) (se_tup (si_cons (se_int) (si_cons (se_int) (si_nil))))) (si_nil)))))))))) (sss_nil))
    (sss_cons (ss_if (st_cmp (so_in rfl hu.1) (se_ix (so_idx rfl) (se_var 0) (se_int)) (se_lst (si_cons (se_str [116, 101, 108, 108]) (si_cons (se_str [103, 111]) (si_nil))))) (sss_cons (ss_set (i := 2) S__law_bad.nd (se_dlit (tb := [([116, 101, 108, 108], .int 2), ([103, 111], .int 3)]) (by have := hu.1; omega) (pps_cons pe_str pe_int (pps_cons pe_str pe_int (pps_nil))) (se_ix (so_idx rfl) (se_var 0) (se_int)) (by decide +kernel) rfl (by decide)))
      (sss_one (ss_for po rfl (sp_seq rfl (se_lst (si_cons (se_tup (si_cons (se_str [114]) (si_cons (se_un so_neg (se_int)) (si_nil)))) (si_cons (se_tup (si_cons (se_str [114]) (si_nil))) (si_cons (se_tup (si_cons (se_str [114]) (si_cons (se_int) (si_cons (se_int) (si_nil))))) (si_cons (se_tup (si_cons (se_str [117]) (si_cons (se_int) (si_nil)))) (si_cons (se_tup (si_cons (se_str [99]) (si_cons (se_str [101, 110, 100]) (si_nil)))) (si_cons (se_tup (si_cons (se_str [99]) (si_cons (se_str [105, 102]) (si_cons (se_tup (si_nil)) (si_nil))))) (si_cons (se_tup (si_cons (se_str [99]) (si_cons (se_str [101, 110, 100]) (si_cons (se_int) (si_nil))))) (si_cons (se_tup (si_cons (se_str [99]) (si_cons (se_str [97]) (si_cons (se_tup (si_cons (se_tup (si_cons (se_str [114]) (si_cons (se_str [98]) (si_nil)))) (si_nil))) (si_nil))))) (si_cons (se_str [120]) (si_nil)))))))))))) (sg_one S__law_bad.nd) (fun m => sss_cons (ss_set (i := 4) S__law_bad.nd (se_var 3))
        (sss_cons (ss_if (st_cmp (so_eq rfl hu.2) (se_ix (so_idx rfl) (se_var 0) (se_int)) (se_str [103, 111])) (sss_one (ss_set (i := 4) S__law_bad.nd (se_tup (si_cons (se_var 3) (si_nil))))) (sss_nil))
        (sss_one (ss_expr (se_app PySem.F.slot_list_append PySem.F.type_list_append sl_append (se_var 1) (si_cons (se_bin (so_add rfl) (se_bin (so_add rfl) (se_sl rfl (se_var 0) po_no (po_so (se_var 2))) (se_tup (si_cons (se_var 4) (si_nil)))) (se_sl rfl (se_var 0) (po_so (se_bin (so_add rfl) (se_var 2) (se_int))) po_no)) si_nil))))))))) (sss_nil))
    (sss_cons (ss_if (st_cmp (so_eq rfl hu.2) (se_ix (so_idx rfl) (se_var 0) (se_int)) (se_str [103, 111])) (sss_one (ss_set (i := 1) S__law_bad.nd (se_bin (so_add rfl) (se_var 1) (se_lst (si_cons (se_bin (so_add rfl) (se_bin (so_add rfl) (se_sl rfl (se_var 0) po_no (po_so (se_int))) (se_tup (si_cons (se_str [100, 101, 102]) (si_nil)))) (se_sl rfl (se_var 0) (po_so (se_int)) po_no)) (si_cons (se_bin (so_add rfl) (se_bin (so_add rfl) (se_sl rfl (se_var 0) po_no (po_so (se_int))) (se_tup (si_cons (se_int) (si_nil)))) (se_sl rfl (se_var 0) (po_so (se_int)) po_no)) (si_cons (se_bin (so_add rfl) (se_sl rfl (se_var 0) po_no (po_so (se_int))) (se_tup (si_cons (se_tup (si_cons (se_int) (si_cons (se_un so_neg (se_int)) (si_nil)))) (si_nil)))) (si_cons (se_bin (so_add rfl) (se_sl rfl (se_var 0) po_no (po_so (se_int))) (se_tup (si_cons (se_int) (si_nil)))) (si_cons (se_bin (so_add rfl) (se_sl rfl (se_var 0) po_no (po_so (se_int))) (se_tup (si_cons (se_int) (si_cons (se_tup (si_nil)) (si_nil))))) (si_nil)))))))))) (sss_nil))
    (sss_cons (ss_if (st_cmp (so_eq rfl hu.2) (se_ix (so_idx rfl) (se_var 0) (se_int)) (se_str [110, 117, 109, 98, 101, 114])) (sss_one (ss_expr (se_app PySem.F.slot_list_append PySem.F.type_list_append sl_append (se_var 1) (si_cons (se_bin (so_add rfl) (se_sl rfl (se_var 0) po_no (po_so (se_int))) (se_tup (si_cons (se_int) (si_nil)))) si_nil)))) (sss_nil))
    (sss_cons (ss_if (st_cmp (so_eq rfl hu.2) (se_ix (so_idx rfl) (se_var 0) (se_int)) (se_str [99, 111, 112, 121])) (sss_one (ss_expr (se_app PySem.F.slot_list_append PySem.F.type_list_append sl_append (se_var 1) (si_cons (se_tup (si_cons (se_str [99, 111, 112, 121]) (si_cons (se_ix (so_idx rfl) (se_var 0) (se_int)) (si_cons (se_int) (si_nil))))) si_nil)))) (sss_nil))
    (sss_cons (ss_if (st_cmp (so_eq rfl hu.2) (se_ix (so_idx rfl) (se_var 0) (se_int)) (se_str [115, 101, 116])) (sss_one (ss_expr (se_app PySem.F.slot_list_append PySem.F.type_list_append sl_append (se_var 1) (si_cons (se_tup (si_cons (se_str [115, 101, 116]) (si_cons (se_ix (so_idx rfl) (se_var 0) (se_int)) (si_cons (se_bin (so_add rfl) (se_bin (so_pow) (se_int) (se_int)) (se_int)) (si_nil))))) si_nil)))) (sss_nil))
    (sss_cons (ss_if (st_cmp (so_eq rfl hu.2) (se_ix (so_idx rfl) (se_var 0) (se_int)) (se_str [117, 110, 108, 101, 115, 115])) (sss_one (ss_expr (se_app PySem.F.slot_list_append PySem.F.type_list_append sl_append (se_var 1) (si_cons (se_bin (so_add rfl) (se_tup (si_cons (se_str [117, 110, 108, 101, 115, 115]) (si_cons (se_str [109, 111, 114, 101]) (si_nil)))) (se_sl rfl (se_var 0) (po_so (se_int)) po_no)) si_nil)))) (sss_nil))
    (sss_one (ss_ret (se_var 1)))))))))))
theorem S__law_filled : FnScope N__law_filled ["template", "held"] (defScope s__law_filled) := ⟨rfl, rfl, rfl, by decide +kernel, rfl, by decide +kernel, by decide +kernel⟩
theorem all__law_filled (t : Txt a K P mg w) : ∀ k : Nat, FnOk P w K mg base (L2.CX P w) (1 + k) a.f__law_filled a.d__law_filled ["template", "held"] (spF (mkT a K) 2 (R__law_filled k 0))
  | 0 => fn_bad (T := mkT a K) rfl
  | k + 1 => by
    have ih__law_filled := all__law_filled t k
    · refine def_ok (T := mkT a K) (N := N__law_filled) (ps := ["template", "held"]) (k := 1 + k) (n := 3) (np := 2) (g := B__law_filled (R__law_filled k)) t.F__law_filled S__law_filled (fun cdv A outer s H E m X eX hr tk0 lv0 po => ?_) rfl rfl
      have hu := hu_room hr
      subst eX
      exact sss_cons (ss_if (st_not (st_val (se_isT .tuple rfl t.z_isinstance t.z_tuple boo_tuple (se_var 0)))) (sss_one (ss_ret (se_var 0))) (sss_nil))
        (sss_cons (ss_if (st_cmp (so_eq rfl hu.2) (se_ix (so_idx rfl) (se_var 0) (se_int)) (se_str [114])) (sss_one (ss_ret (se_ix (so_idx rfl) (se_var 1) (se_ix (so_idx rfl) (se_var 0) (se_int))))) (sss_nil))
        (sss_one (ss_ret (se_tup (si_cons (se_str [99]) (si_cons (se_ix (so_idx rfl) (se_var 0) (se_int)) (si_cons (se_ty (sb_tuple rfl) t.z_tuple boo_tuple (sa_cons (se_comp (own := [("part", 2)]) lv0 tk0 rfl S__law_filled.nd (sp_seq rfl (se_ix (so_idx rfl) (se_var 0) (se_int))) (by exact (show BlkOk N__law_filled (defScope s__law_filled) _ [("part", 2)] from ⟨rfl, by decide +kernel, by decide +kernel, by decide +kernel, by decide +kernel⟩)) (by decide) (fun _ _ _ _ _ _ => sg_one S__law_filled.nd) (fun _ _ _ _ _ _ W1 tk1 => sts_nil) (fun _ _ _ _ _ _ W1 tk1 => se_call ih__law_filled hr t.g__law_filled t.k__law_filled t.b__law_filled tk1 (sa_cons (se_var 2) (sa_cons (se_var 1) (sa_nil))))) (sa_nil))) (si_nil))))))))
theorem ok__law_filled (t : Txt a K P mg w) : FnOk P w K mg base (L2.CX P w) 101 a.f__law_filled a.d__law_filled ["template", "held"] (spF (mkT a K) 2 F__law_filled) := (all__law_filled t 100)
theorem S__law_far : FnScope N__law_far ["numbers"] (defScope s__law_far) := ⟨rfl, rfl, rfl, by decide +kernel, rfl, by decide +kernel, by decide +kernel⟩
theorem ok__law_far (t : Txt a K P mg w) : FnOk P w K mg base (L2.CX P w) 107 a.f__law_far a.d__law_far ["numbers"] (spF (mkT a K) 1 F__law_far) := by
  refine def_ok (T := mkT a K) (N := N__law_far) (ps := ["numbers"]) (k := 106) (n := 10) (np := 1) (g := B__law_far) t.F__law_far S__law_far (fun cdv A outer s H E m X eX hr tk0 lv0 po => ?_) rfl rfl
  have hu := hu_room hr
  subst eX
  exact sss_cons (ss_set (i := 1) S__law_far.nd (se_frz (se_comp (own := [("one", 9)]) lv0 tk0 rfl S__law_far.nd (sp_seq rfl (se_sl rfl (se_var 0) po_no (po_so (se_int)))) (by exact (show BlkOk N__law_far (defScope s__law_far) _ [("one", 9)] from ⟨rfl, by decide +kernel, by decide +kernel, by decide +kernel, by decide +kernel⟩)) (by decide) (fun _ _ _ _ _ _ => sg_one S__law_far.nd) (fun _ _ _ _ _ _ W1 tk1 => sts_nil) (fun _ _ _ _ _ _ W1 tk1 => se_bin (so_add rfl) (se_bin (so_add rfl) (se_bin (so_pow) (se_int) (se_int)) (se_int)) (se_ty (sb_int) t.z_int boo_int (sa_cons (se_var 9) (sa_nil)))))))
    (sss_cons (ss_set (i := 2) S__law_far.nd (se_tup (si_cons (se_str [114]) (si_cons (se_ix (so_idx rfl) (se_var 1) (se_int)) (si_nil)))))
    (sss_cons (ss_set (i := 3) S__law_far.nd (se_tup (si_cons (se_str [114]) (si_cons (se_int) (si_nil)))))
    (sss_cons (ss_set (i := 4) S__law_far.nd (se_tup (si_cons (se_str [117]) (si_cons (se_tup (si_cons (se_tup (si_nil)) (si_cons (se_int) (si_nil)))) (si_nil)))))
    (sss_cons (ss_for po rfl (sp_range1 t.z_range (sa_cons (se_int) (sa_nil))) (sg_one S__law_far.nd) (fun m => sss_cons (ss_set (i := 2) S__law_far.nd (se_tup (si_cons (se_str [99]) (si_cons (se_str [97, 98, 99, 100, 101, 102, 103, 104, 105, 106, 107, 108]) (si_cons (se_bin (so_add rfl) (se_bin (so_mulX rfl) (se_tup (si_cons (se_int) (si_nil))) (se_bin (so_mod) (se_var 5) (se_int))) (se_tup (si_cons (se_var 2) (si_nil)))) (si_nil))))))
      (sss_cons (ss_set (i := 3) S__law_far.nd (se_tup (si_cons (se_str [99]) (si_cons (se_str [97, 98, 99, 100, 101, 102, 103, 104, 105, 106, 107, 108]) (si_cons (se_bin (so_add rfl) (se_bin (so_mulX rfl) (se_tup (si_cons (se_int) (si_nil))) (se_bin (so_mod) (se_var 5) (se_int))) (se_tup (si_cons (se_var 3) (si_nil)))) (si_nil))))))
      (sss_one (ss_set (i := 4) S__law_far.nd (se_tup (si_cons (se_str [99]) (si_cons (se_str [97, 98, 99, 100, 101, 102, 103, 104, 105, 106, 107, 108]) (si_cons (se_bin (so_add rfl) (se_bin (so_mulX rfl) (se_tup (si_cons (se_int) (si_nil))) (se_bin (so_mod) (se_var 5) (se_int))) (se_tup (si_cons (se_var 4) (si_nil)))) (si_nil))))))))))
    (sss_cons (ss_set (i := 6) S__law_far.nd (se_ty (sb_tuple rfl) t.z_tuple boo_tuple (sa_cons (se_comp (own := [("k", 5)]) lv0 tk0 rfl S__law_far.nd (sp_range1 t.z_range (sa_cons (se_int) (sa_nil))) (by exact (show BlkOk N__law_far (defScope s__law_far) _ [("k", 5)] from ⟨rfl, by decide +kernel, by decide +kernel, by decide +kernel, by decide +kernel⟩)) (by decide) (fun _ _ _ _ _ _ => sg_one S__law_far.nd) (fun _ _ _ _ _ _ W1 tk1 => sts_nil) (fun _ _ _ _ _ _ W1 tk1 => se_tup (si_cons (se_tup (si_cons (se_bin (so_add rfl) (se_str [99]) (se_ty (sb_str) t.z_str boo_str (sa_cons (se_var 5) (sa_nil)))) (si_cons (se_var 5) (si_nil)))) (si_cons (se_ix (so_idx rfl) (se_var 1) (se_bin (so_mod) (se_var 5) (se_int))) (si_nil))))) (sa_nil))))
    (sss_cons (ss_set (i := 7) S__law_far.nd (se_frz (se_lst (si_cons (se_tup (si_cons (se_str [108, 111, 111, 107]) (si_cons (se_ix (so_idx rfl) (se_var 1) (se_int)) (si_cons (se_ix (so_idx rfl) (se_var 1) (se_int)) (si_cons (se_int) (si_cons (se_var 6) (si_cons (se_ix (so_idx rfl) (se_var 1) (se_int)) (si_nil)))))))) (si_cons (se_tup (si_cons (se_str [112, 97, 114, 116, 115]) (si_cons (se_ix (so_idx rfl) (se_var 1) (se_int)) (si_cons (se_ix (so_idx rfl) (se_var 1) (se_int)) (si_cons (se_ix (so_idx rfl) (se_var 1) (se_int)) (si_nil)))))) (si_cons (se_tup (si_cons (se_str [110, 117, 109, 98, 101, 114]) (si_cons (se_ix (so_idx rfl) (se_var 1) (se_int)) (si_cons (se_ix (so_idx rfl) (se_var 1) (se_int)) (si_cons (se_int) (si_nil)))))) (si_cons (se_tup (si_cons (se_str [115, 101, 116]) (si_cons (se_ix (so_idx rfl) (se_var 1) (se_int)) (si_cons (se_bin (so_pow) (se_int) (se_int)) (si_nil))))) (si_cons (se_tup (si_cons (se_str [115, 101, 116]) (si_cons (se_ix (so_idx rfl) (se_var 1) (se_int)) (si_cons (se_bin (so_sub) (se_int) (se_bin (so_pow) (se_int) (se_int))) (si_nil))))) (si_nil)))))))))
    (sss_cons (ss_set (i := 7) S__law_far.nd (se_frz (se_bin (so_add rfl) (se_var 7) (se_lst (si_cons (se_tup (si_cons (se_str [109, 117, 108]) (si_cons (se_ix (so_idx rfl) (se_var 1) (se_int)) (si_cons (se_ix (so_idx rfl) (se_var 1) (se_int)) (si_cons (se_ix (so_idx rfl) (se_var 1) (se_int)) (si_nil)))))) (si_cons (se_tup (si_cons (se_str [117, 110, 108, 101, 115, 115]) (si_cons (se_str [109, 111, 115, 116]) (si_cons (se_ix (so_idx rfl) (se_var 1) (se_int)) (si_cons (se_ix (so_idx rfl) (se_var 1) (se_int)) (si_cons (se_ix (so_idx rfl) (se_var 1) (se_int)) (si_nil))))))) (si_cons (se_tup (si_cons (se_str [110, 101, 119]) (si_cons (se_ix (so_idx rfl) (se_var 1) (se_int)) (si_cons (se_ix (so_idx rfl) (se_var 1) (se_int)) (si_cons (se_ix (so_idx rfl) (se_var 1) (se_int)) (si_nil)))))) (si_cons (se_tup (si_cons (se_str [99, 111, 112, 121]) (si_cons (se_ix (so_idx rfl) (se_var 1) (se_int)) (si_cons (se_ix (so_idx rfl) (se_var 1) (se_int)) (si_nil))))) (si_cons (se_tup (si_cons (se_str [100, 114, 111, 112]) (si_cons (se_ix (so_idx rfl) (se_var 1) (se_int)) (si_nil)))) (si_nil))))))))))
    (sss_cons (ss_set (i := 7) S__law_far.nd (se_frz (se_bin (so_add rfl) (se_var 7) (se_lst (si_cons (se_tup (si_cons (se_str [116, 101, 108, 108]) (si_cons (se_ix (so_idx rfl) (se_var 1) (se_int)) (si_cons (se_var 2) (si_nil))))) (si_cons (se_tup (si_cons (se_str [103, 111]) (si_cons (se_ix (so_idx rfl) (se_var 1) (se_int)) (si_cons (se_str [97, 98, 99, 100, 101, 102, 103, 104, 105, 106, 107, 108]) (si_cons (se_bin (so_mulX rfl) (se_tup (si_cons (se_var 2) (si_nil))) (se_int)) (si_cons (se_ty (sb_tuple rfl) t.z_tuple boo_tuple (sa_cons (se_bin (so_mulX rfl) (se_var 1) (se_int)) (sa_nil))) (si_nil))))))) (si_cons (se_tup (si_cons (se_str [115, 117, 109]) (si_cons (se_ix (so_idx rfl) (se_var 1) (se_int)) (si_cons (se_ix (so_idx rfl) (se_var 1) (se_int)) (si_cons (se_ty (sb_tuple rfl) t.z_tuple boo_tuple (sa_cons (se_bin (so_mulX rfl) (se_var 1) (se_int)) (sa_nil))) (si_cons (se_ix (so_idx rfl) (se_var 1) (se_int)) (si_nil))))))) (si_cons (se_tup (si_cons (se_str [115, 101, 116]) (si_cons (se_ix (so_idx rfl) (se_var 1) (se_int)) (si_cons (se_int) (si_nil))))) (si_nil)))))))))
    (sss_cons (ss_set (i := 8) S__law_far.nd (se_frz (se_lst (si_cons (se_tup (si_cons (se_str [115, 101, 116]) (si_cons (se_ix (so_idx rfl) (se_var 1) (se_int)) (si_cons (se_bin (so_sub) (se_bin (so_sub) (se_int) (se_bin (so_pow) (se_int) (se_int))) (se_int)) (si_nil))))) (si_cons (se_tup (si_cons (se_str [103, 111]) (si_cons (se_int) (si_cons (se_str [97, 98, 99, 100, 101, 102, 103, 104, 105, 106, 107, 108, 109]) (si_cons (se_tup (si_nil)) (si_cons (se_tup (si_nil)) (si_nil))))))) (si_cons (se_tup (si_cons (se_str [116, 101, 108, 108]) (si_cons (se_int) (si_cons (se_tup (si_cons (se_str [99]) (si_cons (se_str [97, 98, 99, 100, 101, 102, 103, 104, 105, 106, 107, 108, 109]) (si_cons (se_tup (si_nil)) (si_nil))))) (si_nil))))) (si_cons (se_tup (si_cons (se_str [108, 111, 111, 107]) (si_cons (se_int) (si_cons (se_int) (si_cons (se_int) (si_cons (se_bin (so_add rfl) (se_var 6) (se_tup (si_cons (se_tup (si_cons (se_tup (si_cons (se_str [99]) (si_cons (se_un so_neg (se_int)) (si_nil)))) (si_cons (se_int) (si_nil)))) (si_nil)))) (si_cons (se_int) (si_nil)))))))) (si_nil))))))))
    (sss_cons (ss_if (PW.pt (sw_or (st_not (st_val (se_bi (sb_all rfl) t.z_all boo_all (sa_cons (se_comp (own := [("one", 9)]) lv0 tk0 rfl S__law_far.nd (sp_seq rfl (se_var 7)) (by exact (show BlkOk N__law_far (defScope s__law_far) _ [("one", 9)] from ⟨rfl, by decide +kernel, by decide +kernel, by decide +kernel, by decide +kernel⟩)) (by decide) (fun _ _ _ _ _ _ => sg_one S__law_far.nd) (fun _ _ _ _ _ _ W1 tk1 => sts_nil) (fun _ _ _ _ _ _ W1 tk1 => se_cmp (so_is) (se_call (ok_is_instruction t) (hr.mono (by decide)) t.g_is_instruction t.k_is_instruction t.b_is_instruction tk1 (sa_cons (se_var 9) (sa_nil))) (se_bl))) (sa_nil))))) (sw_or1 (st_not (st_val (se_bi (sb_all rfl) t.z_all boo_all (sa_cons (se_comp (own := [("one", 9)]) lv0 tk0 rfl S__law_far.nd (sp_seq rfl (se_var 8)) (by exact (show BlkOk N__law_far (defScope s__law_far) _ [("one", 9)] from ⟨rfl, by decide +kernel, by decide +kernel, by decide +kernel, by decide +kernel⟩)) (by decide) (fun _ _ _ _ _ _ => sg_one S__law_far.nd) (fun _ _ _ _ _ _ W1 tk1 => sts_nil) (fun _ _ _ _ _ _ W1 tk1 => se_cmp (so_is) (se_call (ok_is_instruction t) (hr.mono (by decide)) t.g_is_instruction t.k_is_instruction t.b_is_instruction tk1 (sa_cons (se_var 9) (sa_nil))) (se_bl))) (sa_nil)))))))) (sss_one (ss_ret (se_bl))) (sss_nil))
    (sss_one (ss_ret (se_and (se_cmp (so_is) (se_call (ok_is_template t) (hr.mono (by decide)) t.g_is_template t.k_is_template t.b_is_template tk0 (sa_cons (se_var 2) (sa_nil))) (se_bl)) (se_one (se_cmp (so_eq rfl hu.2) (se_call (ok_filled t) (hr.mono (by decide)) t.g_filled t.k_filled t.b_filled tk0 (sa_cons (se_var 3) (sa_cons (se_frz (se_comp (own := [("k", 5)]) lv0 tk0 rfl S__law_far.nd (sp_range1 t.z_range (sa_cons (se_int) (sa_nil))) (by exact (show BlkOk N__law_far (defScope s__law_far) _ [("k", 5)] from ⟨rfl, by decide +kernel, by decide +kernel, by decide +kernel, by decide +kernel⟩)) (by decide) (fun _ _ _ _ _ _ => sg_one S__law_far.nd) (fun _ _ _ _ _ _ W1 tk1 => sts_nil) (fun _ _ _ _ _ _ W1 tk1 => se_tup (si_cons (se_str [117]) (si_cons (se_tup (si_cons (se_tup (si_nil)) (si_cons (se_var 5) (si_nil)))) (si_nil)))))) (sa_nil)))) (se_var 4))))))))))))))))
theorem S_law : FnScope N_law ["script"] (defScope s_law) := ⟨rfl, rfl, rfl, by decide +kernel, rfl, by decide +kernel, by decide +kernel⟩
theorem ok_law (t : Txt a K P mg w) : FnOk P w K mg base (L2.CX P w) 108 a.f_law a.d_law ["script"] (spF (mkT a K) 1 F_law) := by
  refine def_ok (T := mkT a K) (N := N_law) (ps := ["script"]) (k := 107) (n := 11) (np := 1) (g := B_law) t.F_law S_law (fun cdv A outer s H E m X eX hr tk0 lv0 po => ?_) rfl rfl
  have hu := hu_room hr
  subst eX
  exact sss_cons (ss_for po rfl (sp_range1 t.z_range (sa_cons (se_bi (sb_max2 rfl) t.z_max boo_max (sa_cons (se_int) (sa_cons (se_bi (sb_min2 rfl) t.z_min boo_min (sa_cons (se_bi (sb_len rfl) t.z_len boo_len (sa_cons (se_var 0) (sa_nil))) (sa_cons (se_int) (sa_nil)))) (sa_nil)))) (sa_nil))) (sg_one S_law.nd) (fun m => sss_cons (ss_set (i := 2) S_law.nd (se_frz (se_call (ok__law_numbers t) (hr.mono (by decide)) t.g__law_numbers t.k__law_numbers t.b__law_numbers tk0 (sa_cons (se_call (ok__law_cell t) (hr.mono (by decide)) t.g__law_cell t.k__law_cell t.b__law_cell tk0 (sa_cons (se_var 0) (sa_cons (se_var 1) (sa_nil)))) (sa_cons (se_var 1) (sa_cons (se_int) (sa_nil)))))))
      (sss_cons (ss_set (i := 3) S_law.nd (se_lst (si_cons (se_int) (si_nil))))
      (sss_cons (ss_for po rfl (sp_seq rfl (se_call (ok__law_good t) (hr.mono (by decide)) t.g__law_good t.k__law_good t.b__law_good tk0 (sa_cons (se_var 2) (sa_cons (se_var 3) (sa_nil))))) (sg_one S_law.nd) (fun m => sss_cons (ss_if (st_cmp (so_isNot) (se_call (ok_is_instruction t) (hr.mono (by decide)) t.g_is_instruction t.k_is_instruction t.b_is_instruction tk0 (sa_cons (se_var 4) (sa_nil))) (se_bl)) (sss_one (ss_ret (se_bl))) (sss_nil))
        (sss_one (ss_for po rfl (sp_seq rfl (se_call (ok__law_bad t) (hr.mono (by decide)) t.g__law_bad t.k__law_bad t.b__law_bad tk0 (sa_cons (se_var 4) (sa_nil)))) (sg_one S_law.nd) (fun m => sss_one (ss_if (st_cmp (so_isNot) (se_call (ok_is_instruction t) (hr.mono (by decide)) t.g_is_instruction t.k_is_instruction t.b_is_instruction tk0 (sa_cons (se_var 5) (sa_nil))) (se_bl)) (sss_one (ss_ret (se_bl))) (sss_nil)))))))
      (sss_cons (ss_set (i := 6) S_law.nd (se_frz (se_bin (so_add rfl) (se_comp (own := [("j", 10)]) lv0 tk0 rfl S_law.nd (sp_range1 t.z_range (sa_cons (se_int) (sa_nil))) (by exact (show BlkOk N_law (defScope s_law) _ [("j", 10)] from ⟨rfl, by decide +kernel, by decide +kernel, by decide +kernel, by decide +kernel⟩)) (by decide) (fun _ _ _ _ _ _ => sg_one S_law.nd) (fun _ _ _ _ _ _ W1 tk1 => sts_nil) (fun _ _ _ _ _ _ W1 tk1 => se_tup (si_cons (se_str [117]) (si_cons (se_tup (si_cons (se_tup (si_nil)) (si_cons (se_var 10) (si_nil)))) (si_nil))))) (se_lst (si_cons (se_int) (si_cons (se_tup (si_cons (se_str [99]) (si_cons (se_str [101, 110, 100]) (si_cons (se_tup (si_nil)) (si_nil))))) (si_cons (se_tup (si_cons (se_str [99]) (si_cons (se_str [115, 111, 109, 101]) (si_cons (se_tup (si_cons (se_tup (si_cons (se_str [117]) (si_cons (se_tup (si_cons (se_tup (si_cons (se_int) (si_nil))) (si_cons (se_int) (si_nil)))) (si_nil)))) (si_nil))) (si_nil))))) (si_nil))))))))
      (sss_cons (ss_set (i := 7) S_law.nd (se_frz (se_ty (sb_list rfl) t.z_list boo_list (sa_cons (se_var 6) (sa_nil)))))
      (sss_cons (ss_for po rfl (sp_range1 t.z_range (sa_cons (se_int) (sa_nil))) (sg_one S_law.nd) (fun m => sss_cons (ss_set (i := 9) S_law.nd (se_call (ok__law_template t) (hr.mono (by decide)) t.g__law_template t.k__law_template t.b__law_template tk0 (sa_cons (se_var 2) (sa_cons (se_var 3) (sa_cons (se_int) (sa_nil))))))
        (sss_one (ss_if (PW.pt (sw_or (st_cmp (so_isNot) (se_call (ok_is_template t) (hr.mono (by decide)) t.g_is_template t.k_is_template t.b_is_template tk0 (sa_cons (se_var 9) (sa_nil))) (se_bl)) (sw_or (st_cmp (so_ne rfl hu.2) (se_call (ok_filled t) (hr.mono (by decide)) t.g_filled t.k_filled t.b_filled tk0 (sa_cons (se_var 9) (sa_cons (se_var 6) (sa_nil)))) (se_call (ok__law_filled t) (hr.mono (by decide)) t.g__law_filled t.k__law_filled t.b__law_filled tk0 (sa_cons (se_var 9) (sa_cons (se_var 6) (sa_nil))))) (sw_or1 (st_cmp (so_ne rfl hu.2) (se_var 6) (se_var 7)))))) (sss_one (ss_ret (se_bl))) (sss_nil)))))
      (sss_cons (ss_for po rfl (sp_seq rfl (se_lst (si_cons (se_tup (si_cons (se_str [114]) (si_cons (se_un so_neg (se_int)) (si_nil)))) (si_cons (se_tup (si_cons (se_str [114]) (si_nil))) (si_cons (se_tup (si_cons (se_str [99]) (si_cons (se_str [120]) (si_nil)))) (si_cons (se_tup (si_cons (se_str [99]) (si_cons (se_str [57]) (si_cons (se_tup (si_nil)) (si_nil))))) (si_cons (se_tup (si_cons (se_str [99]) (si_cons (se_str [120]) (si_cons (se_tup (si_cons (se_tup (si_nil)) (si_nil))) (si_nil))))) (si_cons (se_tup (si_cons (se_str [100]) (si_cons (se_int) (si_nil)))) (si_cons (se_tup (si_cons (se_str [99]) (si_cons (se_str [120]) (si_cons (se_int) (si_nil))))) (si_nil)))))))))) (sg_one S_law.nd) (fun m => sss_one (ss_if (st_cmp (so_isNot) (se_call (ok_is_template t) (hr.mono (by decide)) t.g_is_template t.k_is_template t.b_is_template tk0 (sa_cons (se_var 5) (sa_nil))) (se_bl)) (sss_one (ss_ret (se_bl))) (sss_nil))))
      (sss_one (ss_if (st_not (st_val (se_call (ok__law_far t) (hr.mono (by decide)) t.g__law_far t.k__law_far t.b__law_far tk0 (sa_cons (se_var 2) (sa_nil))))) (sss_one (ss_ret (se_bl))) (sss_nil)))))))))))
    (sss_one (ss_ret (se_bl)))
end
/-! ### the end -/
theorem all_mk {w : World} {K : PySem.W.Frag} {h : Heap} {mg : Str → Option Value} {fa : Addr} (X : K.In h) (G : h.Ns mainGlobals mg) (hfa : mg "law" = some (.ref fa))
    {f_is_name : Addr} {od_is_name an_is_name : Option Addr} {sl_is_name : Array (Option Value)} {oc_is_name kV_is_name dc_is_name pm_is_name cd_is_name ct_is_name : Value}
    {f_is_index : Addr} {od_is_index an_is_index : Option Addr} {sl_is_index : Array (Option Value)} {oc_is_index kV_is_index dc_is_index pm_is_index cd_is_index ct_is_index : Value}
    {f_is_number : Addr} {od_is_number an_is_number : Option Addr} {sl_is_number : Array (Option Value)} {oc_is_number kV_is_number dc_is_number pm_is_number cd_is_number ct_is_number : Value}
    {f_is_word : Addr} {od_is_word an_is_word : Option Addr} {sl_is_word : Array (Option Value)} {oc_is_word kV_is_word dc_is_word pm_is_word cd_is_word ct_is_word : Value}
    {f_is_template : Addr} {od_is_template an_is_template : Option Addr} {sl_is_template : Array (Option Value)} {oc_is_template kV_is_template dc_is_template pm_is_template cd_is_template ct_is_template : Value}
    {f_is_key : Addr} {od_is_key an_is_key : Option Addr} {sl_is_key : Array (Option Value)} {oc_is_key kV_is_key dc_is_key pm_is_key cd_is_key ct_is_key : Value}
    {f_is_case : Addr} {od_is_case an_is_case : Option Addr} {sl_is_case : Array (Option Value)} {oc_is_case kV_is_case dc_is_case pm_is_case cd_is_case ct_is_case : Value}
    {f_fit_all : Addr} {od_fit_all an_fit_all : Option Addr} {sl_fit_all : Array (Option Value)} {oc_fit_all kV_fit_all dc_fit_all pm_fit_all cd_fit_all ct_fit_all : Value}
    {f_fits : Addr} {od_fits an_fits : Option Addr} {sl_fits : Array (Option Value)} {oc_fits kV_fits dc_fits pm_fits cd_fits ct_fits : Value}
    {f_is_instruction : Addr} {od_is_instruction an_is_instruction : Option Addr} {sl_is_instruction : Array (Option Value)} {oc_is_instruction kV_is_instruction dc_is_instruction pm_is_instruction cd_is_instruction ct_is_instruction : Value}
    {f_filled : Addr} {od_filled an_filled : Option Addr} {sl_filled : Array (Option Value)} {oc_filled kV_filled dc_filled pm_filled cd_filled ct_filled : Value}
    {f__law_cell : Addr} {od__law_cell an__law_cell : Option Addr} {sl__law_cell : Array (Option Value)} {oc__law_cell kV__law_cell dc__law_cell pm__law_cell cd__law_cell ct__law_cell : Value}
    {f__law_numbers : Addr} {od__law_numbers an__law_numbers : Option Addr} {sl__law_numbers : Array (Option Value)} {oc__law_numbers kV__law_numbers dc__law_numbers pm__law_numbers cd__law_numbers ct__law_numbers : Value}
    {f__law_pick : Addr} {od__law_pick an__law_pick : Option Addr} {sl__law_pick : Array (Option Value)} {oc__law_pick kV__law_pick dc__law_pick pm__law_pick cd__law_pick ct__law_pick : Value}
    {f__law_template : Addr} {od__law_template an__law_template : Option Addr} {sl__law_template : Array (Option Value)} {oc__law_template kV__law_template dc__law_template pm__law_template cd__law_template ct__law_template : Value}
    {f__law_good : Addr} {od__law_good an__law_good : Option Addr} {sl__law_good : Array (Option Value)} {oc__law_good kV__law_good dc__law_good pm__law_good cd__law_good ct__law_good : Value}
    {f__law_bad : Addr} {od__law_bad an__law_bad : Option Addr} {sl__law_bad : Array (Option Value)} {oc__law_bad kV__law_bad dc__law_bad pm__law_bad cd__law_bad ct__law_bad : Value}
    {f__law_filled : Addr} {od__law_filled an__law_filled : Option Addr} {sl__law_filled : Array (Option Value)} {oc__law_filled kV__law_filled dc__law_filled pm__law_filled cd__law_filled ct__law_filled : Value}
    {f__law_far : Addr} {od__law_far an__law_far : Option Addr} {sl__law_far : Array (Option Value)} {oc__law_far kV__law_far dc__law_far pm__law_far cd__law_far ct__law_far : Value}
    {f_law : Addr} {od_law an_law : Option Addr} {sl_law : Array (Option Value)} {oc_law kV_law dc_law pm_law cd_law ct_law : Value}
    {tk_LETTERS : Tok}
    {tk_MAX_NAME : Tok}
    {tk_MAX_NUMBER : Tok}
    {A_RELATIONS : Addr} {od_RELATIONS : Option Addr} {its_RELATIONS : Array Value} {n_RELATIONS : Nat} {sl_RELATIONS : Array (Option Value)}
    {A_SHAPES : Addr} {es_SHAPES : Array DictEntry} {n_SHAPES : Nat}
    {tk_SIGNS : Tok}
    {A_WORDS : Addr} {od_WORDS : Option Addr} {its_WORDS : Array Value} {n_WORDS : Nat} {sl_WORDS : Array (Option Value)}
    (a_is_name : PySem.W.nsIn K mainGlobals "is_name" = some (some (.ref f_is_name)))
    (l_is_name : K.lookup f_is_name = some ⟨oc_is_name, od_is_name, .func (PySem.W.fnOf "is_name" "is_name" (defArgs s_is_name) (defBody s_is_name) (defScope s_is_name) .none kV_is_name dc_is_name pm_is_name an_is_name cd_is_name ct_is_name), sl_is_name⟩)
    (c_is_name : PySem.W.codeIn K cd_is_name "is_name" = true)
    (k_is_name : PySem.W.keepIn K (.ref f_is_name) = true)
    (a_is_index : PySem.W.nsIn K mainGlobals "is_index" = some (some (.ref f_is_index)))
    (l_is_index : K.lookup f_is_index = some ⟨oc_is_index, od_is_index, .func (PySem.W.fnOf "is_index" "is_index" (defArgs s_is_index) (defBody s_is_index) (defScope s_is_index) .none kV_is_index dc_is_index pm_is_index an_is_index cd_is_index ct_is_index), sl_is_index⟩)
    (c_is_index : PySem.W.codeIn K cd_is_index "is_index" = true)
    (k_is_index : PySem.W.keepIn K (.ref f_is_index) = true)
    (a_is_number : PySem.W.nsIn K mainGlobals "is_number" = some (some (.ref f_is_number)))
    (l_is_number : K.lookup f_is_number = some ⟨oc_is_number, od_is_number, .func (PySem.W.fnOf "is_number" "is_number" (defArgs s_is_number) (defBody s_is_number) (defScope s_is_number) .none kV_is_number dc_is_number pm_is_number an_is_number cd_is_number ct_is_number), sl_is_number⟩)
    (c_is_number : PySem.W.codeIn K cd_is_number "is_number" = true)
    (k_is_number : PySem.W.keepIn K (.ref f_is_number) = true)
    (a_is_word : PySem.W.nsIn K mainGlobals "is_word" = some (some (.ref f_is_word)))
    (l_is_word : K.lookup f_is_word = some ⟨oc_is_word, od_is_word, .func (PySem.W.fnOf "is_word" "is_word" (defArgs s_is_word) (defBody s_is_word) (defScope s_is_word) .none kV_is_word dc_is_word pm_is_word an_is_word cd_is_word ct_is_word), sl_is_word⟩)
    (c_is_word : PySem.W.codeIn K cd_is_word "is_word" = true)
    (k_is_word : PySem.W.keepIn K (.ref f_is_word) = true)
    (a_is_template : PySem.W.nsIn K mainGlobals "is_template" = some (some (.ref f_is_template)))
    (l_is_template : K.lookup f_is_template = some ⟨oc_is_template, od_is_template, .func (PySem.W.fnOf "is_template" "is_template" (defArgs s_is_template) (defBody s_is_template) (defScope s_is_template) .none kV_is_template dc_is_template pm_is_template an_is_template cd_is_template ct_is_template), sl_is_template⟩)
    (c_is_template : PySem.W.codeIn K cd_is_template "is_template" = true)
    (k_is_template : PySem.W.keepIn K (.ref f_is_template) = true)
    (a_is_key : PySem.W.nsIn K mainGlobals "is_key" = some (some (.ref f_is_key)))
    (l_is_key : K.lookup f_is_key = some ⟨oc_is_key, od_is_key, .func (PySem.W.fnOf "is_key" "is_key" (defArgs s_is_key) (defBody s_is_key) (defScope s_is_key) .none kV_is_key dc_is_key pm_is_key an_is_key cd_is_key ct_is_key), sl_is_key⟩)
    (c_is_key : PySem.W.codeIn K cd_is_key "is_key" = true)
    (k_is_key : PySem.W.keepIn K (.ref f_is_key) = true)
    (a_is_case : PySem.W.nsIn K mainGlobals "is_case" = some (some (.ref f_is_case)))
    (l_is_case : K.lookup f_is_case = some ⟨oc_is_case, od_is_case, .func (PySem.W.fnOf "is_case" "is_case" (defArgs s_is_case) (defBody s_is_case) (defScope s_is_case) .none kV_is_case dc_is_case pm_is_case an_is_case cd_is_case ct_is_case), sl_is_case⟩)
    (c_is_case : PySem.W.codeIn K cd_is_case "is_case" = true)
    (k_is_case : PySem.W.keepIn K (.ref f_is_case) = true)
    (a_fit_all : PySem.W.nsIn K mainGlobals "fit_all" = some (some (.ref f_fit_all)))
    (l_fit_all : K.lookup f_fit_all = some ⟨oc_fit_all, od_fit_all, .func (PySem.W.fnOf "fit_all" "fit_all" (defArgs s_fit_all) (defBody s_fit_all) (defScope s_fit_all) .none kV_fit_all dc_fit_all pm_fit_all an_fit_all cd_fit_all ct_fit_all), sl_fit_all⟩)
    (c_fit_all : PySem.W.codeIn K cd_fit_all "fit_all" = true)
    (k_fit_all : PySem.W.keepIn K (.ref f_fit_all) = true)
    (a_fits : PySem.W.nsIn K mainGlobals "fits" = some (some (.ref f_fits)))
    (l_fits : K.lookup f_fits = some ⟨oc_fits, od_fits, .func (PySem.W.fnOf "fits" "fits" (defArgs s_fits) (defBody s_fits) (defScope s_fits) .none kV_fits dc_fits pm_fits an_fits cd_fits ct_fits), sl_fits⟩)
    (c_fits : PySem.W.codeIn K cd_fits "fits" = true)
    (k_fits : PySem.W.keepIn K (.ref f_fits) = true)
    (a_is_instruction : PySem.W.nsIn K mainGlobals "is_instruction" = some (some (.ref f_is_instruction)))
    (l_is_instruction : K.lookup f_is_instruction = some ⟨oc_is_instruction, od_is_instruction, .func (PySem.W.fnOf "is_instruction" "is_instruction" (defArgs s_is_instruction) (defBody s_is_instruction) (defScope s_is_instruction) .none kV_is_instruction dc_is_instruction pm_is_instruction an_is_instruction cd_is_instruction ct_is_instruction), sl_is_instruction⟩)
    (c_is_instruction : PySem.W.codeIn K cd_is_instruction "is_instruction" = true)
    (k_is_instruction : PySem.W.keepIn K (.ref f_is_instruction) = true)
    (a_filled : PySem.W.nsIn K mainGlobals "filled" = some (some (.ref f_filled)))
    (l_filled : K.lookup f_filled = some ⟨oc_filled, od_filled, .func (PySem.W.fnOf "filled" "filled" (defArgs s_filled) (defBody s_filled) (defScope s_filled) .none kV_filled dc_filled pm_filled an_filled cd_filled ct_filled), sl_filled⟩)
    (c_filled : PySem.W.codeIn K cd_filled "filled" = true)
    (k_filled : PySem.W.keepIn K (.ref f_filled) = true)
    (a__law_cell : PySem.W.nsIn K mainGlobals "_law_cell" = some (some (.ref f__law_cell)))
    (l__law_cell : K.lookup f__law_cell = some ⟨oc__law_cell, od__law_cell, .func (PySem.W.fnOf "_law_cell" "_law_cell" (defArgs s__law_cell) (defBody s__law_cell) (defScope s__law_cell) .none kV__law_cell dc__law_cell pm__law_cell an__law_cell cd__law_cell ct__law_cell), sl__law_cell⟩)
    (c__law_cell : PySem.W.codeIn K cd__law_cell "_law_cell" = true)
    (k__law_cell : PySem.W.keepIn K (.ref f__law_cell) = true)
    (a__law_numbers : PySem.W.nsIn K mainGlobals "_law_numbers" = some (some (.ref f__law_numbers)))
    (l__law_numbers : K.lookup f__law_numbers = some ⟨oc__law_numbers, od__law_numbers, .func (PySem.W.fnOf "_law_numbers" "_law_numbers" (defArgs s__law_numbers) (defBody s__law_numbers) (defScope s__law_numbers) .none kV__law_numbers dc__law_numbers pm__law_numbers an__law_numbers cd__law_numbers ct__law_numbers), sl__law_numbers⟩)
    (c__law_numbers : PySem.W.codeIn K cd__law_numbers "_law_numbers" = true)
    (k__law_numbers : PySem.W.keepIn K (.ref f__law_numbers) = true)
    (a__law_pick : PySem.W.nsIn K mainGlobals "_law_pick" = some (some (.ref f__law_pick)))
    (l__law_pick : K.lookup f__law_pick = some ⟨oc__law_pick, od__law_pick, .func (PySem.W.fnOf "_law_pick" "_law_pick" (defArgs s__law_pick) (defBody s__law_pick) (defScope s__law_pick) .none kV__law_pick dc__law_pick pm__law_pick an__law_pick cd__law_pick ct__law_pick), sl__law_pick⟩)
    (c__law_pick : PySem.W.codeIn K cd__law_pick "_law_pick" = true)
    (k__law_pick : PySem.W.keepIn K (.ref f__law_pick) = true)
    (a__law_template : PySem.W.nsIn K mainGlobals "_law_template" = some (some (.ref f__law_template)))
    (l__law_template : K.lookup f__law_template = some ⟨oc__law_template, od__law_template, .func (PySem.W.fnOf "_law_template" "_law_template" (defArgs s__law_template) (defBody s__law_template) (defScope s__law_template) .none kV__law_template dc__law_template pm__law_template an__law_template cd__law_template ct__law_template), sl__law_template⟩)
    (c__law_template : PySem.W.codeIn K cd__law_template "_law_template" = true)
    (k__law_template : PySem.W.keepIn K (.ref f__law_template) = true)
    (a__law_good : PySem.W.nsIn K mainGlobals "_law_good" = some (some (.ref f__law_good)))
    (l__law_good : K.lookup f__law_good = some ⟨oc__law_good, od__law_good, .func (PySem.W.fnOf "_law_good" "_law_good" (defArgs s__law_good) (defBody s__law_good) (defScope s__law_good) .none kV__law_good dc__law_good pm__law_good an__law_good cd__law_good ct__law_good), sl__law_good⟩)
    (c__law_good : PySem.W.codeIn K cd__law_good "_law_good" = true)
    (k__law_good : PySem.W.keepIn K (.ref f__law_good) = true)
    (a__law_bad : PySem.W.nsIn K mainGlobals "_law_bad" = some (some (.ref f__law_bad)))
    (l__law_bad : K.lookup f__law_bad = some ⟨oc__law_bad, od__law_bad, .func (PySem.W.fnOf "_law_bad" "_law_bad" (defArgs s__law_bad) (defBody s__law_bad) (defScope s__law_bad) .none kV__law_bad dc__law_bad pm__law_bad an__law_bad cd__law_bad ct__law_bad), sl__law_bad⟩)
    (c__law_bad : PySem.W.codeIn K cd__law_bad "_law_bad" = true)
    (k__law_bad : PySem.W.keepIn K (.ref f__law_bad) = true)
    (a__law_filled : PySem.W.nsIn K mainGlobals "_law_filled" = some (some (.ref f__law_filled)))
    (l__law_filled : K.lookup f__law_filled = some ⟨oc__law_filled, od__law_filled, .func (PySem.W.fnOf "_law_filled" "_law_filled" (defArgs s__law_filled) (defBody s__law_filled) (defScope s__law_filled) .none kV__law_filled dc__law_filled pm__law_filled an__law_filled cd__law_filled ct__law_filled), sl__law_filled⟩)
    (c__law_filled : PySem.W.codeIn K cd__law_filled "_law_filled" = true)
    (k__law_filled : PySem.W.keepIn K (.ref f__law_filled) = true)
    (a__law_far : PySem.W.nsIn K mainGlobals "_law_far" = some (some (.ref f__law_far)))
    (l__law_far : K.lookup f__law_far = some ⟨oc__law_far, od__law_far, .func (PySem.W.fnOf "_law_far" "_law_far" (defArgs s__law_far) (defBody s__law_far) (defScope s__law_far) .none kV__law_far dc__law_far pm__law_far an__law_far cd__law_far ct__law_far), sl__law_far⟩)
    (c__law_far : PySem.W.codeIn K cd__law_far "_law_far" = true)
    (k__law_far : PySem.W.keepIn K (.ref f__law_far) = true)
    (a_law : PySem.W.nsIn K mainGlobals "law" = some (some (.ref f_law)))
    (l_law : K.lookup f_law = some ⟨oc_law, od_law, .func (PySem.W.fnOf "law" "law" (defArgs s_law) (defBody s_law) (defScope s_law) .none kV_law dc_law pm_law an_law cd_law ct_law), sl_law⟩)
    (c_law : PySem.W.codeIn K cd_law "law" = true)
    (k_law : PySem.W.keepIn K (.ref f_law) = true)
    (z_abs : PySem.W.nsIn K mainGlobals "abs" = some none)
    (z_all : PySem.W.nsIn K mainGlobals "all" = some none)
    (z_int : PySem.W.nsIn K mainGlobals "int" = some none)
    (z_isinstance : PySem.W.nsIn K mainGlobals "isinstance" = some none)
    (z_len : PySem.W.nsIn K mainGlobals "len" = some none)
    (z_list : PySem.W.nsIn K mainGlobals "list" = some none)
    (z_max : PySem.W.nsIn K mainGlobals "max" = some none)
    (z_min : PySem.W.nsIn K mainGlobals "min" = some none)
    (z_range : PySem.W.nsIn K mainGlobals "range" = some none)
    (z_str : PySem.W.nsIn K mainGlobals "str" = some none)
    (z_tuple : PySem.W.nsIn K mainGlobals "tuple" = some none)
    (z_zip : PySem.W.nsIn K mainGlobals "zip" = some none)
    (v_LETTERS : PySem.W.nsIn K mainGlobals "LETTERS" = some (some (.str (sS [97, 98, 99, 100, 101, 102, 103, 104, 105, 106, 107, 108, 109, 110, 111, 112, 113, 114, 115, 116, 117, 118, 119, 120, 121, 122, 65, 66, 67, 68, 69, 70, 71, 72, 73, 74, 75, 76, 77, 78, 79, 80, 81, 82, 83, 84, 85, 86, 87, 88, 89, 90]) tk_LETTERS)))
    (v_MAX_NAME : PySem.W.nsIn K mainGlobals "MAX_NAME" = some (some (.int 12 tk_MAX_NAME)))
    (v_MAX_NUMBER : PySem.W.nsIn K mainGlobals "MAX_NUMBER" = some (some (.int 1000000000000 tk_MAX_NUMBER)))
    (v_RELATIONS : PySem.W.nsIn K mainGlobals "RELATIONS" = some (some (.ref A_RELATIONS)))
    (tl_RELATIONS : K.lookup A_RELATIONS = some ⟨.type "tuple", od_RELATIONS, .seq its_RELATIONS n_RELATIONS, sl_RELATIONS⟩)
    (ts_RELATIONS : its_RELATIONS.size ≤ 1000)
    (tt_RELATIONS : KVs its_RELATIONS.toList [.str [108, 101, 115, 115], .str [109, 111, 115, 116], .str [115, 97, 109, 101]])
    (v_SHAPES : PySem.W.nsIn K mainGlobals "SHAPES" = some (some (.ref A_SHAPES)))
    (dl_SHAPES : K.lookup A_SHAPES = some ⟨.type "dict", none, .dict es_SHAPES n_SHAPES, #[]⟩)
    (dk_SHAPES : PySem.W.KeysLit w.params es_SHAPES.toList)
    (dh_SHAPES : (A_SHAPES == sysModules) = false)
    (de_SHAPES : KEs es_SHAPES.toList tb_SHAPES)
    (v_SIGNS : PySem.W.nsIn K mainGlobals "SIGNS" = some (some (.str (sS [97, 98, 99, 100, 101, 102, 103, 104, 105, 106, 107, 108, 109, 110, 111, 112, 113, 114, 115, 116, 117, 118, 119, 120, 121, 122, 65, 66, 67, 68, 69, 70, 71, 72, 73, 74, 75, 76, 77, 78, 79, 80, 81, 82, 83, 84, 85, 86, 87, 88, 89, 90, 48, 49, 50, 51, 52, 53, 54, 55, 56, 57]) tk_SIGNS)))
    (v_WORDS : PySem.W.nsIn K mainGlobals "WORDS" = some (some (.ref A_WORDS)))
    (tl_WORDS : K.lookup A_WORDS = some ⟨.type "tuple", od_WORDS, .seq its_WORDS n_WORDS, sl_WORDS⟩)
    (ts_WORDS : its_WORDS.size ≤ 1000)
    (tt_WORDS : KVs its_WORDS.toList [.str [100, 101, 102], .str [119, 97, 105, 116], .str [105, 102], .str [101, 108, 115, 101], .str [97, 115, 107]])
    : ∃ fd : FuncData, (∀ (s : Shared) (v : Value), BindsTo s fd ⟨[v], []⟩ [("script", v)]) ∧ ∀ base : Heap, K.In base → base.Ns mainGlobals mg → FnOk PySem.Challenge.rw_headrace_k40_instructions.prog w K mg base (L2.CX PySem.Challenge.rw_headrace_k40_instructions.prog w) 108 fa fd ["script"] (spLaw 63 K) := by
  have e := hfa.symm.trans (PySem.W.mg_of X G a_law)
  cases e
  have F_is_name := fun_mk (st := s_is_name) l_is_name c_is_name k_is_name
  have b_is_name := F_is_name.binds (ps := ["text"]) fun _ _ _ _ _ _ us hl => match us, hl with | [_], _ => rfl
  have F_is_index := fun_mk (st := s_is_index) l_is_index c_is_index k_is_index
  have b_is_index := F_is_index.binds (ps := ["value"]) fun _ _ _ _ _ _ us hl => match us, hl with | [_], _ => rfl
  have F_is_number := fun_mk (st := s_is_number) l_is_number c_is_number k_is_number
  have b_is_number := F_is_number.binds (ps := ["value"]) fun _ _ _ _ _ _ us hl => match us, hl with | [_], _ => rfl
  have F_is_word := fun_mk (st := s_is_word) l_is_word c_is_word k_is_word
  have b_is_word := F_is_word.binds (ps := ["value"]) fun _ _ _ _ _ _ us hl => match us, hl with | [_], _ => rfl
  have F_is_template := fun_mk (st := s_is_template) l_is_template c_is_template k_is_template
  have b_is_template := F_is_template.binds (ps := ["value"]) fun _ _ _ _ _ _ us hl => match us, hl with | [_], _ => rfl
  have F_is_key := fun_mk (st := s_is_key) l_is_key c_is_key k_is_key
  have b_is_key := F_is_key.binds (ps := ["value"]) fun _ _ _ _ _ _ us hl => match us, hl with | [_], _ => rfl
  have F_is_case := fun_mk (st := s_is_case) l_is_case c_is_case k_is_case
  have b_is_case := F_is_case.binds (ps := ["value"]) fun _ _ _ _ _ _ us hl => match us, hl with | [_], _ => rfl
  have F_fit_all := fun_mk (st := s_fit_all) l_fit_all c_fit_all k_fit_all
  have b_fit_all := F_fit_all.binds (ps := ["kind", "values"]) fun _ _ _ _ _ _ us hl => match us, hl with | [_, _], _ => rfl
  have F_fits := fun_mk (st := s_fits) l_fits c_fits k_fits
  have b_fits := F_fits.binds (ps := ["kind", "value"]) fun _ _ _ _ _ _ us hl => match us, hl with | [_, _], _ => rfl
  have F_is_instruction := fun_mk (st := s_is_instruction) l_is_instruction c_is_instruction k_is_instruction
  have b_is_instruction := F_is_instruction.binds (ps := ["value"]) fun _ _ _ _ _ _ us hl => match us, hl with | [_], _ => rfl
  have F_filled := fun_mk (st := s_filled) l_filled c_filled k_filled
  have b_filled := F_filled.binds (ps := ["template", "registers"]) fun _ _ _ _ _ _ us hl => match us, hl with | [_, _], _ => rfl
  have F__law_cell := fun_mk (st := s__law_cell) l__law_cell c__law_cell k__law_cell
  have b__law_cell := F__law_cell.binds (ps := ["script", "k"]) fun _ _ _ _ _ _ us hl => match us, hl with | [_, _], _ => rfl
  have F__law_numbers := fun_mk (st := s__law_numbers) l__law_numbers c__law_numbers k__law_numbers
  have b__law_numbers := F__law_numbers.binds (ps := ["cell", "k", "many"]) fun _ _ _ _ _ _ us hl => match us, hl with | [_, _, _], _ => rfl
  have F__law_pick := fun_mk (st := s__law_pick) l__law_pick c__law_pick k__law_pick
  have b__law_pick := F__law_pick.binds (ps := ["numbers", "at"]) fun _ _ _ _ _ _ us hl => match us, hl with | [_, _], _ => rfl
  have F__law_template := fun_mk (st := s__law_template) l__law_template c__law_template k__law_template
  have b__law_template := F__law_template.binds (ps := ["numbers", "at", "depth"]) fun _ _ _ _ _ _ us hl => match us, hl with | [_, _, _], _ => rfl
  have F__law_good := fun_mk (st := s__law_good) l__law_good c__law_good k__law_good
  have b__law_good := F__law_good.binds (ps := ["numbers", "at"]) fun _ _ _ _ _ _ us hl => match us, hl with | [_, _], _ => rfl
  have F__law_bad := fun_mk (st := s__law_bad) l__law_bad c__law_bad k__law_bad
  have b__law_bad := F__law_bad.binds (ps := ["one"]) fun _ _ _ _ _ _ us hl => match us, hl with | [_], _ => rfl
  have F__law_filled := fun_mk (st := s__law_filled) l__law_filled c__law_filled k__law_filled
  have b__law_filled := F__law_filled.binds (ps := ["template", "held"]) fun _ _ _ _ _ _ us hl => match us, hl with | [_, _], _ => rfl
  have F__law_far := fun_mk (st := s__law_far) l__law_far c__law_far k__law_far
  have b__law_far := F__law_far.binds (ps := ["numbers"]) fun _ _ _ _ _ _ us hl => match us, hl with | [_], _ => rfl
  have F_law := fun_mk (st := s_law) l_law c_law k_law
  have b_law := F_law.binds (ps := ["script"]) fun _ _ _ _ _ _ us hl => match us, hl with | [_], _ => rfl
  let a : Ad := { f_is_name := f_is_name, d_is_name := PySem.W.fnOf "is_name" "is_name" (defArgs s_is_name) (defBody s_is_name) (defScope s_is_name) .none kV_is_name dc_is_name pm_is_name an_is_name cd_is_name ct_is_name, f_is_index := f_is_index, d_is_index := PySem.W.fnOf "is_index" "is_index" (defArgs s_is_index) (defBody s_is_index) (defScope s_is_index) .none kV_is_index dc_is_index pm_is_index an_is_index cd_is_index ct_is_index, f_is_number := f_is_number, d_is_number := PySem.W.fnOf "is_number" "is_number" (defArgs s_is_number) (defBody s_is_number) (defScope s_is_number) .none kV_is_number dc_is_number pm_is_number an_is_number cd_is_number ct_is_number, f_is_word := f_is_word, d_is_word := PySem.W.fnOf "is_word" "is_word" (defArgs s_is_word) (defBody s_is_word) (defScope s_is_word) .none kV_is_word dc_is_word pm_is_word an_is_word cd_is_word ct_is_word, f_is_template := f_is_template, d_is_template := PySem.W.fnOf "is_template" "is_template" (defArgs s_is_template) (defBody s_is_template) (defScope s_is_template) .none kV_is_template dc_is_template pm_is_template an_is_template cd_is_template ct_is_template, f_is_key := f_is_key, d_is_key := PySem.W.fnOf "is_key" "is_key" (defArgs s_is_key) (defBody s_is_key) (defScope s_is_key) .none kV_is_key dc_is_key pm_is_key an_is_key cd_is_key ct_is_key, f_is_case := f_is_case, d_is_case := PySem.W.fnOf "is_case" "is_case" (defArgs s_is_case) (defBody s_is_case) (defScope s_is_case) .none kV_is_case dc_is_case pm_is_case an_is_case cd_is_case ct_is_case, f_fit_all := f_fit_all, d_fit_all := PySem.W.fnOf "fit_all" "fit_all" (defArgs s_fit_all) (defBody s_fit_all) (defScope s_fit_all) .none kV_fit_all dc_fit_all pm_fit_all an_fit_all cd_fit_all ct_fit_all, f_fits := f_fits, d_fits := PySem.W.fnOf "fits" "fits" (defArgs s_fits) (defBody s_fits) (defScope s_fits) .none kV_fits dc_fits pm_fits an_fits cd_fits ct_fits, f_is_instruction := f_is_instruction, d_is_instruction := PySem.W.fnOf "is_instruction" "is_instruction" (defArgs s_is_instruction) (defBody s_is_instruction) (defScope s_is_instruction) .none kV_is_instruction dc_is_instruction pm_is_instruction an_is_instruction cd_is_instruction ct_is_instruction, f_filled := f_filled, d_filled := PySem.W.fnOf "filled" "filled" (defArgs s_filled) (defBody s_filled) (defScope s_filled) .none kV_filled dc_filled pm_filled an_filled cd_filled ct_filled, f__law_cell := f__law_cell, d__law_cell := PySem.W.fnOf "_law_cell" "_law_cell" (defArgs s__law_cell) (defBody s__law_cell) (defScope s__law_cell) .none kV__law_cell dc__law_cell pm__law_cell an__law_cell cd__law_cell ct__law_cell, f__law_numbers := f__law_numbers, d__law_numbers := PySem.W.fnOf "_law_numbers" "_law_numbers" (defArgs s__law_numbers) (defBody s__law_numbers) (defScope s__law_numbers) .none kV__law_numbers dc__law_numbers pm__law_numbers an__law_numbers cd__law_numbers ct__law_numbers, f__law_pick := f__law_pick, d__law_pick := PySem.W.fnOf "_law_pick" "_law_pick" (defArgs s__law_pick) (defBody s__law_pick) (defScope s__law_pick) .none kV__law_pick dc__law_pick pm__law_pick an__law_pick cd__law_pick ct__law_pick, f__law_template := f__law_template, d__law_template := PySem.W.fnOf "_law_template" "_law_template" (defArgs s__law_template) (defBody s__law_template) (defScope s__law_template) .none kV__law_template dc__law_template pm__law_template an__law_template cd__law_template ct__law_template, f__law_good := f__law_good, d__law_good := PySem.W.fnOf "_law_good" "_law_good" (defArgs s__law_good) (defBody s__law_good) (defScope s__law_good) .none kV__law_good dc__law_good pm__law_good an__law_good cd__law_good ct__law_good, f__law_bad := f__law_bad, d__law_bad := PySem.W.fnOf "_law_bad" "_law_bad" (defArgs s__law_bad) (defBody s__law_bad) (defScope s__law_bad) .none kV__law_bad dc__law_bad pm__law_bad an__law_bad cd__law_bad ct__law_bad, f__law_filled := f__law_filled, d__law_filled := PySem.W.fnOf "_law_filled" "_law_filled" (defArgs s__law_filled) (defBody s__law_filled) (defScope s__law_filled) .none kV__law_filled dc__law_filled pm__law_filled an__law_filled cd__law_filled ct__law_filled, f__law_far := f__law_far, d__law_far := PySem.W.fnOf "_law_far" "_law_far" (defArgs s__law_far) (defBody s__law_far) (defScope s__law_far) .none kV__law_far dc__law_far pm__law_far an__law_far cd__law_far ct__law_far, f_law := fa, d_law := PySem.W.fnOf "law" "law" (defArgs s_law) (defBody s_law) (defScope s_law) .none kV_law dc_law pm_law an_law cd_law ct_law }
  have t : Txt a K PySem.Challenge.rw_headrace_k40_instructions.prog mg w := {
    F_is_name := F_is_name,
    g_is_name := PySem.W.mg_of X G a_is_name,
    k_is_name := k_is_name,
    b_is_name := b_is_name,
    F_is_index := F_is_index,
    g_is_index := PySem.W.mg_of X G a_is_index,
    k_is_index := k_is_index,
    b_is_index := b_is_index,
    F_is_number := F_is_number,
    g_is_number := PySem.W.mg_of X G a_is_number,
    k_is_number := k_is_number,
    b_is_number := b_is_number,
    F_is_word := F_is_word,
    g_is_word := PySem.W.mg_of X G a_is_word,
    k_is_word := k_is_word,
    b_is_word := b_is_word,
    F_is_template := F_is_template,
    g_is_template := PySem.W.mg_of X G a_is_template,
    k_is_template := k_is_template,
    b_is_template := b_is_template,
    F_is_key := F_is_key,
    g_is_key := PySem.W.mg_of X G a_is_key,
    k_is_key := k_is_key,
    b_is_key := b_is_key,
    F_is_case := F_is_case,
    g_is_case := PySem.W.mg_of X G a_is_case,
    k_is_case := k_is_case,
    b_is_case := b_is_case,
    F_fit_all := F_fit_all,
    g_fit_all := PySem.W.mg_of X G a_fit_all,
    k_fit_all := k_fit_all,
    b_fit_all := b_fit_all,
    F_fits := F_fits,
    g_fits := PySem.W.mg_of X G a_fits,
    k_fits := k_fits,
    b_fits := b_fits,
    F_is_instruction := F_is_instruction,
    g_is_instruction := PySem.W.mg_of X G a_is_instruction,
    k_is_instruction := k_is_instruction,
    b_is_instruction := b_is_instruction,
    F_filled := F_filled,
    g_filled := PySem.W.mg_of X G a_filled,
    k_filled := k_filled,
    b_filled := b_filled,
    F__law_cell := F__law_cell,
    g__law_cell := PySem.W.mg_of X G a__law_cell,
    k__law_cell := k__law_cell,
    b__law_cell := b__law_cell,
    F__law_numbers := F__law_numbers,
    g__law_numbers := PySem.W.mg_of X G a__law_numbers,
    k__law_numbers := k__law_numbers,
    b__law_numbers := b__law_numbers,
    F__law_pick := F__law_pick,
    g__law_pick := PySem.W.mg_of X G a__law_pick,
    k__law_pick := k__law_pick,
    b__law_pick := b__law_pick,
    F__law_template := F__law_template,
    g__law_template := PySem.W.mg_of X G a__law_template,
    k__law_template := k__law_template,
    b__law_template := b__law_template,
    F__law_good := F__law_good,
    g__law_good := PySem.W.mg_of X G a__law_good,
    k__law_good := k__law_good,
    b__law_good := b__law_good,
    F__law_bad := F__law_bad,
    g__law_bad := PySem.W.mg_of X G a__law_bad,
    k__law_bad := k__law_bad,
    b__law_bad := b__law_bad,
    F__law_filled := F__law_filled,
    g__law_filled := PySem.W.mg_of X G a__law_filled,
    k__law_filled := k__law_filled,
    b__law_filled := b__law_filled,
    F__law_far := F__law_far,
    g__law_far := PySem.W.mg_of X G a__law_far,
    k__law_far := k__law_far,
    b__law_far := b__law_far,
    F_law := F_law,
    g_law := PySem.W.mg_of X G a_law,
    k_law := k_law,
    b_law := b_law,
    z_abs := PySem.W.mg_none_of X G z_abs,
    z_all := PySem.W.mg_none_of X G z_all,
    z_int := PySem.W.mg_none_of X G z_int,
    z_isinstance := PySem.W.mg_none_of X G z_isinstance,
    z_len := PySem.W.mg_none_of X G z_len,
    z_list := PySem.W.mg_none_of X G z_list,
    z_max := PySem.W.mg_none_of X G z_max,
    z_min := PySem.W.mg_none_of X G z_min,
    z_range := PySem.W.mg_none_of X G z_range,
    z_str := PySem.W.mg_none_of X G z_str,
    z_tuple := PySem.W.mg_none_of X G z_tuple,
    z_zip := PySem.W.mg_none_of X G z_zip,
    c_LETTERS := ⟨_, PySem.W.mg_of X G v_LETTERS⟩,
    c_MAX_NAME := ⟨_, PySem.W.mg_of X G v_MAX_NAME⟩,
    c_MAX_NUMBER := ⟨_, PySem.W.mg_of X G v_MAX_NUMBER⟩,
    c_RELATIONS := ⟨_, PySem.W.mg_of X G v_RELATIONS, topT_mk tl_RELATIONS ts_RELATIONS tt_RELATIONS⟩,
    c_SHAPES := ⟨_, PySem.W.mg_of X G v_SHAPES, topD_mk dl_SHAPES dk_SHAPES dh_SHAPES de_SHAPES⟩,
    c_SIGNS := ⟨_, PySem.W.mg_of X G v_SIGNS⟩,
    c_WORDS := ⟨_, PySem.W.mg_of X G v_WORDS, topT_mk tl_WORDS ts_WORDS tt_WORDS⟩ }
  exact ⟨a.d_law, fun s v => .of_eq rfl, fun base _ _ => (ok_law t).imp fun vs H Q E => law_imp (T := mkT a K) law_true⟩
theorem walk {q : Program} {loose : List Str} {XP : (Str → Option Value) → Heap → Prop} {YP : World → Heap → Prop} {d : DefRec} {K : Params → PySem.W.Frag} (hdf : d.params.defaults = [])
    (hY : ∀ (w : World) (h : Heap), YP w h → (K w.params).In h)
    (F : ∀ (w : World) (mg : Str → Option Value) (fa : Addr) (h : Heap), (K w.params).In h → h.Ns mainGlobals mg → mg d.name = some (.ref fa) →
      ∃ fd : FuncData, (∀ (s : Shared) (u : Value), BindsTo s fd ⟨[u], []⟩ [("script", u)]) ∧ ∀ base : Heap, (K w.params).In base → base.Ns mainGlobals mg → FnOk PySem.Challenge.rw_headrace_k40_instructions.prog w (K w.params) mg base (L2.CX PySem.Challenge.rw_headrace_k40_instructions.prog w) 108 fa fd ["script"] (spLaw 63 (K w.params))) :
    PySem.W.WalkO q loose XP YP PySem.Challenge.rw_headrace_k40_instructions.row.toRowW d [] (fun f vs => PySem.call f vs) :=
  L2.walk_of (l := PySem.Challenge.rw_headrace_k40_instructions) (n := 63) (k := 108) (x := "script") (CX := fun w => L2.CX PySem.Challenge.rw_headrace_k40_instructions.prog w) (sp := fun w => spLaw 63 (K w.params)) rfl (by decide) hdf ⟨rfl, by decide, by decide⟩ hY F (fun _ _ a ns hl _ hS => ⟨a, ns, rfl, hS, hl, fun _ => rfl⟩) fun w H s e s' z => passL_end z
end Lw
open PySem PySem.W PyProof.Rows
set_option maxRecDepth 100000 in
set_option maxHeartbeats 0 in
theorem PySem.Challenge.cw_headrace_k40_instructions_holds : PySem.Challenge.rw_headrace_k40_instructions.Holds := by
  w_on; o_law; k_head; (case hw => w_witness2)
  k_fill
  refine Lw.walk rfl (fun w h Y => PySem.W.kIn_of Y) ?F
  case F =>
    intro w mg fa h KX G hmg
    refine' Lw.all_mk KX G hmg ?a_is_name ?l_is_name ?c_is_name ?k_is_name ?a_is_index ?l_is_index ?c_is_index ?k_is_index ?a_is_number ?l_is_number ?c_is_number ?k_is_number ?a_is_word ?l_is_word ?c_is_word ?k_is_word ?a_is_template ?l_is_template ?c_is_template ?k_is_template ?a_is_key ?l_is_key ?c_is_key ?k_is_key ?a_is_case ?l_is_case ?c_is_case ?k_is_case ?a_fit_all ?l_fit_all ?c_fit_all ?k_fit_all ?a_fits ?l_fits ?c_fits ?k_fits ?a_is_instruction ?l_is_instruction ?c_is_instruction ?k_is_instruction ?a_filled ?l_filled ?c_filled ?k_filled ?a__law_cell ?l__law_cell ?c__law_cell ?k__law_cell ?a__law_numbers ?l__law_numbers ?c__law_numbers ?k__law_numbers ?a__law_pick ?l__law_pick ?c__law_pick ?k__law_pick ?a__law_template ?l__law_template ?c__law_template ?k__law_template ?a__law_good ?l__law_good ?c__law_good ?k__law_good ?a__law_bad ?l__law_bad ?c__law_bad ?k__law_bad ?a__law_filled ?l__law_filled ?c__law_filled ?k__law_filled ?a__law_far ?l__law_far ?c__law_far ?k__law_far ?a_law ?l_law ?c_law ?k_law ?z_abs ?z_all ?z_int ?z_isinstance ?z_len ?z_list ?z_max ?z_min ?z_range ?z_str ?z_tuple ?z_zip ?v_LETTERS ?v_MAX_NAME ?v_MAX_NUMBER ?v_RELATIONS ?tl_RELATIONS ?ts_RELATIONS ?tt_RELATIONS ?v_SHAPES ?dl_SHAPES ?dk_SHAPES ?dh_SHAPES ?de_SHAPES ?v_SIGNS ?v_WORDS ?tl_WORDS ?ts_WORDS ?tt_WORDS
    (case a_is_name => k_is)
    (case l_is_name => k_is)
    (case c_is_name => k_is)
    (case k_is_name => k_is)
    (case a_is_index => k_is)
    (case l_is_index => k_is)
    (case c_is_index => k_is)
    (case k_is_index => k_is)
    (case a_is_number => k_is)
    (case l_is_number => k_is)
    (case c_is_number => k_is)
    (case k_is_number => k_is)
    (case a_is_word => k_is)
    (case l_is_word => k_is)
    (case c_is_word => k_is)
    (case k_is_word => k_is)
    (case a_is_template => k_is)
    (case l_is_template => k_is)
    (case c_is_template => k_is)
    (case k_is_template => k_is)
    (case a_is_key => k_is)
    (case l_is_key => k_is)
    (case c_is_key => k_is)
    (case k_is_key => k_is)
    (case a_is_case => k_is)
    (case l_is_case => k_is)
    (case c_is_case => k_is)
    (case k_is_case => k_is)
    (case a_fit_all => k_is)
    (case l_fit_all => k_is)
    (case c_fit_all => k_is)
    (case k_fit_all => k_is)
    (case a_fits => k_is)
    (case l_fits => k_is)
    (case c_fits => k_is)
    (case k_fits => k_is)
    (case a_is_instruction => k_is)
    (case l_is_instruction => k_is)
    (case c_is_instruction => k_is)
    (case k_is_instruction => k_is)
    (case a_filled => k_is)
    (case l_filled => k_is)
    (case c_filled => k_is)
    (case k_filled => k_is)
    (case a__law_cell => k_is)
    (case l__law_cell => k_is)
    (case c__law_cell => k_is)
    (case k__law_cell => k_is)
    (case a__law_numbers => k_is)
    (case l__law_numbers => k_is)
    (case c__law_numbers => k_is)
    (case k__law_numbers => k_is)
    (case a__law_pick => k_is)
    (case l__law_pick => k_is)
    (case c__law_pick => k_is)
    (case k__law_pick => k_is)
    (case a__law_template => k_is)
    (case l__law_template => k_is)
    (case c__law_template => k_is)
    (case k__law_template => k_is)
    (case a__law_good => k_is)
    (case l__law_good => k_is)
    (case c__law_good => k_is)
    (case k__law_good => k_is)
    (case a__law_bad => k_is)
    (case l__law_bad => k_is)
    (case c__law_bad => k_is)
    (case k__law_bad => k_is)
    (case a__law_filled => k_is)
    (case l__law_filled => k_is)
    (case c__law_filled => k_is)
    (case k__law_filled => k_is)
    (case a__law_far => k_is)
    (case l__law_far => k_is)
    (case c__law_far => k_is)
    (case k__law_far => k_is)
    (case a_law => k_is)
    (case l_law => k_is)
    (case c_law => k_is)
    (case k_law => k_is)
    (case z_abs => k_is)
    (case z_all => k_is)
    (case z_int => k_is)
    (case z_isinstance => k_is)
    (case z_len => k_is)
    (case z_list => k_is)
    (case z_max => k_is)
    (case z_min => k_is)
    (case z_range => k_is)
    (case z_str => k_is)
    (case z_tuple => k_is)
    (case z_zip => k_is)
    (case v_LETTERS => k_is)
    (case v_MAX_NAME => k_is)
    (case v_MAX_NUMBER => k_is)
    (case v_RELATIONS => k_is)
    (case tl_RELATIONS => k_is)
    (case ts_RELATIONS => first | decide | simp)
    (case tt_RELATIONS => exact .cons (.str (s := [108, 101, 115, 115]) (by decide +kernel)) (.cons (.str (s := [109, 111, 115, 116]) (by decide +kernel)) (.cons (.str (s := [115, 97, 109, 101]) (by decide +kernel)) (.nil))))
    (case v_SHAPES => k_is)
    (case dl_SHAPES => k_is)
    (case dk_SHAPES => exact ⟨⟨_, _, rfl, rfl⟩, ⟨⟨_, _, rfl, rfl⟩, ⟨⟨_, _, rfl, rfl⟩, ⟨⟨_, _, rfl, rfl⟩, ⟨⟨_, _, rfl, rfl⟩, ⟨⟨_, _, rfl, rfl⟩, ⟨⟨_, _, rfl, rfl⟩, ⟨⟨_, _, rfl, rfl⟩, ⟨⟨_, _, rfl, rfl⟩, ⟨⟨_, _, rfl, rfl⟩, ⟨⟨_, _, rfl, rfl⟩, ⟨⟨_, _, rfl, rfl⟩, ⟨⟨_, _, rfl, rfl⟩, ⟨⟨_, _, rfl, rfl⟩, ⟨⟨_, _, rfl, rfl⟩, trivial⟩⟩⟩⟩⟩⟩⟩⟩⟩⟩⟩⟩⟩⟩⟩)
    (case dh_SHAPES => first | rfl | decide)
    (case de_SHAPES => exact .cons (k := [112, 97, 114, 116, 115]) (.str (s := [105, 105, 105]) (by decide +kernel)) (.cons (k := [110, 117, 109, 98, 101, 114]) (.str (s := [105, 105, 98]) (by decide +kernel)) (.cons (k := [115, 101, 116]) (.str (s := [105, 110]) (by decide +kernel)) (.cons (k := [97, 100, 100]) (.str (s := [105, 105, 105]) (by decide +kernel)) (.cons (k := [115, 117, 98]) (.str (s := [105, 105, 105]) (by decide +kernel)) (.cons (k := [109, 117, 108]) (.str (s := [105, 105, 105]) (by decide +kernel)) (.cons (k := [117, 110, 108, 101, 115, 115]) (.str (s := [119, 105, 105, 105]) (by decide +kernel)) (.cons (k := [110, 101, 119]) (.str (s := [105, 105, 105]) (by decide +kernel)) (.cons (k := [99, 111, 112, 121]) (.str (s := [105, 109]) (by decide +kernel)) (.cons (k := [100, 114, 111, 112]) (.str (s := [105]) (by decide +kernel)) (.cons (k := [116, 101, 108, 108]) (.str (s := [105, 116]) (by decide +kernel)) (.cons (k := [103, 111]) (.str (s := [105, 99, 115, 108]) (by decide +kernel)) (.cons (k := [115, 117, 109]) (.str (s := [105, 105, 108, 105]) (by decide +kernel)) (.cons (k := [101, 110, 100]) (.str (s := []) (by decide +kernel)) (.cons (k := [108, 111, 111, 107]) (.str (s := [105, 105, 98, 107, 106]) (by decide +kernel)) (.nil))))))))))))))))
    (case v_SIGNS => k_is)
    (case v_WORDS => k_is)
    (case tl_WORDS => k_is)
    (case ts_WORDS => first | decide | simp)
    (case tt_WORDS => exact .cons (.str (s := [100, 101, 102]) (by decide +kernel)) (.cons (.str (s := [119, 97, 105, 116]) (by decide +kernel)) (.cons (.str (s := [105, 102]) (by decide +kernel)) (.cons (.str (s := [101, 108, 115, 101]) (by decide +kernel)) (.cons (.str (s := [97, 115, 107]) (by decide +kernel)) (.nil))))))
