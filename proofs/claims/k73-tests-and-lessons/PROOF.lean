import PyProof.Rows.All
import Wide.All
import OpenK.AllK
import Wide.FinOn
import HandS.ForMost
import HandS.ForExc
import HandS.CallSlots
import HandS.TupAny
import HandS.Deep
import KE.DataAny
import HandS.Defaults
import HandS.ExcInit
import HandS.Nested
import KE.KExcSuper
import KE.KSuper
import HandS.ExcOwn
import HandS.ExcField
import HandS.WordsExc
import HandS.Head0
import HandS.Head1
import HandS.Head2
import HandS.HeadEnd
import HandS.HeadHook1
import HandS.HeadHook2
import KE.KIsAll
import PySem.Challenge.RW_columnwright_k73_tests_and_lessons
set_option Elab.async false
set_option linter.all false
/-! EvA: trees, slots, the small language and its evaluator. -/
namespace Ev
open PySem

/-- a value that is not changed any more -/
inductive T where
  | non
  | bl (b : Bool)
  | int (i : Int)
  | str (s : Str)
  | tup (xs : List T)
  | lst (xs : List T)
  deriving Inhabited

mutual
def T.beq : T → T → Bool
  | .non, .non => true
  | .bl a, .bl b => a == b
  | .int a, .int b => a == b
  | .str a, .str b => a == b
  | .tup a, .tup b => T.beqs a b
  | .lst a, .lst b => T.beqs a b
  | _, _ => false
def T.beqs : List T → List T → Bool
  | [], [] => true
  | a :: r, b :: s => T.beq a b && T.beqs r s
  | _, _ => false
end
mutual
theorem T.beq_eq : ∀ (a b : T), T.beq a b = true → a = b
  | .non, b, h => by cases b <;> simp [T.beq] at h ⊢
  | .bl a, b, h => by cases b <;> simp [T.beq] at h ⊢; exact h
  | .int a, b, h => by cases b <;> simp [T.beq] at h ⊢; exact h
  | .str a, b, h => by cases b <;> simp [T.beq] at h ⊢; exact h
  | .tup a, b, h => by cases b <;> simp [T.beq] at h ⊢; exact T.beqs_eq _ _ h
  | .lst a, b, h => by cases b <;> simp [T.beq] at h ⊢; exact T.beqs_eq _ _ h
theorem T.beqs_eq : ∀ (a b : List T), T.beqs a b = true → a = b
  | [], b, h => by cases b <;> simp [T.beqs] at h ⊢
  | x :: r, b, h => by
    cases b with
    | nil => simp [T.beqs] at h
    | cons y s =>
      simp [T.beqs] at h
      rw [T.beq_eq _ _ h.1, T.beqs_eq _ _ h.2]
end
mutual
theorem T.beq_refl : ∀ (a : T), T.beq a a = true
  | .non => rfl
  | .bl a => by simp [T.beq]
  | .int a => by simp [T.beq]
  | .str a => by simp [T.beq]
  | .tup a => by simp [T.beq]; exact T.beqs_refl a
  | .lst a => by simp [T.beq]; exact T.beqs_refl a
theorem T.beqs_refl : ∀ (a : List T), T.beqs a a = true
  | [] => rfl
  | x :: r => by simp [T.beqs, T.beq_refl x, T.beqs_refl r]
end
instance : DecidableEq T := fun a b => if h : T.beq a b = true then .isTrue (T.beq_eq a b h) else .isFalse fun e => h (e ▸ T.beq_refl a)

mutual
def T.pd : T → PyData
  | .non => .none
  | .bl b => .bool b
  | .int i => .int i
  | .str s => .str s
  | .tup xs => .tuple (T.pds xs)
  | .lst xs => .list (T.pds xs)
def T.pds : List T → List PyData
  | [] => []
  | x :: r => T.pd x :: T.pds r
end
theorem T.pds_map (xs : List T) : T.pds xs = xs.map T.pd := by
  induction xs with
  | nil => rfl
  | cons x r ih => rw [T.pds, ih]; rfl

/-- what a slot holds: nothing, a value, an own list, a list lent (read only), the in-out list -/
inductive Sl where
  | no
  | fz (t : T)
  | ol (xs : List T)
  | bl (xs : List T)
  | io (xs : List T)
  deriving DecidableEq, Inhabited
abbrev Env := List Sl
/-- what an expression gives: a value, a new list, the list of a slot -/
inductive Rs where
  | fz (t : T)
  | ol (xs : List T)
  | plc (i : Nat)
  deriving DecidableEq, Inhabited
structure Exc where
  cls : Nat
  fs : List (Str × T)
inductive R (α : Type) where
  | ok (a : α) (en : Env)
  | ex (x : Exc) (en : Env)
  | bad
def R.bind {α β : Type} (r : R α) (f : α → Env → R β) : R β :=
  match r with
  | .ok a en => f a en
  | .ex x en => .ex x en
  | .bad => .bad
@[simp] theorem R.bind_ok {α β : Type} (a : α) (en : Env) (f : α → Env → R β) : (R.ok a en).bind f = f a en := rfl
@[simp] theorem R.bind_ex {α β : Type} (x : Exc) (en : Env) (f : α → Env → R β) : (R.ex x en : R α).bind f = .ex x en := rfl
@[simp] theorem R.bind_bad {α β : Type} (f : α → Env → R β) : (R.bad : R α).bind f = .bad := rfl

def Sl.con : Sl → Option T
  | .no => none
  | .fz t => some t
  | .ol xs => some (.lst xs)
  | .bl xs => some (.lst xs)
  | .io xs => some (.lst xs)
/-- the content of a result -/
def con (en : Env) : Rs → Option T
  | .fz t => some t
  | .ol xs => some (.lst xs)
  | .plc i => match en[i]? with
    | some s => s.con
    | none => none
/-- a new list becomes a value -/
def settle : Rs → Rs
  | .ol xs => .fz (.lst xs)
  | r => r

/-- one-place operations -/
inductive P1 where
  | len | tuple | list | int | abs | sum | any | all | max | min | neg | isN | notN | str
  | isT (c : String)
  deriving DecidableEq, Inhabited
inductive P2 where
  | add | sub | mul | fdiv | mod | shl | shr | band | bor
  | eq | ne | lt | le | gt | ge | inn | notin | ix | max2 | min2 | index
  deriving DecidableEq, Inhabited
/-- methods that change a list in a slot -/
inductive Mt where
  | append | pop | popAt | extend
  deriving DecidableEq, Inhabited

inductive Tg where
  | v (i : Nat)
  | nil
  | cons (a r : Tg)
  | tp (l : Tg)
  deriving DecidableEq, Inhabited

inductive E where
  | var (i : Nat)
  | lit (t : T)
  | nil
  | cons (a r : E)
  | tup (l : E)
  | lst (l : E)
  | p1 (o : P1) (a : E)
  | p2 (o : P2) (a b : E)
  | chain (o o' : P2) (a b c : E)
  | and (a b : E)
  | or (a b : E)
  | not (a : E)
  | ite (c a b : E)
  | call (f : Nat) (l : E)
  | mth (m : Mt) (i : Nat) (l : E)
  | sl (a lo hi : E)
  | rev (a : E)
  | comp (elt : E) (tg : Tg) (it : E) (cs : E) (own : List Nat)
  | it1 (a : E)
  | rng1 (a : E)
  | rng2 (a b : E)
  | rng3 (a b c : E)
  | zip (a b : E)
  | reversed (a : E)
  | enum (a : E)
  deriving Inhabited

structure Sig where
  np : Nat
  io : Bool
  md : List Bool
  deriving DecidableEq, Inhabited
/-- what a call gives: the result and what the in-out list is behind it -/
inductive FR where
  | ok (r : Rs) (io : List T)
  | ex (x : Exc) (io : List T)
  | bad

/-! operations on contents -/
def ints? : List T → Option (List Int)
  | [] => some []
  | .int i :: r => (ints? r).map (i :: ·)
  | _ :: _ => none
def bools? : List T → Option (List Bool)
  | [] => some []
  | .bl i :: r => (bools? r).map (i :: ·)
  | _ :: _ => none
theorem ints?_map (ns : List Int) : ints? (ns.map T.int) = some ns := by
  induction ns with
  | nil => rfl
  | cons n r ih => simp [ints?, ih]
theorem bools?_map (ns : List Bool) : bools? (ns.map T.bl) = some ns := by
  induction ns with
  | nil => rfl
  | cons n r ih => simp [bools?, ih]
theorem of_ints? : ∀ {xs : List T} {ns : List Int}, ints? xs = some ns → xs = ns.map T.int
  | [], ns, h => by simp [ints?] at h; subst h; rfl
  | x :: r, ns, h => by
    cases x <;> simp [ints?] at h
    obtain ⟨a, h1, rfl⟩ := h
    rw [of_ints? h1]; rfl
theorem of_bools? : ∀ {xs : List T} {ns : List Bool}, bools? xs = some ns → xs = ns.map T.bl
  | [], ns, h => by simp [bools?] at h; subst h; rfl
  | x :: r, ns, h => by
    cases x <;> simp [bools?] at h
    obtain ⟨a, h1, rfl⟩ := h
    rw [of_bools? h1]; rfl
def mulOk (i j : Int) : Prop := (-(2 ^ 64) < i ∧ i < 2 ^ 64) ∨ (-(2 ^ 64) < j ∧ j < 2 ^ 64)
instance (i j : Int) : Decidable (mulOk i j) := by unfold mulOk; infer_instance
def divOk (j : Int) : Prop := j ≠ 0 ∧ j.natAbs < 1073741824
instance (j : Int) : Decidable (divOk j) := by unfold divOk; infer_instance
def shlOk (i j : Int) : Prop := 0 ≤ j ∧ j ≤ 1000000 ∧ i.natAbs < 2 ^ 64
instance (i j : Int) : Decidable (shlOk i j) := by unfold shlOk; infer_instance
def eqOk (a b : T) : Prop := SeqAt.shaped a.pd = true ∧ SeqAt.shaped b.pd = true
instance (a b : T) : Decidable (eqOk a b) := by unfold eqOk; infer_instance

/-- the greatest, the least of a list of ints, not empty -/
def maxI : List Int → Int
  | [] => 0
  | x :: r => r.foldl max x
def minI : List Int → Int
  | [] => 0
  | x :: r => r.foldl min x

def ap1 : P1 → T → Option Rs
  | .len, .tup xs => some (.fz (.int xs.length))
  | .len, .lst xs => some (.fz (.int xs.length))
  | .len, .str s => if s.length ≤ sizeLine then some (.fz (.int s.length)) else none
  | .tuple, .tup xs => some (.fz (.tup xs))
  | .tuple, .lst xs => some (.fz (.tup xs))
  | .list, .tup xs => some (.ol xs)
  | .list, .lst xs => some (.ol xs)
  | .int, .int i => some (.fz (.int i))
  | .abs, .int i => some (.fz (.int (if i < 0 then -i else i)))
  | .neg, .int i => some (.fz (.int (-i)))
  | .sum, .lst xs => (ints? xs).map fun ns => .fz (.int ns.sum)
  | .any, .lst xs => (bools? xs).map fun ns => .fz (.bl (ns.any id))
  | .all, .lst xs => (bools? xs).map fun ns => .fz (.bl (ns.all id))
  | .max, .lst (.int x :: xs) => (ints? xs).map fun ns => .fz (.int (maxI (x :: ns)))
  | .min, .lst (.int x :: xs) => (ints? xs).map fun ns => .fz (.int (minI (x :: ns)))
  | .isN, t => some (.fz (.bl (decide (t = .non))))
  | .notN, t => some (.fz (.bl (!decide (t = .non))))
  | _, _ => none

def ap2 : P2 → T → T → Option Rs
  | .add, .int i, .int j => some (.fz (.int (i + j)))
  | .add, .tup xs, .tup ys => if xs.length + ys.length ≤ sizeLine then some (.fz (.tup (xs ++ ys))) else none
  | .add, .lst xs, .lst ys => if xs.length + ys.length ≤ sizeLine then some (.ol (xs ++ ys)) else none
  | .sub, .int i, .int j => some (.fz (.int (i - j)))
  | .mul, .int i, .int j => if mulOk i j then some (.fz (.int (i * j))) else none
  | .fdiv, .int i, .int j => if divOk j then some (.fz (.int (i.fdiv j))) else none
  | .mod, .int i, .int j => if j ≠ 0 then some (.fz (.int (i.fmod j))) else none
  | .shl, .int i, .int j => if shlOk i j then some (.fz (.int (i * 2 ^ j.toNat))) else none
  | .shr, .int i, .int j => if 0 ≤ j then some (.fz (.int (i / 2 ^ j.toNat))) else none
  | .band, .int i, .int j => some (.fz (.int (Builtin.bitAnd i j)))
  | .bor, .int i, .int j => some (.fz (.int (Builtin.bitOr i j)))
  | .eq, a, b => if eqOk a b then some (.fz (.bl (PyData.eqv a.pd b.pd))) else none
  | .ne, a, b => if eqOk a b then some (.fz (.bl (!PyData.eqv a.pd b.pd))) else none
  | .lt, .int i, .int j => some (.fz (.bl (decide (i < j))))
  | .le, .int i, .int j => some (.fz (.bl (decide (i ≤ j))))
  | .gt, .int i, .int j => some (.fz (.bl (decide (j < i))))
  | .ge, .int i, .int j => some (.fz (.bl (decide (j ≤ i))))
  | .inn, a, .lst xs => if eqOk a (.lst xs) then some (.fz (.bl (xs.any fun z => PyData.eqv z.pd a.pd))) else none
  | .notin, a, .lst xs => if eqOk a (.lst xs) then some (.fz (.bl (!xs.any fun z => PyData.eqv z.pd a.pd))) else none
  | .ix, .tup xs, .int i => (L2.atI xs i).map .fz
  | .ix, .lst xs, .int i => (L2.atI xs i).map .fz
  | .max2, .int i, .int j => some (.fz (.int (if j > i then j else i)))
  | .min2, .int i, .int j => some (.fz (.int (if j < i then j else i)))
  | .index, .lst xs, a => if eqOk a (.lst xs) then (xs.findIdx? fun z => PyData.eqv z.pd a.pd).map fun (j : Nat) => Rs.fz (T.int (j : Int)) else none
  | _, _, _ => none
/-- slices of tuples, lists -/
def apSl : T → Option Int → Option Int → Option Rs
  | .tup xs, lo, hi => some (.fz (.tup ((xs.drop (HT.sIx xs.length 0 lo)).take (HT.sIx xs.length xs.length hi - HT.sIx xs.length 0 lo))))
  | .lst xs, lo, hi => some (.ol ((xs.drop (HT.sIx xs.length 0 lo)).take (HT.sIx xs.length xs.length hi - HT.sIx xs.length 0 lo)))
  | _, _, _ => none
def apM : Mt → List T → List T → Option (T × List T)
  | .append, xs, [y] => if xs.length < sizeLine then some (.non, xs ++ [y]) else none
  | .pop, xs, [] => (xs[xs.length - 1]?).map fun y => (y, xs.dropLast)
  | .popAt, xs, [.int 0] => (xs[0]?).map fun y => (y, xs.eraseIdx 0)
  | .extend, xs, [.lst ys] => if xs.length + ys.length ≤ sizeLine then some (.non, xs ++ ys) else none
  | _, _, _ => none

def asg1 (i : Nat) (t : T) (en : Env) : Option Env :=
  match en[i]? with
  | some (.io _) => none
  | some _ => some (en.set i (.fz t))
  | none => none
mutual
def asgT : Tg → T → Env → Option Env
  | .v i, t, en => asg1 i t en
  | .tp l, .tup xs, en => asgTs l xs en
  | _, _, _ => none
def asgTs : Tg → List T → Env → Option Env
  | .nil, [], en => some en
  | .cons a r, x :: xs, en => (asgT a x en).bind fun en1 => asgTs r xs en1
  | _, _, _ => none
end
def wipeE (own : List Nat) (en : Env) : Env := own.foldr (fun i e => e.set i .no) en
/-- the own slots as they were -/
def restE (en : Env) : List Nat → Env → Env
  | [], e => e
  | i :: r, e => (restE en r e).set i (en.getD i .no)
/-- a slot that may be hidden by a comprehension's name -/
def hidable (en : Env) (i : Nat) : Bool :=
  match en[i]? with
  | some .no => true
  | some (.fz _) => true
  | _ => false
def slotIs (en : Env) (s : Option (Nat × Sl)) : Bool :=
  match s with
  | none => true
  | some (i, s) => decide (en[i]? = some s)
/-- the turns of a comprehension -/
def compL (step : T → Env → R (Option T)) (chk : Option (Nat × Sl)) (own : List Nat) : List T → List T → Env → R (List T)
  | [], acc, en => if slotIs en chk then .ok acc en else .bad
  | x :: r, acc, en => if slotIs en chk then
      (step x (wipeE own en)).bind fun o en1 =>
        match o with
        | none => compL step chk own r acc en1
        | some y => if acc.length < sizeLine then compL step chk own r (acc ++ [y]) en1 else .bad
    else .bad
def bigI : Int := 2 ^ 62
def inBig (i : Int) : Bool := decide (-(2 ^ 62) ≤ i ∧ i < 2 ^ 62)
def rangeI (lo : Int) (n : Nat) : List T := (List.range n).map fun (k : Nat) => T.int (lo + (k : Int))
/-- the items of a range by steps of 1, -1 -/
def rng3 (a b c : Int) : Option (List T) :=
  if inBig a && inBig b then
    if c = -1 then some ((List.range (a - b).toNat).map fun (k : Nat) => T.int (a - (k : Int)))
    else none
  else none
def mkOwn (b : Bool) (xs : List T) : Sl := if b then .io xs else .ol xs
/-- a slot's own list (true: the in-out one) -/
def ownOf (en : Env) (i : Nat) : Option (Bool × List T) :=
  match en[i]? with
  | some (.ol xs) => some (false, xs)
  | some (.io xs) => some (true, xs)
  | _ => none
theorem ownOf_at {en : Env} {i : Nat} {b : Bool} {xs : List T} (h : ownOf en i = some (b, xs)) : en[i]? = some (mkOwn b xs) := by
  unfold ownOf at h
  split at h <;> cases h <;> assumption
/-- what is walked: the items, and the slot that must stay (a list that is no value) -/
structure Its where
  xs : List T
  chk : Option (Nat × Sl)
def R.fin {α : Type} (own : List Nat) (en0 : Env) : R α → R α
  | .ok a en => .ok a (restE en0 own en)
  | .ex x en => .bad
  | .bad => .bad
section
variable (sg : Nat → Sig) (Φ : Nat → List T → FR)
/-- the contents of the arguments, by how they are taken; lists that are taken for good are frozen -/
def argsC : List Bool → List Rs → Env → R (List T)
  | [], [], en => .ok [] en
  | m :: ms, r :: rs, en =>
    match r with
    | .plc i => match en[i]? with
      | some (.ol xs) => if m then (argsC ms rs en).bind fun ts en1 => .ok (.lst xs :: ts) en1 else (argsC ms rs (en.set i (.fz (.lst xs)))).bind fun ts en1 => .ok (.lst xs :: ts) en1
      | some (.bl xs) => if m then (argsC ms rs en).bind fun ts en1 => .ok (.lst xs :: ts) en1 else .bad
      | some (.fz t) => (argsC ms rs en).bind fun ts en1 => .ok (t :: ts) en1
      | _ => .bad
    | .fz t => (argsC ms rs en).bind fun ts en1 => .ok (t :: ts) en1
    | .ol _ => .bad
  | _, _, _ => .bad
/-- the in-out list of a call's first argument -/
def ioOf (en : Env) : Rs → Option (Nat × List T × Bool)
  | .plc i => match en[i]? with
    | some (.ol xs) => some (i, xs, false)
    | some (.io xs) => some (i, xs, true)
    | _ => none
  | _ => none
def callF (f : Nat) (rs : List Rs) (en : Env) : R Rs :=
  if (sg f).io then
    match rs with
    | r :: rs' => match ioOf en r with
      | some (i, xs, b) =>
        (argsC (sg f).md rs' (en.set i .no)).bind fun ts en1 =>
          match Φ f (.lst xs :: ts) with
          | .ok r io' => .ok r (en1.set i (if b then .io io' else .ol io'))
          | .ex x io' => .ex x (en1.set i (if b then .io io' else .ol io'))
          | .bad => .bad
      | none => .bad
    | [] => .bad
  else
    (argsC (sg f).md rs en).bind fun ts en1 =>
      match Φ f ts with
      | .ok r _ => .ok r en1
      | .ex x _ => .ex x en1
      | .bad => .bad
/-- a result as a value: a list of a slot is frozen -/
def toV (r : Rs) (en : Env) : R T :=
  match r with
  | .fz t => .ok t en
  | .ol xs => .ok (.lst xs) en
  | .plc i => match en[i]? with
    | some (.ol xs) => .ok (.lst xs) (en.set i (.fz (.lst xs)))
    | some (.fz t) => .ok t en
    | _ => .bad
def liftO {α : Type} (o : Option α) (en : Env) : R α :=
  match o with
  | some a => .ok a en
  | none => .bad
def boolOf : Rs → Env → R Bool
  | .fz (.bl b), en => .ok b en
  | _, _ => .bad
def optI : Rs → Env → R (Option Int)
  | .fz (.int i), en => .ok (some i) en
  | .fz .non, en => .ok none en
  | _, _ => .bad
mutual
/-- an expression -/
def ev : E → Env → R Rs
  | .var i, en => match en[i]? with
    | some (.fz t) => .ok (.fz t) en
    | some .no => .bad
    | none => .bad
    | some _ => .ok (.plc i) en
  | .lit t, en => .ok (.fz t) en
  | .tup l, en => (evV l en).bind fun ts en1 => if ts.length ≤ sizeLine then .ok (.fz (.tup ts)) en1 else .bad
  | .lst l, en => (evV l en).bind fun ts en1 => if ts.length ≤ sizeLine then .ok (.ol ts) en1 else .bad
  | .p1 o a, en => (ev a en).bind fun r en1 => liftO ((con en1 r).bind (ap1 o)) en1
  | .p2 o a b, en => (ev a en).bind fun r en1 => (ev b en1).bind fun r' en2 => liftO ((con en2 (settle r)).bind fun x => (con en2 (settle r')).bind fun y => ap2 o x y) en2
  | .chain o o' a b c, en => (ev a en).bind fun r en1 => (ev b en1).bind fun r' en2 =>
      (liftO ((con en2 (settle r)).bind fun x => (con en2 (settle r')).bind fun y => ap2 o x y) en2).bind fun q _ =>
        match q with
        | .fz (.bl true) => (ev c en2).bind fun r'' en3 => liftO ((con en3 (settle r')).bind fun x => (con en3 (settle r'')).bind fun y => ap2 o' x y) en3
        | .fz (.bl false) => .ok (.fz (.bl false)) en2
        | _ => .bad
  | .and a b, en => (ev a en).bind fun r en1 => (boolOf r en1).bind fun k en1 => if k then ev b en1 else .ok (.fz (.bl false)) en1
  | .or a b, en => (ev a en).bind fun r en1 => (boolOf r en1).bind fun k en1 => if k then .ok (.fz (.bl true)) en1 else ev b en1
  | .not a, en => (ev a en).bind fun r en1 => (boolOf r en1).bind fun k en1 => .ok (.fz (.bl (!k))) en1
  | .ite c a b, en => (ev c en).bind fun r en1 => (boolOf r en1).bind fun k en1 => if k then ev a en1 else ev b en1
  | .call f l, en => (evA l en).bind fun rs en1 => callF sg Φ f rs en1
  | .mth m i l, en =>
    match ownOf en i with
    | none => .bad
    | some _ => (evV l en).bind fun ts en1 => match ownOf en1 i with
      | none => .bad
      | some q => (liftO (apM m q.2 ts) en1).bind fun p en1 => .ok (.fz p.1) (en1.set i (mkOwn q.1 p.2))
  | .sl a lo hi, en => (ev a en).bind fun r en1 => (ev lo en1).bind fun l en2 => (optI l en2).bind fun l en2 => (ev hi en2).bind fun h en3 => (optI h en3).bind fun h en3 =>
      liftO ((con en3 (settle r)).bind fun x => apSl x l h) en3
  | .comp elt tg it cs own, en =>
    (evI it en).bind fun its en1 =>
      if own.all (hidable en1) then
        (compL (fun x e => match asgT tg x e with
          | some e1 => (ev cs e1).bind fun r e2 => (boolOf r e2).bind fun k e2 => if k then (ev elt e2).bind fun r e3 => (toV r e3).bind fun t e4 => .ok (some t) e4 else .ok none e2
          | none => .bad) its.chk own its.xs [] en1).fin own en1 |>.bind fun ts en2 => .ok (.ol ts) en2
      else .bad
  | _, _ => .bad
/-- values, from the left -/
def evV : E → Env → R (List T)
  | .nil, en => .ok [] en
  | .cons a r, en => (ev a en).bind fun q en1 => (toV q en1).bind fun t en1 => (evV r en1).bind fun ts en2 => .ok (t :: ts) en2
  | _, _ => .bad
/-- arguments, from the left -/
def evA : E → Env → R (List Rs)
  | .nil, en => .ok [] en
  | .cons a r, en => (ev a en).bind fun q en1 => (evA r en1).bind fun ts en2 => .ok (settle q :: ts) en2
  | _, _ => .bad
/-- what is walked -/
def evI : E → Env → R Its
  | .it1 a, en => (ev a en).bind fun r en1 =>
    match r with
    | .plc i => match en1[i]? with
      | some s => match s.con with
        | some (.lst xs) => .ok ⟨xs, some (i, s)⟩ en1
        | _ => .bad
      | none => .bad
    | _ => match con en1 r with
      | some (.lst xs) => .ok ⟨xs, none⟩ en1
      | some (.tup xs) => .ok ⟨xs, none⟩ en1
      | _ => .bad
  | .rng1 b, en => (ev b en).bind fun r en1 => match r with
    | .fz (.int j) => if inBig j then .ok ⟨rangeI 0 j.toNat, none⟩ en1 else .bad
    | _ => .bad
  | .rng2 a b, en => (ev a en).bind fun r en1 => (ev b en1).bind fun r' en2 => match r, r' with
    | .fz (.int i), .fz (.int j) => if inBig i && inBig j then .ok ⟨rangeI i (j - i).toNat, none⟩ en2 else .bad
    | _, _ => .bad
  | .rng3 a b c, en => (ev a en).bind fun r en1 => (ev b en1).bind fun r' en2 => (ev c en2).bind fun r'' en3 => match r, r', r'' with
    | .fz (.int i), .fz (.int j), .fz (.int k) => (liftO (rng3 i j k) en3).bind fun xs en3 => .ok ⟨xs, none⟩ en3
    | _, _, _ => .bad
  | _, _ => .bad
end
end

/-- statements -/
inductive S where
  | nil
  | cons (s r : S)
  | expr (e : E)
  | asg (tg : Tg) (e : E)
  | aug (i : Nat) (o : P2) (e : E)
  | setix (i : Nat) (ix e : E)
  | ite (c : E) (a b : S)
  | whl (c : E) (b : S)
  | for (tg : Tg) (it : E) (b : S)
  | ret (e : E)
  | ret0
  | brk
  | cont
  | pass
  | raise (c : Nat) (l : E)
  deriving Inhabited
inductive SRes where
  | nx (en : Env)
  | rt (r : Rs) (en : Env)
  | bk (en : Env)
  | ct (en : Env)
  | ex (x : Exc) (en : Env)
  | bad
def R.st {α : Type} (r : R α) (f : α → Env → SRes) : SRes :=
  match r with
  | .ok a en => f a en
  | .ex x en => .ex x en
  | .bad => .bad
@[simp] theorem R.st_ok {α : Type} (a : α) (en : Env) (f : α → Env → SRes) : (R.ok a en).st f = f a en := rfl
@[simp] theorem R.st_ex {α : Type} (x : Exc) (en : Env) (f : α → Env → SRes) : (R.ex x en : R α).st f = .ex x en := rfl
@[simp] theorem R.st_bad {α : Type} (f : α → Env → SRes) : (R.bad : R α).st f = .bad := rfl
def SRes.seq (r : SRes) (f : Env → SRes) : SRes :=
  match r with
  | .nx en => f en
  | r => r
@[simp] theorem SRes.seq_nx (en : Env) (f : Env → SRes) : (SRes.nx en).seq f = f en := rfl
@[simp] theorem SRes.seq_rt (r : Rs) (en : Env) (f : Env → SRes) : (SRes.rt r en).seq f = .rt r en := rfl
@[simp] theorem SRes.seq_bk (en : Env) (f : Env → SRes) : (SRes.bk en).seq f = .bk en := rfl
@[simp] theorem SRes.seq_ct (en : Env) (f : Env → SRes) : (SRes.ct en).seq f = .ct en := rfl
@[simp] theorem SRes.seq_ex (x : Exc) (en : Env) (f : Env → SRes) : (SRes.ex x en).seq f = .ex x en := rfl
@[simp] theorem SRes.seq_bad (f : Env → SRes) : SRes.bad.seq f = .bad := rfl
/-- behind a turn -/
def SRes.turn (r : SRes) (f : Env → SRes) : SRes :=
  match r with
  | .nx en => f en
  | .ct en => f en
  | .bk en => .nx en
  | r => r
@[simp] theorem SRes.turn_nx (en : Env) (f : Env → SRes) : (SRes.nx en).turn f = f en := rfl
@[simp] theorem SRes.turn_rt (r : Rs) (en : Env) (f : Env → SRes) : (SRes.rt r en).turn f = .rt r en := rfl
@[simp] theorem SRes.turn_bk (en : Env) (f : Env → SRes) : (SRes.bk en).turn f = .nx en := rfl
@[simp] theorem SRes.turn_ct (en : Env) (f : Env → SRes) : (SRes.ct en).turn f = f en := rfl
@[simp] theorem SRes.turn_ex (x : Exc) (en : Env) (f : Env → SRes) : (SRes.ex x en).turn f = .ex x en := rfl
@[simp] theorem SRes.turn_bad (f : Env → SRes) : SRes.bad.turn f = .bad := rfl

def whileL (c : Env → R Bool) (b : Env → SRes) : Nat → Env → SRes
  | 0, _ => .bad
  | n + 1, en => (c en).st fun k en1 => if k then (b en1).turn (whileL c b n) else .nx en1
def forL (g : T → Env → Option Env) (b : Env → SRes) : List T → Env → SRes
  | [], en => .nx en
  | x :: r, en => match g x en with
    | some en1 => (b en1).turn (forL g b r)
    | none => .bad
/-- a list that a loop walks is frozen -/
def lockS (en : Env) : Option (Nat × Sl) → Option Env
  | none => some en
  | some (i, .ol xs) => some (en.set i (.fz (.lst xs)))
  | some (_, .bl _) => some en
  | some (_, .fz _) => some en
  | some _ => none
def setS (i : Nat) (s : Sl) (en : Env) : SRes :=
  match en[i]? with
  | some (.io _) => .bad
  | some _ => .nx (en.set i s)
  | none => .bad
def asgR (i : Nat) (r : Rs) (en : Env) : SRes :=
  match r with
  | .fz t => setS i (.fz t) en
  | .ol xs => setS i (.ol xs) en
  | .plc j => match en[j]? with
    | some (.ol xs) => setS i (.fz (.lst xs)) (en.set j (.fz (.lst xs)))
    | some (.fz t) => setS i (.fz t) en
    | some (.bl xs) => setS i (.bl xs) en
    | _ => .bad
def retR (r : Rs) (en : Env) : SRes :=
  match r with
  | .fz t => .rt (.fz t) en
  | .ol xs => .rt (.ol xs) en
  | .plc i => match en[i]? with
    | some (.ol xs) => .rt (.ol xs) (en.set i .no)
    | some (.fz t) => .rt (.fz t) en
    | _ => .bad
def setAt (i : Nat) (k : Rs) (t : T) (en : Env) : SRes :=
  match k, ownOf en i with
  | .fz (.int j), some q => match L2.ixN q.2.length j with
    | some n => .nx (en.set i (mkOwn q.1 (q.2.set n t)))
    | none => .bad
  | _, _ => .bad
def augOk : P2 → Bool
  | .add | .sub | .mul => true
  | _ => false
section
variable (sg : Nat → Sig) (Φ : Nat → List T → FR) (mk : Nat → List T → Option Exc) (F : Nat)
def evS : S → Env → SRes
  | .nil, en => .nx en
  | .cons s r, en => (evS s en).seq (evS r)
  | .expr e, en => (ev sg Φ e en).st fun _ en1 => .nx en1
  | .asg (.v i) e, en => (ev sg Φ e en).st (asgR i)
  | .asg tg e, en => (ev sg Φ e en).st fun r en1 => (toV r en1).st fun t en2 => match asgT tg t en2 with
    | some en3 => .nx en3
    | none => .bad
  | .aug i o e, en => match en[i]? with
    | some (.fz (.int x)) => (ev sg Φ e en).st fun r en1 => match r with
      | .fz (.int y) => if augOk o then match ap2 o (.int x) (.int y) with
        | some (.fz t) => setS i (.fz t) en1
        | _ => .bad else .bad
      | _ => .bad
    | _ => .bad
  | .setix i k e, en => (ev sg Φ e en).st fun r en1 => (toV r en1).st fun t en1 => match ownOf en1 i with
      | none => .bad
      | some _ => (ev sg Φ k en1).st fun q en2 => setAt i q t en2
  | .ite c a b, en => (ev sg Φ c en).st fun r en1 => (boolOf r en1).st fun k en1 => if k then evS a en1 else evS b en1
  | .whl c b, en => whileL (fun en => (ev sg Φ c en).bind boolOf) (evS b) F en
  | .for tg it b, en => (evI sg Φ it en).st fun its en1 => match lockS en1 its.chk with
    | some en2 => forL (asgT tg) (evS b) its.xs en2
    | none => .bad
  | .ret e, en => (ev sg Φ e en).st retR
  | .ret0, en => .rt (.fz .non) en
  | .brk, en => .bk en
  | .cont, en => .ct en
  | .pass, en => .nx en
  | .raise c l, en => (evV sg Φ l en).st fun ts en1 => match mk c ts with
    | some x => .ex x en1
    | none => .bad
end
/-- the slots at the entry -/
def slotsOf : Bool → List Bool → List T → List Sl
  | true, md, .lst xs :: ts => .io xs :: slotsOf false md ts
  | false, m :: ms, t :: ts => (match m, t with | true, .lst xs => Sl.bl xs | _, t => Sl.fz t) :: slotsOf false ms ts
  | _, _, _ => []
structure Def where
  ns : Nat
  body : S
def ioEnd (sig : Sig) (en : Env) : List T := if sig.io then (match en[(0 : Nat)]? with | some (.io xs) => xs | _ => []) else []
def evD (sg : Nat → Sig) (Φ : Nat → List T → FR) (mk : Nat → List T → Option Exc) (F : Nat) (sig : Sig) (d : Def) (ts : List T) : FR :=
  let s0 := slotsOf sig.io sig.md ts
  match evS sg Φ mk F d.body (s0 ++ List.replicate (d.ns - s0.length) .no) with
  | .nx en => .ok (.fz .non) (ioEnd sig en)
  | .rt r en => .ok r (ioEnd sig en)
  | .ex x en => .ex x (ioEnd sig en)
  | _ => .bad
end Ev

set_option Elab.async false
set_option linter.all false
set_option autoImplicit false
/-! EvB: how trees and slots lie in the abstract heap. -/
namespace Ev
open PySem PySem.Spec PyProof.Rows L2

mutual
inductive VR (K : PySem.W.Frag) (G : Hp) : V → T → Prop
  | non : VR K G .non .non
  | bl (b : Bool) : VR K G (.bl b) (.bl b)
  | int (i : Int) : VR K G (.int i) (.int i)
  | str (s : Str) : VR K G (.str s) (.str s)
  | tup {a : Addr} {vs : List V} {xs : List T} : SqT K G a vs → VRs K G vs xs → VR K G (.ref a) (.tup xs)
  | lst {a : Addr} {vs : List V} {xs : List T} : Rd G a (.lst vs) → VRs K G vs xs → VR K G (.ref a) (.lst xs)
inductive VRs (K : PySem.W.Frag) (G : Hp) : List V → List T → Prop
  | nil : VRs K G [] []
  | cons {v : V} {vs : List V} {t : T} {ts : List T} : VR K G v t → VRs K G vs ts → VRs K G (v :: vs) (t :: ts)
end
section
variable {K : PySem.W.Frag} {G G' H H' : Hp}
theorem sameT {a : Addr} {xs : List V} (e : Same G G') (h : SqT K G a xs) : SqT K G' a xs := by
  rcases h with (h | ⟨o, h⟩) | h
  · exact .inl (.inl (e _ _ h))
  · exact .inl (.inr ⟨o, e _ _ h⟩)
  · exact .inr h
theorem sameR {a : Addr} {u : HO} (e : Same G G') (h : Rd G a u) : Rd G' a u := by
  rcases h with h | ⟨o, h⟩
  · exact .inl (e _ _ h)
  · exact .inr ⟨o, e _ _ h⟩
mutual
theorem VR.mono (e : Same G G') : ∀ {v : V} {t : T}, VR K G v t → VR K G' v t
  | _, _, .non => .non
  | _, _, .bl b => .bl b
  | _, _, .int i => .int i
  | _, _, .str s => .str s
  | _, _, .tup h r => .tup (sameT e h) (VRs.mono e r)
  | _, _, .lst h r => .lst (sameR e h) (VRs.mono e r)
theorem VRs.mono (e : Same G G') : ∀ {v : List V} {t : List T}, VRs K G v t → VRs K G' v t
  | _, _, .nil => .nil
  | _, _, .cons h r => .cons (VR.mono e h) (VRs.mono e r)
end
mutual
theorem VR.dp : ∀ {v : V} {t : T}, VR K G v t → Dp K G v t.pd
  | _, _, .non => .non
  | _, _, .bl b => .bl b
  | _, _, .int i => .int i
  | _, _, .str s => .str s
  | _, _, .tup h r => .tup h (VRs.dp r)
  | _, _, .lst h r => .lst (.inl h) (VRs.dp r)
theorem VRs.dp : ∀ {v : List V} {t : List T}, VRs K G v t → DpAll K G v (T.pds t)
  | _, _, .nil => .nil
  | _, _, .cons h r => .cons (VR.dp h) (VRs.dp r)
end
theorem VRs.length : ∀ {vs : List V} {ts : List T}, VRs K G vs ts → vs.length = ts.length
  | _, _, .nil => rfl
  | _, _, .cons _ r => by rw [List.length_cons, List.length_cons, VRs.length r]
theorem VRs.get : ∀ {vs : List V} {ts : List T} {i : Nat} {t : T}, VRs K G vs ts → ts[i]? = some t → ∃ v, vs[i]? = some v ∧ VR K G v t
  | _, _, _, _, .nil, e => by simp at e
  | _, _, 0, _, .cons h _, e => by simp at e; subst e; exact ⟨_, rfl, h⟩
  | _, _, i + 1, t, .cons _ r, e => by
    obtain ⟨v, h1, h2⟩ := VRs.get (i := i) (t := t) r (by simpa using e)
    exact ⟨v, by simpa using h1, h2⟩
theorem VRs.getV : ∀ {vs : List V} {ts : List T} {i : Nat} {v : V}, VRs K G vs ts → vs[i]? = some v → ∃ t, ts[i]? = some t ∧ VR K G v t
  | _, _, _, _, .nil, e => by simp at e
  | _, _, 0, _, .cons h _, e => by simp at e; subst e; exact ⟨_, rfl, h⟩
  | _, _, i + 1, t, .cons _ r, e => by
    obtain ⟨v, h1, h2⟩ := VRs.getV (i := i) (v := t) r (by simpa using e)
    exact ⟨v, by simpa using h1, h2⟩
theorem VRs.append : ∀ {vs ws : List V} {ts us : List T}, VRs K G vs ts → VRs K G ws us → VRs K G (vs ++ ws) (ts ++ us)
  | _, _, _, _, .nil, s => s
  | _, _, _, _, .cons h r, s => .cons h (VRs.append r s)
theorem VRs.take : ∀ {vs : List V} {ts : List T} (n : Nat), VRs K G vs ts → VRs K G (vs.take n) (ts.take n)
  | _, _, 0, _ => .nil
  | _, _, _ + 1, .nil => .nil
  | _, _, n + 1, .cons h r => .cons h (VRs.take n r)
theorem VRs.drop : ∀ {vs : List V} {ts : List T} (n : Nat), VRs K G vs ts → VRs K G (vs.drop n) (ts.drop n)
  | _, _, 0, r => r
  | _, _, _ + 1, .nil => .nil
  | _, _, n + 1, .cons _ r => VRs.drop n r
theorem VRs.set {v : V} {t : T} (h : VR K G v t) : ∀ {vs : List V} {ts : List T} (i : Nat), VRs K G vs ts → VRs K G (vs.set i v) (ts.set i t)
  | _, _, _, .nil => .nil
  | _, _, 0, .cons _ r => .cons h r
  | _, _, i + 1, .cons q r => .cons q (VRs.set h i r)
theorem VRs.eraseIdx : ∀ {vs : List V} {ts : List T} (i : Nat), VRs K G vs ts → VRs K G (vs.eraseIdx i) (ts.eraseIdx i)
  | _, _, _, .nil => .nil
  | _, _, 0, .cons _ r => r
  | _, _, i + 1, .cons q r => .cons q (VRs.eraseIdx i r)
theorem VRs.dropLast {vs : List V} {ts : List T} (h : VRs K G vs ts) : VRs K G vs.dropLast ts.dropLast := by
  rw [List.dropLast_eq_take, List.dropLast_eq_take, h.length]
  exact h.take _
theorem VRs.ints : ∀ {vs : List V} {ns : List Int}, VRs K G vs (ns.map T.int) → vs = ns.map V.int
  | _, [], h => by cases h; rfl
  | _, n :: r, h => by
    cases h with
    | cons a b =>
      cases a
      rw [VRs.ints b]; rfl
theorem VRs.ofInts : ∀ (ns : List Int), VRs K G (ns.map V.int) (ns.map T.int)
  | [] => .nil
  | n :: r => .cons (.int n) (VRs.ofInts r)
theorem VRs.bools : ∀ {vs : List V} {ns : List Bool}, VRs K G vs (ns.map T.bl) → vs = ns.map V.bl
  | _, [], h => by cases h; rfl
  | _, n :: r, h => by
    cases h with
    | cons a b =>
      cases a
      rw [VRs.bools b]; rfl

/-- a content -/
inductive CR (K : PySem.W.Frag) (G H : Hp) : V → T → Prop
  | fz {v : V} {t : T} : VR K G v t → CR K G H v t
  | pl {a : Addr} {vs : List V} {xs : List T} : Rd H a (.lst vs) → VRs K G vs xs → CR K G H (.ref a) (.lst xs)
theorem CR.tup {v : V} {xs : List T} (h : CR K G H v (.tup xs)) (s : Same G H) : ∃ a vs, v = .ref a ∧ SqT K H a vs ∧ VRs K G vs xs ∧ SqT K G a vs := by
  cases h with
  | fz h => cases h with
    | tup a b => exact ⟨_, _, rfl, sameT s a, b, a⟩
theorem CR.lst {v : V} {xs : List T} (h : CR K G H v (.lst xs)) (s : Same G H) : ∃ a vs, v = .ref a ∧ Rd H a (.lst vs) ∧ VRs K G vs xs := by
  cases h with
  | fz h => cases h with
    | lst a b => exact ⟨_, _, rfl, sameR s a, b⟩
  | pl a b => exact ⟨_, _, rfl, a, b⟩
theorem CR.int {v : V} {i : Int} (h : CR K G H v (.int i)) : v = .int i := by
  cases h with
  | fz h => cases h; rfl
theorem CR.bl {v : V} {i : Bool} (h : CR K G H v (.bl i)) : v = .bl i := by
  cases h with
  | fz h => cases h; rfl
theorem CR.str {v : V} {i : Str} (h : CR K G H v (.str i)) : v = .str i := by
  cases h with
  | fz h => cases h; rfl
theorem CR.non {v : V} (h : CR K G H v .non) : v = .non := by
  cases h with
  | fz h => cases h; rfl
theorem CR.vr {v : V} {t : T} (h : CR K G H v t) (s : Same G H) : VR K H v t := by
  cases h with
  | fz h => exact h.mono s
  | pl a b => exact .lst a (b.mono s)
end

/-! ### slots -/
def Sl.own : Sl → Bool
  | .ol _ => true
  | .io _ => true
  | _ => false
def Sl.lent : Sl → Bool
  | .bl _ => true
  | _ => false
def Sl.isIo : Sl → Bool
  | .io _ => true
  | _ => false
def Own (en : Env) (σ : L2.St) (a : Addr) : Prop := ∃ (i : Nat) (s : Sl), en[i]? = some s ∧ s.own = true ∧ σ[i]? = some (some (.ref a))
/-- what is fixed in a function: the in-out list's address, the heap at the entry (what is lent stands there) -/
structure Fx where
  a : Option Addr
  B : Hp
def SlR (K : PySem.W.Frag) (B G H : Hp) (v : Option (Option V)) : Sl → Prop
  | .no => True
  | .fz t => ∃ x, v = some (some x) ∧ VR K G x t
  | .ol xs => ∃ (a : Addr) (vs : List V), v = some (some (.ref a)) ∧ G a = none ∧ H a = some (.lst vs) ∧ VRs K G vs xs
  | .io xs => ∃ (a : Addr) (vs : List V), v = some (some (.ref a)) ∧ G a = none ∧ H a = some (.lst vs) ∧ VRs K G vs xs
  | .bl xs => ∃ (a : Addr) (vs : List V), v = some (some (.ref a)) ∧ B a ≠ none ∧ Rd H a (.lst vs) ∧ VRs K G vs xs
def IoR (io : Option Addr) (σ : L2.St) (en : Env) : Prop :=
  match io with
  | none => ∀ (i : Nat) (s : Sl), en[i]? = some s → s.isIo = false
  | some a => (∃ xs, en[(0 : Nat)]? = some (.io xs)) ∧ σ[(0 : Nat)]? = some (some (.ref a)) ∧ ∀ (i : Nat) xs, en[i]? = some (.io xs) → i = 0
structure SR (K : PySem.W.Frag) (io : Fx) (G H : Hp) (σ : L2.St) (en : Env) : Prop where
  same : Same G H
  len : en.length = σ.length
  sl : ∀ (i : Nat) s, en[i]? = some s → SlR K io.B G H σ[i]? s
  sep : ∀ (i j : Nat) s t a, en[i]? = some s → en[j]? = some t → s.own = true → (t.own || t.lent) = true → i ≠ j → σ[i]? = some (some (.ref a)) → σ[j]? ≠ some (some (.ref a))
  iok : IoR io.a σ en
  bl : ∀ b, io.B b ≠ none → H b ≠ none
structure Ext (G H : Hp) (O : Addr → Prop) (G' H' : Hp) (O' : Addr → Prop) : Prop where
  same : Same G G'
  keep : ∀ b o, H b = some o → ¬ O b → H' b = some o
  live : ∀ b, H b ≠ none → H' b ≠ none
  own : ∀ a, O' a → O a ∨ H a = none
  frz : ∀ a, G' a ≠ none → G a ≠ none ∨ H a = none ∨ O a
theorem Ext.refl {G H : Hp} {O : Addr → Prop} : Ext G H O G H O := ⟨Same.refl _, fun _ _ h _ => h, fun _ h => h, fun _ h => .inl h, fun _ h => .inl h⟩
theorem Ext.trans {G H G1 H1 G2 H2 : Hp} {O O1 O2 : Addr → Prop} (a : Ext G H O G1 H1 O1) (b : Ext G1 H1 O1 G2 H2 O2) : Ext G H O G2 H2 O2 where
  same := a.same.trans b.same
  keep := fun c o h n => b.keep c o (a.keep c o h n) fun z => by
    rcases a.own c z with y | y
    · exact n y
    · rw [h] at y; cases y
  live := fun c h => b.live c (a.live c h)
  own := fun c z => by
    have back : H1 c = none → H c = none := fun q => Classical.byContradiction fun k => a.live c k q
    rcases b.own c z with y | y
    · exact a.own c y
    · exact .inr (back y)
  frz := fun c z => by
    have back : H1 c = none → H c = none := fun q => Classical.byContradiction fun k => a.live c k q
    rcases b.frz c z with y | y | y
    · exact a.frz c y
    · exact .inr (.inl (back y))
    · rcases a.own c y with q | q
      · exact .inr (.inr q)
      · exact .inr (.inl q)

/-- something new was laid, or nothing -/
structure Al (G H G' H' : Hp) : Prop where
  same : Same G G'
  sameH : Same H H'
  gh : Same G' H'
  new : ∀ a, G' a ≠ none → G a ≠ none ∨ H a = none
theorem Al.refl {G H : Hp} (s : Same G H) : Al G H G H := ⟨Same.refl _, Same.refl _, s, fun _ h => .inl h⟩
section
variable {K : PySem.W.Frag} {io : Fx} {G H G' H' : Hp} {σ : L2.St} {en : Env} {O : Addr → Prop}
theorem Same.live {H H' : Hp} (s : Same H H') {b : Addr} (h : H b ≠ none) : H' b ≠ none := by
  cases q : H b with
  | none => exact absurd q h
  | some o => rw [s b o q]; simp
theorem Same.upd {H : Hp} {p : Addr} {o : HO} (h : H p = none) : Same H (upd H p o) := fun b x e => by
  rw [upd_ne (ne_of_none e h)]; exact e
theorem Same.none_of {G H : Hp} (s : Same G H) {p : Addr} (h : H p = none) : G p = none := s.free h
/-- a new object, known for good -/
theorem Al.both (s : Same G H) {p : Addr} (h : H p = none) (o : HO) : Al G H (L2.upd G p o) (L2.upd H p o) where
  same := Same.upd (s.free h)
  sameH := Same.upd h
  gh := fun b x e => by
    by_cases hb : b = p
    · subst hb; rw [upd_same] at e ⊢; exact e
    · rw [upd_ne hb] at e ⊢; exact s _ _ e
  new := fun a z => by
    by_cases hb : a = p
    · subst hb; exact .inr h
    · rw [upd_ne hb] at z; exact .inl z
/-- a new object that may be changed -/
theorem Al.own (s : Same G H) {p : Addr} (h : H p = none) (o : HO) : Al G H G (L2.upd H p o) where
  same := Same.refl _
  sameH := Same.upd h
  gh := s.trans (Same.upd h)
  new := fun a z => .inl z
theorem Al.trans {G1 H1 G2 H2 : Hp} (a : Al G H G1 H1) (b : Al G1 H1 G2 H2) : Al G H G2 H2 where
  same := a.same.trans b.same
  sameH := a.sameH.trans b.sameH
  gh := b.gh
  new := fun c z => by
    rcases b.new c z with y | y
    · exact a.new c y
    · exact .inr (a.sameH.free y)
theorem SlR.al {B : Hp} {v : Option (Option V)} {s : Sl} (a : Al G H G' H') (h : SlR K B G H v s) : SlR K B G' H' v s := by
  cases s with
  | no => trivial
  | fz t => obtain ⟨x, e, r⟩ := h; exact ⟨x, e, r.mono a.same⟩
  | ol xs =>
    obtain ⟨p, vs, e, g, h, r⟩ := h
    refine ⟨p, vs, e, ?_, a.sameH _ _ h, r.mono a.same⟩
    cases q : G' p with
    | none => rfl
    | some o => rcases a.new p (by rw [q]; simp) with z | z
                · exact absurd g z
                · rw [h] at z; cases z
  | io xs =>
    obtain ⟨p, vs, e, g, h, r⟩ := h
    refine ⟨p, vs, e, ?_, a.sameH _ _ h, r.mono a.same⟩
    cases q : G' p with
    | none => rfl
    | some o => rcases a.new p (by rw [q]; simp) with z | z
                · exact absurd g z
                · rw [h] at z; cases z
  | bl xs =>
    obtain ⟨p, vs, e, hb, h, r⟩ := h
    exact ⟨p, vs, e, hb, sameR a.sameH h, r.mono a.same⟩
theorem SR.al (r : SR K io G H σ en) (a : Al G H G' H') : SR K io G' H' σ en := ⟨a.gh, r.len, fun i s e => (r.sl i s e).al a, r.sep, r.iok, fun b h => Same.live a.sameH (r.bl b h)⟩
theorem SR.ownAt (r : SR K io G H σ en) {a : Addr} (h : Own en σ a) : G a = none ∧ ∃ vs, H a = some (.lst vs) := by
  obtain ⟨i, s, e, o, q⟩ := h
  have z := r.sl i s e
  cases s with
  | ol xs => obtain ⟨p, vs, e1, e2, e3, _⟩ := z; rw [q] at e1; cases e1; exact ⟨e2, vs, e3⟩
  | io xs => obtain ⟨p, vs, e1, e2, e3, _⟩ := z; rw [q] at e1; cases e1; exact ⟨e2, vs, e3⟩
  | no => cases o
  | fz t => cases o
  | bl xs => cases o
theorem SR.extAl (r : SR K io G H σ en) (a : Al G H G' H') : Ext G H (Own en σ) G' H' (Own en σ) where
  same := a.same
  keep := fun b o h _ => a.sameH b o h
  live := fun b h => by
    cases q : H b with
    | none => exact absurd q h
    | some o => rw [a.sameH b o q]; simp
  own := fun _ h => .inl h
  frz := fun b z => by
    rcases a.new b z with y | y
    · exact .inl y
    · exact .inr (.inl y)
/-- a new list becomes a value -/
theorem SR.freezeT (r : SR K io G H σ en) {p : Addr} {vs : List V} (hp : H p = some (.lst vs)) (hg : G p = none) (ho : ¬ Own en σ p) : SR K io (upd G p (.lst vs)) H σ en where
  same := fun b x e => by
    by_cases hb : b = p
    · subst hb; rw [upd_same] at e; rw [hp]; exact e
    · rw [upd_ne hb] at e; exact r.same _ _ e
  len := r.len
  sl := fun i s e => by
    have m : Same G (upd G p (.lst vs)) := Same.upd hg
    have z := r.sl i s e
    cases s with
    | no => trivial
    | fz t => obtain ⟨x, e, r⟩ := z; exact ⟨x, e, r.mono m⟩
    | ol xs =>
      obtain ⟨a, ws, e1, g, h, q⟩ := z
      refine ⟨a, ws, e1, ?_, h, q.mono m⟩
      rw [upd_ne (fun y => ho (by subst y; exact ⟨i, _, e, rfl, e1⟩))]; exact g
    | io xs =>
      obtain ⟨a, ws, e1, g, h, q⟩ := z
      refine ⟨a, ws, e1, ?_, h, q.mono m⟩
      rw [upd_ne (fun y => ho (by subst y; exact ⟨i, _, e, rfl, e1⟩))]; exact g
    | bl xs => obtain ⟨a, ws, e1, hb, h, q⟩ := z; exact ⟨a, ws, e1, hb, h, q.mono m⟩
  sep := r.sep
  iok := r.iok
  bl := r.bl
theorem Ext.freezeT {G0 H0 : Hp} {O0 : Addr → Prop} (x : Ext G0 H0 O0 G H O) {p : Addr} {o : HO} (hg : G p = none) (h0 : H0 p = none) : Ext G0 H0 O0 (upd G p o) H O where
  same := x.same.trans (Same.upd hg)
  keep := x.keep
  live := x.live
  own := x.own
  frz := fun a z => by
    by_cases ha : a = p
    · subst ha; exact .inr (.inl h0)
    · rw [upd_ne ha] at z; exact x.frz a z
theorem lt_of_get {α : Type} {l : List α} {i : Nat} {x : α} (h : l[i]? = some x) : i < l.length := by
  obtain ⟨h, _⟩ := List.getElem?_eq_some_iff.mp h; exact h
theorem get_set {α : Type} {l : List α} {i j : Nat} {x y : α} (h : (l.set i x)[j]? = some y) : (j = i ∧ y = x) ∨ (j ≠ i ∧ l[j]? = some y) := by
  by_cases e : i = j
  · subst e
    by_cases hl : i < l.length
    · rw [List.getElem?_set_self hl] at h; cases h; exact .inl ⟨rfl, rfl⟩
    · rw [List.getElem?_eq_none (by simpa using hl)] at h; cases h
  · rw [List.getElem?_set_ne e] at h; exact .inr ⟨fun z => e z.symm, h⟩
/-- a slot's own list becomes a value -/
theorem SR.freezeS (r : SR K io G H σ en) {i : Nat} {xs : List T} (e : en[i]? = some (.ol xs)) :
    ∃ G', SR K io G' H σ (en.set i (.fz (.lst xs))) ∧ Ext G H (Own en σ) G' H (Own (en.set i (.fz (.lst xs))) σ) ∧ ∀ v, σ[i]? = some (some v) → VR K G' v (.lst xs) := by
  obtain ⟨a, vs, e1, g, h, q⟩ := r.sl i _ e
  have m : Same G (upd G a (.lst vs)) := Same.upd g
  refine ⟨upd G a (.lst vs), ⟨fun b x z => ?_, by rw [List.length_set]; exact r.len, fun j s z => ?_, fun j k s t b z1 z2 o1 o2 ne y1 y2 => ?_, ?_, r.bl⟩, ⟨m, fun _ _ z _ => z, fun _ z => z, fun b z => ?_, fun b z => ?_⟩, fun v hv => ?_⟩
  · by_cases hb : b = a
    · subst hb; rw [upd_same] at z; rw [h]; exact z
    · rw [upd_ne hb] at z; exact r.same _ _ z
  · rcases get_set z with ⟨rfl, rfl⟩ | ⟨ne, z⟩
    · exact ⟨_, e1, .lst (Rd.of upd_same) (q.mono m)⟩
    · have y := r.sl j s z
      cases s with
      | no => trivial
      | fz t => obtain ⟨x, e, r⟩ := y; exact ⟨x, e, r.mono m⟩
      | ol ys =>
        obtain ⟨b, ws, e2, g2, h2, q2⟩ := y
        exact ⟨b, ws, e2, by rw [upd_ne (fun w => r.sep j i _ _ a z e rfl rfl ne (by rw [e2, w]) e1)]; exact g2, h2, q2.mono m⟩
      | io ys =>
        obtain ⟨b, ws, e2, g2, h2, q2⟩ := y
        exact ⟨b, ws, e2, by rw [upd_ne (fun w => r.sep j i _ _ a z e rfl rfl ne (by rw [e2, w]) e1)]; exact g2, h2, q2.mono m⟩
      | bl ys => obtain ⟨b, ws, e2, hb, h2, q2⟩ := y; exact ⟨b, ws, e2, hb, h2, q2.mono m⟩
  · rcases get_set z1 with ⟨rfl, rfl⟩ | ⟨n1, z1⟩
    · cases o1
    · rcases get_set z2 with ⟨rfl, rfl⟩ | ⟨n2, z2⟩
      · cases o2
      · exact r.sep j k s t b z1 z2 o1 o2 ne y1 y2
  · have rio := r.iok
    unfold IoR at rio ⊢
    cases hio : io.a with
    | none =>
      rw [hio] at rio
      intro j s z
      rcases get_set z with ⟨rfl, rfl⟩ | ⟨_, z⟩
      · rfl
      · exact rio j s z
    | some c =>
      rw [hio] at rio
      obtain ⟨⟨ys, h1⟩, h2, h3⟩ := rio
      have n0 : i ≠ 0 := fun z => by subst z; rw [e] at h1; cases h1
      refine ⟨⟨ys, by rw [List.getElem?_set_ne n0]; exact h1⟩, h2, fun j ys z => ?_⟩
      rcases get_set z with ⟨rfl, y⟩ | ⟨_, z⟩
      · cases y
      · exact h3 j ys z
  · obtain ⟨j, s, z1, z2, z3⟩ := z
    rcases get_set z1 with ⟨rfl, rfl⟩ | ⟨_, z1⟩
    · cases z2
    · exact .inl ⟨j, s, z1, z2, z3⟩
  · by_cases hb : b = a
    · subst hb; exact .inr (.inr ⟨i, _, e, rfl, e1⟩)
    · rw [upd_ne hb] at z; exact .inl z
  · rw [e1] at hv; cases hv
    exact .lst (Rd.of upd_same) (q.mono m)
end

/-! ### results -/
/-- an exception lies there: its class, its fields -/
def XR (K : PySem.W.Frag) (G H : Hp) (CT : Nat → Addr) (x : Exc) (c : Value) (d : Option Addr) : Prop :=
  c = .ref (CT x.cls) ∧ ∃ (dd : Addr) (fs : List (Str × V)), d = some dd ∧ H dd = some (.xd fs) ∧ ∀ f t, x.fs.lookup f = some t → ∃ v, fs.lookup f = some v ∧ VR K G v t
def RR (K : PySem.W.Frag) (G H H0 : Hp) (σ : L2.St) (en : Env) (v : V) : Rs → Prop
  | .fz t => VR K G v t
  | .ol xs => ∃ (p : Addr) (vs : List V), v = .ref p ∧ H p = some (.lst vs) ∧ G p = none ∧ H0 p = none ∧ ¬ Own en σ p ∧ VRs K G vs xs
  | .plc i => σ[i]? = some (some v)
def Run (K : PySem.W.Frag) (io : Fx) (CT : Nat → Addr) (W : WX) (σ : L2.St) (G H : Hp) (O : Addr → Prop) {α : Type} (r : R α) (Q : α → Env → Hp → Hp → Prop) : Prop :=
  match r with
  | .ok a en => ∀ G' H', SR K io G' H' σ en → Ext G H O G' H' (Own en σ) → Q a en G' H'
  | .ex x en => ∀ G' H' c d, SR K io G' H' σ en → Ext G H O G' H' (Own en σ) → XR K G' H' CT x c d → W c d σ H'
  | .bad => False
section
variable {K : PySem.W.Frag} {io : Fx} {CT : Nat → Addr} {W : WX} {σ : L2.St} {G H : Hp} {O : Addr → Prop} {α β : Type}
theorem Run.bind {r : R α} {f : α → Env → R β} {Q : β → Env → Hp → Hp → Prop} (h : Run K io CT W σ G H O (r.bind f) Q) :
    Run K io CT W σ G H O r fun a en G1 H1 => Run K io CT W σ G1 H1 (Own en σ) (f a en) Q := by
  cases r with
  | bad => exact h
  | ex x en => exact h
  | ok a en =>
    intro G1 H1 s1 x1
    show Run K io CT W σ G1 H1 (Own en σ) (f a en) Q
    have h : Run K io CT W σ G H O (f a en) Q := h
    cases hf : f a en with
    | bad => rw [hf] at h; exact h
    | ex x en2 => rw [hf] at h; exact fun G2 H2 c d s2 x2 => h G2 H2 c d s2 (x1.trans x2)
    | ok b en2 => rw [hf] at h; exact fun G2 H2 s2 x2 => h G2 H2 s2 (x1.trans x2)
theorem Run.bind2 {r : R α} {f : α → Env → R β} {Q : β → Env → Hp → Hp → Prop} (h : Run K io CT W σ G H O (r.bind f) Q) :
    Run K io CT W σ G H O r fun a en G1 H1 => ∀ G2, SR K io G2 H1 σ en → Ext G H O G2 H1 (Own en σ) → Run K io CT W σ G2 H1 (Own en σ) (f a en) Q := by
  cases r with
  | bad => exact h
  | ex x en => exact h
  | ok a en =>
    intro G1 H1 _ _ G2 s1 x1
    show Run K io CT W σ G2 H1 (Own en σ) (f a en) Q
    have h : Run K io CT W σ G H O (f a en) Q := h
    cases hf : f a en with
    | bad => rw [hf] at h; exact h
    | ex x en2 => rw [hf] at h; exact fun G2 H2 c d s2 x2 => h G2 H2 c d s2 (x1.trans x2)
    | ok b en2 => rw [hf] at h; exact fun G2 H2 s2 x2 => h G2 H2 s2 (x1.trans x2)
theorem Run.imp {r : R α} {Q Q' : α → Env → Hp → Hp → Prop} (h : Run K io CT W σ G H O r Q) (k : ∀ a en G' H', SR K io G' H' σ en → Ext G H O G' H' (Own en σ) → Q a en G' H' → Q' a en G' H') : Run K io CT W σ G H O r Q' := by
  cases r with
  | bad => exact h
  | ex x en => exact h
  | ok a en => exact fun G1 H1 s1 x1 => k _ _ _ _ s1 x1 (h G1 H1 s1 x1)
theorem Run.ok' {a : α} {en : Env} {Q : α → Env → Hp → Hp → Prop} (h : Run K io CT W σ G H O (.ok a en) Q) {G' H' : Hp} (s : SR K io G' H' σ en) (x : Ext G H O G' H' (Own en σ)) : Q a en G' H' := h G' H' s x
/-- what was found earlier, now -/
theorem RR.later {G1 H1 G2 H2 H0 : Hp} {en1 en2 : Env} {v : V} {r : Rs} (x : Ext G1 H1 (Own en1 σ) G2 H2 (Own en2 σ)) (h : RR K G1 H1 H0 σ en1 v r) (hs : ∀ xs, r ≠ .ol xs) : RR K G2 H2 H0 σ en2 v r := by
  cases r with
  | fz t => exact VR.mono x.same h
  | plc i => exact h
  | ol xs => exact absurd rfl (hs xs)
theorem RR.cr {H0 : Hp} {en : Env} {v : V} {r : Rs} {t : T} (s : SR K io G H σ en) (h : RR K G H H0 σ en v r) (e : con en r = some t) : CR K G H v t := by
  cases r with
  | fz u => cases e; exact .fz h
  | ol xs =>
    cases e
    obtain ⟨p, vs, rfl, hp, _, _, _, q⟩ := h
    exact .pl (Rd.of hp) q
  | plc i =>
    have h : σ[i]? = some (some v) := h
    unfold con at e
    cases q : en[i]? with
    | none => simp [q] at e
    | some z =>
      simp only [q] at e
      have y := s.sl i z q
      cases z with
      | no => cases e
      | fz u => cases e; obtain ⟨x, e1, e2⟩ := y; rw [h] at e1; cases e1; exact .fz e2
      | ol xs => cases e; obtain ⟨a, vs, e1, _, e2, e3⟩ := y; rw [h] at e1; cases e1; exact .pl (Rd.of e2) e3
      | io xs => cases e; obtain ⟨a, vs, e1, _, e2, e3⟩ := y; rw [h] at e1; cases e1; exact .pl (Rd.of e2) e3
      | bl xs => cases e; obtain ⟨a, vs, e1, _, e2, e3⟩ := y; rw [h] at e1; cases e1; exact .pl e2 e3
/-- settled -/
theorem RR.settle {G0 H0 : Hp} {O0 : Addr → Prop} {en : Env} {v : V} {r : Rs} (s : SR K io G H σ en) (x : Ext G0 H0 O0 G H (Own en σ)) (h : RR K G H H0 σ en v r) :
    ∃ G', SR K io G' H σ en ∧ Ext G0 H0 O0 G' H (Own en σ) ∧ RR K G' H H0 σ en v (settle r) ∧ ∀ xs, settle r ≠ .ol xs := by
  cases r with
  | fz t => exact ⟨G, s, x, h, fun _ z => nomatch z⟩
  | plc i => exact ⟨G, s, x, h, fun _ z => nomatch z⟩
  | ol xs =>
    obtain ⟨p, vs, rfl, hp, hg, h0, ho, q⟩ := h
    exact ⟨_, s.freezeT hp hg ho, x.freezeT hg h0, .lst (Rd.of upd_same) (q.mono (Same.upd hg)), fun _ z => nomatch z⟩
end
/-- what an operation gives, by values alone -/
def OR (K : PySem.W.Frag) (G H H0 : Hp) (v : V) : Rs → Prop
  | .fz t => VR K G v t
  | .ol xs => ∃ (p : Addr) (vs : List V), v = .ref p ∧ H0 p = none ∧ G p = none ∧ H p = some (.lst vs) ∧ VRs K G vs xs
  | .plc _ => False
theorem OR.rr {K : PySem.W.Frag} {io : Fx} {G H G' H' H0 : Hp} {σ : L2.St} {en : Env} {v : V} {r : Rs} (s : SR K io G H σ en) (h : OR K G' H' H v r) (back : H0 = H ∨ ∀ b, H0 b ≠ none → H b ≠ none) : RR K G' H' H0 σ en v r := by
  cases r with
  | fz t => exact h
  | plc i => exact h.elim
  | ol xs =>
    obtain ⟨p, vs, rfl, h0, hg, hp, q⟩ := h
    refine ⟨p, vs, rfl, hp, hg, ?_, fun z => ?_, q⟩
    · rcases back with e | k
      · rw [e]; exact h0
      · exact Classical.byContradiction fun n => k p n h0
    · obtain ⟨_, ws, e⟩ := s.ownAt z
      rw [h0] at e; cases e
end Ev

set_option Elab.async false
set_option linter.all false
set_option autoImplicit false
/-! EvC: the operations. -/
namespace Ev
open PySem PySem.Spec PyProof.Rows L2

/-! ### rules for builtins over lists of ints and bools -/
section
variable {X : Cx}
theorem dpInts {K : PySem.W.Frag} {H : Hp} : ∀ ns : List Int, DpAll K H (ns.map V.int) (ns.map PyData.int)
  | [] => .nil
  | n :: r => .cons (.int n) (dpInts r)
theorem dpBools {K : PySem.W.Frag} {H : Hp} : ∀ ns : List Bool, DpAll K H (ns.map V.bl) (ns.map PyData.bool)
  | [] => .nil
  | n :: r => .cons (.bl n) (dpBools r)
theorem depthInts : ∀ ns : List Int, PyData.depthAll (ns.map PyData.int) ≤ 1
  | [] => by simp [PyData.depthAll]
  | n :: r => by
    have := depthInts r
    simp [PyData.depthAll, PyData.depth]
    omega
theorem call_maxI (hh : X.A.handled = none) (hu : X.A.units + 64 < cLine) : CallR X (.builtin "max") (fun xs H Q => ∃ (a : Addr) (n : Int) (ns : List Int), xs = [.ref a] ∧ SqL X.K H a ((n :: ns).map V.int) ∧ Q (.int (ns.foldl max n)) H) := by
  intro pins s σ H xs us Q I r h
  obtain ⟨a, n, ns, rfl, hq, q⟩ := h
  obtain ⟨u, rfl, rx⟩ := vals1 r
  cases rx
  obtain ⟨its, rv, pl, hz⟩ := I.list hq
  obtain ⟨as, ra⟩ := Dp.readsAll I ((n :: ns).map PyData.int) _ its (dpInts _) rv
  refine PySem.W.max_list_data (x := .int n) (xs := ns.map PyData.int) hh pl.isList ra ⟨fun x hx y hy => ?_, fun x hx e => ?_⟩ ?_ fun i v h' tk bs _ rd hk => ?_
  · rw [← List.map_cons, List.mem_map] at hx hy
    obtain ⟨_, _, rfl⟩ := hx
    obtain ⟨_, _, rfl⟩ := hy
    rfl
  · rw [← List.map_cons, List.mem_map] at hx
    obtain ⟨_, _, rfl⟩ := hx
    cases e
  · have := depthInts (n :: ns)
    rw [List.map_cons] at this
    omega
  · rw [PySem.W.maxD_ints] at rd
    cases rd with
    | int m t => exact ⟨.int (ns.foldl max n), H, I.kept (t' := tk) hk, ⟨t, rfl⟩, q⟩
theorem call_minI (hh : X.A.handled = none) (hu : X.A.units + 64 < cLine) : CallR X (.builtin "min") (fun xs H Q => ∃ (a : Addr) (n : Int) (ns : List Int), xs = [.ref a] ∧ SqL X.K H a ((n :: ns).map V.int) ∧ Q (.int (ns.foldl min n)) H) := by
  intro pins s σ H xs us Q I r h
  obtain ⟨a, n, ns, rfl, hq, q⟩ := h
  obtain ⟨u, rfl, rx⟩ := vals1 r
  cases rx
  obtain ⟨its, rv, pl, hz⟩ := I.list hq
  obtain ⟨as, ra⟩ := Dp.readsAll I ((n :: ns).map PyData.int) _ its (dpInts _) rv
  refine PySem.W.min_list_data (x := .int n) (xs := ns.map PyData.int) hh pl.isList ra ⟨fun x hx y hy => ?_, fun x hx e => ?_⟩ ?_ fun i v h' tk bs _ rd hk => ?_
  · rw [← List.map_cons, List.mem_map] at hx hy
    obtain ⟨_, _, rfl⟩ := hx
    obtain ⟨_, _, rfl⟩ := hy
    rfl
  · rw [← List.map_cons, List.mem_map] at hx
    obtain ⟨_, _, rfl⟩ := hx
    cases e
  · have := depthInts (n :: ns)
    rw [List.map_cons] at this
    omega
  · rw [PySem.W.minD_ints] at rd
    cases rd with
    | int m t => exact ⟨.int (ns.foldl min n), H, I.kept (t' := tk) hk, ⟨t, rfl⟩, q⟩
theorem plainBools : ∀ ns : List Bool, PyData.plainAll (ns.map PyData.bool) = true
  | [] => rfl
  | n :: r => by simp [PyData.plainAll, PyData.plain, plainBools r]
theorem truthyBools : ∀ ns : List Bool, (ns.map PyData.bool).any PyData.truthy = ns.any id ∧ (ns.map PyData.bool).all PyData.truthy = ns.all id
  | [] => ⟨rfl, rfl⟩
  | n :: r => by
    have h := truthyBools r
    constructor
    · rw [List.map_cons, List.any_cons, List.any_cons, h.1]; rfl
    · rw [List.map_cons, List.all_cons, List.all_cons, h.2]; rfl
theorem call_anyB (hh : X.A.handled = none) : CallR X (.builtin "any") (fun xs H Q => ∃ (a : Addr) (ns : List Bool), xs = [.ref a] ∧ SqL X.K H a (ns.map V.bl) ∧ Q (.bl (ns.any id)) H) := by
  intro pins s σ H xs us Q I r h
  obtain ⟨a, ns, rfl, hq, q⟩ := h
  obtain ⟨u, rfl, rx⟩ := vals1 r
  cases rx
  obtain ⟨its, rv, pl, hz⟩ := I.list hq
  obtain ⟨as, ra⟩ := Dp.readsAll I (ns.map PyData.bool) _ its (dpBools _) rv
  refine PySem.W.any_list_data hh pl.isList ra (plainBools ns) (fun x hx => ?_) fun h' tk hk => ?_
  · rw [List.mem_map] at hx
    obtain ⟨_, _, rfl⟩ := hx
    trivial
  · rw [(truthyBools ns).1]
    exact ⟨.bl (ns.any id), H, I.kept (t' := tk) hk, rfl, q⟩
theorem call_allB (hh : X.A.handled = none) : CallR X (.builtin "all") (fun xs H Q => ∃ (a : Addr) (ns : List Bool), xs = [.ref a] ∧ SqL X.K H a (ns.map V.bl) ∧ Q (.bl (ns.all id)) H) := by
  intro pins s σ H xs us Q I r h
  obtain ⟨a, ns, rfl, hq, q⟩ := h
  obtain ⟨u, rfl, rx⟩ := vals1 r
  cases rx
  obtain ⟨its, rv, pl, hz⟩ := I.list hq
  obtain ⟨as, ra⟩ := Dp.readsAll I (ns.map PyData.bool) _ its (dpBools _) rv
  refine PySem.W.all_list_data hh pl.isList ra (plainBools ns) (fun x hx => ?_) fun h' tk hk => ?_
  · rw [List.mem_map] at hx
    obtain ⟨_, _, rfl⟩ := hx
    trivial
  · rw [(truthyBools ns).2]
    exact ⟨.bl (ns.all id), H, I.kept (t' := tk) hk, rfl, q⟩
theorem intsAre_of : ∀ {ns : List Int} {its : List Value}, Vals (ns.map V.int) its → IntsAre its ns
  | [], _, .nil => .nil
  | n :: r, _, .cons h t => by
    obtain ⟨tk, rfl⟩ := h
    exact .cons _ _ (intsAre_of t)
theorem call_sumI (hh : X.A.handled = none) : CallR X (.builtin "sum") (fun xs H Q => ∃ (a : Addr) (ns : List Int), xs = [.ref a] ∧ SqL X.K H a (ns.map V.int) ∧ Q (.int ns.sum) H) := by
  intro pins s σ H xs us Q I r h
  obtain ⟨a, ns, rfl, hq, q⟩ := h
  obtain ⟨u, rfl, rx⟩ := vals1 r
  cases rx
  obtain ⟨its, rv, pl, hz⟩ := I.list hq
  have hi := intsAre_of rv
  obtain ⟨xs, hx⟩ := hi.allInts.items
  have hl := pl.isList
  rw [hx] at hl
  refine PySem.sum_intListG hh hl fun h' tk t' hk => ?_
  have e : PySem.preSum (numAt xs) xs.size = ns.sum := by
    rw [preSum_eq, List.take_of_length_le (by simp), ← hi.numsOf]
    have z : its = (intItems xs).toList := by rw [← hx]
    rw [z, nums_intItems]
  rw [e]
  exact ⟨.int ns.sum, H, I.kept (t' := tk) hk, ⟨t', rfl⟩, q⟩
end

/-! ### list + list, list.extend(list or tuple), of known or lent lists -/
section
variable {X : Cx} {pins : List (Addr × Obj)} {σ : L2.St} {H : Hp} {s : Shared}
theorem Inv.rd (I : Inv X pins σ H s) {a : Addr} {xs : List V} (h : Rd H a (.lst xs)) : xs.length ≤ sizeLine ∧ ∃ (its : List Value) (n : Nat), Vals xs its ∧ s.heap.get? a = some { cls := .type "list", data := .seq its.toArray n } := h.ok I.hok
def rCatL : R2 := fun x y H Q => ∃ l b xs zs, x = .ref l ∧ y = .ref b ∧ Rd H l (.lst xs) ∧ Rd H b (.lst zs) ∧ xs.length + zs.length ≤ sizeLine ∧ ∀ p, H p = none → Q (.ref p) (upd H p (.lst (xs ++ zs)))
theorem op_catL : OpR X (binaryOp .Add) rCatL := by
  intro pins s σ H x y v u Q I rx ry h
  obtain ⟨l, b, xs, zs, rfl, rfl, hH, hB, hz, q⟩ := h
  cases rx
  cases ry
  obtain ⟨z, its, n, r, e⟩ := Inv.rd I hH
  obtain ⟨z2, its2, n2, r2, e2⟩ := Inv.rd I hB
  have hl := r.length
  have hl2 := r2.length
  refine PySem.P.add_list e e2 ?_ (by rw [List.size_toArray, List.size_toArray]; omega)
  have ea : its.toArray ++ its2.toArray = (its ++ its2).toArray := by simp
  rw [ea]
  exact ⟨.ref _, _, I.lnew (t' := s.toks) (r.append r2) (by rw [List.length_append]; omega), rfl, q _ I.fresh⟩
def rAdd (K : PySem.W.Frag) : R2 := fun x y H Q => (∃ i j, x = .int i ∧ y = .int j ∧ Q (.int (i + j)) H) ∨ rCatA K x y H Q ∨ rCatL x y H Q
theorem op_addG : OpR X (binaryOp .Add) (rAdd X.K) := by
  intro pins s σ H x y v u Q I rx ry h
  rcases h with h | h | h
  · exact op_add pins s σ H x y v u Q I rx ry h
  · exact op_catA pins s σ H x y v u Q I rx ry h
  · exact op_catL pins s σ H x y v u Q I rx ry h
def rExtL : V → List V → Hp → VK → Prop := fun x vs H Q => ∃ l b xs zs, x = .ref l ∧ vs = [.ref b] ∧ H l = some (.lst xs) ∧ Rd H b (.lst zs) ∧ xs.length + zs.length ≤ sizeLine ∧ Q .non (upd H l (.lst (xs ++ zs)))
theorem mt_extL : MtM X "list.extend" rExtL := by
  intro pins s σ H x vs v us Q I rx rv h
  obtain ⟨l, b, xs, zs, rfl, rfl, hH, hB, hz, q⟩ := h
  cases rx
  obtain ⟨u, rfl, ru⟩ := rv.one
  cases ru
  obtain ⟨z, its, n, r, hl, e⟩ := I.lstM hH
  obtain ⟨z2, its2, n2, r2, e2⟩ := Inv.rd I hB
  have hl2 := r2.length
  have hsz : its.toArray.size + its2.toArray.size ≤ sizeLine := by rw [List.size_toArray, List.size_toArray]; omega
  have hlong : ¬ (!its.toArray.isEmpty && Builtin.List.listTooLong (its.toArray.size + its2.toArray.size)) = true := by
    rw [notLongL hsz, Bool.and_false]
    exact Bool.false_ne_true
  refine call_meets F.slot_list_extend ⟨_, e, rfl⟩ F.entry_list_extend (F.args_list_extend_2 _ _)
    (AutoSeq1.list_extend_list_list_0 l its.toArray n b its2.toArray n2 hlong (by rw [List.size_toArray]; omega) (by omega)) ⟨e, e2, ?_⟩
  refine ⟨.non, _, I.lset (its' := its ++ its2) hH e (by simp) (r.append r2) ?_, rfl, q⟩
  rw [List.length_append]
  omega
end

/-! ### values in, values out -/
section
variable {K : PySem.W.Frag} {G H : Hp} {x y : V} {a b : T} {res : Rs} {Q : VK}
abbrev Aft (K : PySem.W.Frag) (G H : Hp) (res : Rs) (Q : VK) : Prop := ∀ G' H' v, Al G H G' H' → OR K G' H' H v res → Q v H'
theorem Aft.val {t : T} {v : V} (h : Aft K G H (.fz t) Q) (s : Same G H) (r : VR K G v t) : Q v H := h G H v (Al.refl s) r
theorem Aft.tup {ts : List T} {vs : List V} (h : Aft K G H (.fz (.tup ts)) Q) (s : Same G H) (r : VRs K G vs ts) : ∀ p, H p = none → Q (.ref p) (upd H p (.tup vs)) := fun p hp =>
  h _ _ _ (Al.both s hp _) (.tup (SqT.of upd_same) (r.mono (Same.upd (s.free hp))))
theorem Aft.lst {ts : List T} {vs : List V} (h : Aft K G H (.ol ts) Q) (s : Same G H) (r : VRs K G vs ts) : ∀ p, H p = none → Q (.ref p) (upd H p (.lst vs)) := fun p hp =>
  h _ _ _ (Al.own s hp _) ⟨p, vs, rfl, hp, s.free hp, upd_same, r⟩

theorem ok_len (s : Same G H) (hx : CR K G H x a) (e : ap1 .len a = some res) (h : Aft K G H res Q) : ∃ y n, [x] = [y] ∧ LenV K y H n ∧ Q (.int n) H := by
  cases a <;> simp [ap1] at e
  case tup xs =>
    subst e
    obtain ⟨p, vs, rfl, h1, h2, _⟩ := hx.tup s
    exact ⟨_, xs.length, rfl, .inr ⟨vs, h1, h2.length.symm⟩, h.val s (.int _)⟩
  case lst xs =>
    subst e
    obtain ⟨p, vs, rfl, h1, h2⟩ := hx.lst s
    exact ⟨_, xs.length, rfl, .inl ⟨vs, .inl h1, h2.length.symm⟩, h.val s (.int _)⟩
  case str z =>
    obtain ⟨hz, rfl⟩ := e
    obtain rfl := hx.str
    exact ⟨_, z.length, rfl, ⟨hz, rfl⟩, h.val s (.int _)⟩
theorem ok_tuple (s : Same G H) (hx : CR K G H x a) (e : ap1 .tuple a = some res) (h : Aft K G H res Q) :
    ∃ p ys, [x] = [.ref p] ∧ ((SqL K H p ys ∧ ∀ l, H l = none → Q (.ref l) (upd H l (.tup ys))) ∨ (SqT K H p ys ∧ Q (.ref p) H)) := by
  cases a <;> simp [ap1] at e
  case tup xs =>
    subst e
    obtain ⟨p, vs, rfl, h1, h2, h3⟩ := hx.tup s
    exact ⟨p, vs, rfl, .inr ⟨h1, h.val s (.tup h3 h2)⟩⟩
  case lst xs =>
    subst e
    obtain ⟨p, vs, rfl, h1, h2⟩ := hx.lst s
    exact ⟨p, vs, rfl, .inl ⟨.inl h1, h.tup s h2⟩⟩
theorem ok_list (s : Same G H) (hx : CR K G H x a) (e : ap1 .list a = some res) (h : Aft K G H res Q) :
    ∃ p ys, [x] = [.ref p] ∧ (SqL K H p ys ∨ SqT K H p ys) ∧ ∀ l, H l = none → Q (.ref l) (upd H l (.lst ys)) := by
  cases a <;> simp [ap1] at e
  case tup xs =>
    subst e
    obtain ⟨p, vs, rfl, h1, h2, h3⟩ := hx.tup s
    exact ⟨p, vs, rfl, .inr h1, h.lst s h2⟩
  case lst xs =>
    subst e
    obtain ⟨p, vs, rfl, h1, h2⟩ := hx.lst s
    exact ⟨p, vs, rfl, .inl (.inl h1), h.lst s h2⟩
theorem ok_int (s : Same G H) (hx : CR K G H x a) (e : ap1 .int a = some res) (h : Aft K G H res Q) :
    (∃ i, [x] = [.int i] ∧ Q (.int i) H) ∨ ∃ k, [x] = [.bl k] ∧ Q (.int (if k then 1 else 0)) H := by
  cases a <;> simp [ap1] at e
  subst e
  obtain rfl := hx.int
  exact .inl ⟨_, rfl, h.val s (.int _)⟩
theorem ok_abs (s : Same G H) (hx : CR K G H x a) (e : ap1 .abs a = some res) (h : Aft K G H res Q) : ∃ i, [x] = [.int i] ∧ Q (.int (if i < 0 then -i else i)) H := by
  cases a <;> simp [ap1] at e
  subst e
  obtain rfl := hx.int
  exact ⟨_, rfl, h.val s (.int _)⟩
theorem ok_neg (s : Same G H) (hx : CR K G H x a) (e : ap1 .neg a = some res) (h : Aft K G H res Q) : rU (fun i => .int (-i)) x H Q := by
  cases a <;> simp [ap1] at e
  subst e
  obtain rfl := hx.int
  exact ⟨_, rfl, h.val s (.int _)⟩
theorem ok_sum (s : Same G H) (hx : CR K G H x a) (e : ap1 .sum a = some res) (h : Aft K G H res Q) : ∃ (p : Addr) (ns : List Int), [x] = [.ref p] ∧ SqL K H p (ns.map V.int) ∧ Q (.int ns.sum) H := by
  cases a <;> simp [ap1] at e
  obtain ⟨ns, h1, rfl⟩ := e
  rw [of_ints? h1] at hx
  obtain ⟨p, vs, rfl, h2, h3⟩ := hx.lst s
  rw [h3.ints] at h2
  exact ⟨p, ns, rfl, .inl h2, h.val s (.int _)⟩
theorem ok_any (s : Same G H) (hx : CR K G H x a) (e : ap1 .any a = some res) (h : Aft K G H res Q) : ∃ (p : Addr) (ns : List Bool), [x] = [.ref p] ∧ SqL K H p (ns.map V.bl) ∧ Q (.bl (ns.any id)) H := by
  cases a <;> simp only [ap1, Option.map_eq_some_iff, reduceCtorEq] at e
  obtain ⟨ns, h1, rfl⟩ := e
  rw [of_bools? h1] at hx
  obtain ⟨p, vs, rfl, h2, h3⟩ := hx.lst s
  rw [h3.bools] at h2
  exact ⟨p, ns, rfl, .inl h2, h.val s (.bl _)⟩
theorem ok_all (s : Same G H) (hx : CR K G H x a) (e : ap1 .all a = some res) (h : Aft K G H res Q) : ∃ (p : Addr) (ns : List Bool), [x] = [.ref p] ∧ SqL K H p (ns.map V.bl) ∧ Q (.bl (ns.all id)) H := by
  cases a <;> simp only [ap1, Option.map_eq_some_iff, reduceCtorEq] at e
  obtain ⟨ns, h1, rfl⟩ := e
  rw [of_bools? h1] at hx
  obtain ⟨p, vs, rfl, h2, h3⟩ := hx.lst s
  rw [h3.bools] at h2
  exact ⟨p, ns, rfl, .inl h2, h.val s (.bl _)⟩
theorem lst_int_cons {xs : List T} {n : Int} {ns : List Int} (h : ints? xs = some ns) : T.int n :: xs = (n :: ns).map T.int := by rw [of_ints? h]; rfl
theorem ok_max (s : Same G H) (hx : CR K G H x a) (e : ap1 .max a = some res) (h : Aft K G H res Q) : ∃ (p : Addr) (n : Int) (ns : List Int), [x] = [.ref p] ∧ SqL K H p ((n :: ns).map V.int) ∧ Q (.int (ns.foldl max n)) H := by
  obtain ⟨n, xs, rfl, ns, h1, rfl⟩ : ∃ n xs, a = .lst (.int n :: xs) ∧ ∃ ns, ints? xs = some ns ∧ .fz (.int (maxI (n :: ns))) = res := by
    unfold ap1 at e
    split at e <;> simp_all
    exact ⟨_, _, ⟨rfl, rfl⟩, e⟩
  rw [lst_int_cons h1] at hx
  obtain ⟨p, vs, rfl, h2, h3⟩ := hx.lst s
  rw [h3.ints] at h2
  exact ⟨p, n, ns, rfl, .inl h2, h.val s (.int _)⟩
theorem ok_min (s : Same G H) (hx : CR K G H x a) (e : ap1 .min a = some res) (h : Aft K G H res Q) : ∃ (p : Addr) (n : Int) (ns : List Int), [x] = [.ref p] ∧ SqL K H p ((n :: ns).map V.int) ∧ Q (.int (ns.foldl min n)) H := by
  obtain ⟨n, xs, rfl, ns, h1, rfl⟩ : ∃ n xs, a = .lst (.int n :: xs) ∧ ∃ ns, ints? xs = some ns ∧ .fz (.int (minI (n :: ns))) = res := by
    unfold ap1 at e
    split at e <;> simp_all
    exact ⟨_, _, ⟨rfl, rfl⟩, e⟩
  rw [lst_int_cons h1] at hx
  obtain ⟨p, vs, rfl, h2, h3⟩ := hx.lst s
  rw [h3.ints] at h2
  exact ⟨p, n, ns, rfl, .inl h2, h.val s (.int _)⟩
theorem CR.isNon (hx : CR K G H x a) : decide (x = V.non) = decide (a = T.non) := by
  cases hx with
  | fz h => cases h <;> simp
  | pl _ _ => simp
theorem ok_isN (s : Same G H) (hx : CR K G H x a) (e : ap1 .isN a = some res) (h : Aft K G H res Q) : Q (.bl (decide (x = .non))) H := by
  simp only [ap1, Option.some.injEq] at e
  subst e
  rw [hx.isNon]
  exact h.val s (.bl _)
theorem ok_notN (s : Same G H) (hx : CR K G H x a) (e : ap1 .notN a = some res) (h : Aft K G H res Q) : Q (.bl (!decide (x = .non))) H := by
  simp only [ap1, Option.some.injEq] at e
  subst e
  rw [hx.isNon]
  exact h.val s (.bl _)

/-! two places -/
theorem ok_add (s : Same G H) (hx : CR K G H x a) (hy : CR K G H y b) (e : ap2 .add a b = some res) (h : Aft K G H res Q) :
    rAdd K x y H Q := by
  unfold ap2 at e
  split at e <;> try (first | contradiction | cases e)
  · obtain rfl := hx.int
    obtain rfl := hy.int
    exact .inl ⟨_, _, rfl, rfl, h.val s (.int _)⟩
  · rename_i xs ys _
    split at e
    · rename_i hl
      cases e
      obtain ⟨p, vs, rfl, h1, h2, h3⟩ := hx.tup s
      obtain ⟨q, ws, rfl, k1, k2, k3⟩ := hy.tup s
      refine .inr (.inl ⟨p, q, vs, ws, rfl, rfl, h1, k1, by rw [h2.length, k2.length]; exact hl, fun z => ?_, fun _ z => ?_, fun _ _ => h.tup s (h2.append k2)⟩)
      · subst z
        cases h2
        exact h.val s (.tup k3 k2)
      · subst z
        cases k2
        rw [List.append_nil] at h
        exact h.val s (.tup h3 h2)
    · cases e
  · rename_i xs ys _
    split at e
    · rename_i hl
      cases e
      obtain ⟨p, vs, rfl, h1, h2⟩ := hx.lst s
      obtain ⟨q, ws, rfl, k1, k2⟩ := hy.lst s
      exact .inr (.inr ⟨p, q, vs, ws, rfl, rfl, h1, k1, by rw [h2.length, k2.length]; exact hl, h.lst s (h2.append k2)⟩)
    · cases e

theorem ok_sub (s : Same G H) (hx : CR K G H x a) (hy : CR K G H y b) (e : ap2 .sub a b = some res) (h : Aft K G H res Q) : rI0 (fun i j => .int (i - j)) x y H Q := by
  cases a <;> cases b <;> simp [ap2] at e
  subst e
  exact ⟨_, _, hx.int, hy.int, h.val s (.int _)⟩
theorem ok_mul (s : Same G H) (hx : CR K G H x a) (hy : CR K G H y b) (e : ap2 .mul a b = some res) (h : Aft K G H res Q) : rI CMul (fun i j => .int (i * j)) x y H Q := by
  cases a <;> cases b <;> simp only [ap2, reduceCtorEq] at e
  split at e
  · rename_i hc
    cases e
    exact ⟨_, _, hx.int, hy.int, hc, h.val s (.int _)⟩
  · cases e
theorem ok_fdiv (s : Same G H) (hx : CR K G H x a) (hy : CR K G H y b) (e : ap2 .fdiv a b = some res) (h : Aft K G H res Q) : rI CDivN (fun i j => .int (i.fdiv j)) x y H Q := by
  cases a <;> cases b <;> simp only [ap2, reduceCtorEq] at e
  split at e
  · rename_i hc
    cases e
    exact ⟨_, _, hx.int, hy.int, hc, h.val s (.int _)⟩
  · cases e
theorem ok_mod (s : Same G H) (hx : CR K G H x a) (hy : CR K G H y b) (e : ap2 .mod a b = some res) (h : Aft K G H res Q) : rI (fun _ j => j ≠ 0) (fun i j => .int (i.fmod j)) x y H Q := by
  cases a <;> cases b <;> simp only [ap2, reduceCtorEq] at e
  split at e
  · rename_i hc
    cases e
    exact ⟨_, _, hx.int, hy.int, hc, h.val s (.int _)⟩
  · cases e
theorem ok_shl (s : Same G H) (hx : CR K G H x a) (hy : CR K G H y b) (e : ap2 .shl a b = some res) (h : Aft K G H res Q) : rI CPow (fun i j => .int (i * 2 ^ j.toNat)) x y H Q := by
  cases a <;> cases b <;> simp only [ap2, reduceCtorEq] at e
  split at e
  · rename_i hc
    cases e
    exact ⟨_, _, hx.int, hy.int, hc, h.val s (.int _)⟩
  · cases e
theorem ok_shr (s : Same G H) (hx : CR K G H x a) (hy : CR K G H y b) (e : ap2 .shr a b = some res) (h : Aft K G H res Q) : rI (fun _ j => 0 ≤ j) (fun i j => .int (i / 2 ^ j.toNat)) x y H Q := by
  cases a <;> cases b <;> simp only [ap2, reduceCtorEq] at e
  split at e
  · rename_i hc
    cases e
    exact ⟨_, _, hx.int, hy.int, hc, h.val s (.int _)⟩
  · cases e
theorem ok_band (s : Same G H) (hx : CR K G H x a) (hy : CR K G H y b) (e : ap2 .band a b = some res) (h : Aft K G H res Q) : rI0 (fun i j => .int (Builtin.bitAnd i j)) x y H Q := by
  cases a <;> cases b <;> simp [ap2] at e
  subst e
  exact ⟨_, _, hx.int, hy.int, h.val s (.int _)⟩
theorem ok_bor (s : Same G H) (hx : CR K G H x a) (hy : CR K G H y b) (e : ap2 .bor a b = some res) (h : Aft K G H res Q) : rI0 (fun i j => .int (Builtin.bitOr i j)) x y H Q := by
  cases a <;> cases b <;> simp [ap2] at e
  subst e
  exact ⟨_, _, hx.int, hy.int, h.val s (.int _)⟩
theorem ok_lt (s : Same G H) (hx : CR K G H x a) (hy : CR K G H y b) (e : ap2 .lt a b = some res) (h : Aft K G H res Q) : rI0 (fun i j => .bl (decide (i < j))) x y H Q := by
  cases a <;> cases b <;> simp [ap2] at e
  subst e
  exact ⟨_, _, hx.int, hy.int, h.val s (.bl _)⟩
theorem ok_le (s : Same G H) (hx : CR K G H x a) (hy : CR K G H y b) (e : ap2 .le a b = some res) (h : Aft K G H res Q) : rI0 (fun i j => .bl (decide (i ≤ j))) x y H Q := by
  cases a <;> cases b <;> simp [ap2] at e
  subst e
  exact ⟨_, _, hx.int, hy.int, h.val s (.bl _)⟩
theorem ok_gt (s : Same G H) (hx : CR K G H x a) (hy : CR K G H y b) (e : ap2 .gt a b = some res) (h : Aft K G H res Q) : rI0 (fun i j => .bl (decide (j < i))) x y H Q := by
  cases a <;> cases b <;> simp [ap2] at e
  subst e
  exact ⟨_, _, hx.int, hy.int, h.val s (.bl _)⟩
theorem ok_ge (s : Same G H) (hx : CR K G H x a) (hy : CR K G H y b) (e : ap2 .ge a b = some res) (h : Aft K G H res Q) : rI0 (fun i j => .bl (decide (j ≤ i))) x y H Q := by
  cases a <;> cases b <;> simp [ap2] at e
  subst e
  exact ⟨_, _, hx.int, hy.int, h.val s (.bl _)⟩
theorem ok_eq (s : Same G H) (hx : CR K G H x a) (hy : CR K G H y b) (e : ap2 .eq a b = some res) (h : Aft K G H res Q) : rEqD K x y H Q := by
  simp only [ap2] at e
  split at e
  · rename_i hc
    cases e
    exact ⟨_, _, (hx.vr s).dp, (hy.vr s).dp, hc.1, hc.2, h.val s (.bl _)⟩
  · cases e
theorem ok_ne (s : Same G H) (hx : CR K G H x a) (hy : CR K G H y b) (e : ap2 .ne a b = some res) (h : Aft K G H res Q) : rNeD K x y H Q := by
  simp only [ap2] at e
  split at e
  · rename_i hc
    cases e
    exact ⟨_, _, (hx.vr s).dp, (hy.vr s).dp, hc.1, hc.2, h.val s (.bl _)⟩
  · cases e
theorem any_pds (xs : List T) (d : PyData) : ((T.pds xs).any fun z => PyData.eqv z d) = xs.any fun z => PyData.eqv z.pd d := by
  rw [T.pds_map, List.any_map]; rfl
theorem ok_inn (s : Same G H) (hx : CR K G H x a) (hy : CR K G H y b) (e : ap2 .inn a b = some res) (h : Aft K G H res Q) : rInD K x y H Q := by
  cases b <;> simp only [ap2, reduceCtorEq] at e
  split at e
  · rename_i hc
    cases e
    refine ⟨_, _, (hx.vr s).dp, (hy.vr s).dp, hc.1, hc.2, ?_⟩
    rw [any_pds]
    exact h.val s (.bl _)
  · cases e
theorem ok_notin (s : Same G H) (hx : CR K G H x a) (hy : CR K G H y b) (e : ap2 .notin a b = some res) (h : Aft K G H res Q) : rNotInD K x y H Q := by
  cases b <;> simp only [ap2, reduceCtorEq] at e
  split at e
  · rename_i hc
    cases e
    refine ⟨_, _, (hx.vr s).dp, (hy.vr s).dp, hc.1, hc.2, ?_⟩
    rw [any_pds]
    exact h.val s (.bl _)
  · cases e
theorem at_rel {vs : List V} {xs : List T} {i : Int} {t : T} (r : VRs K G vs xs) (e : atI xs i = some t) : ∃ v, atI vs i = some v ∧ VR K G v t := by
  unfold atI at e ⊢
  rw [r.length]
  cases q : ixN xs.length i with
  | none => rw [q] at e; cases e
  | some j => rw [q] at e; exact r.get e
theorem ok_ix (s : Same G H) (hx : CR K G H x a) (hy : CR K G H y b) (e : ap2 .ix a b = some res) (h : Aft K G H res Q) : rIxL K x y H Q ∨ rIxT K x y H Q := by
  cases a <;> cases b <;> simp only [ap2, reduceCtorEq, Option.map_eq_some_iff] at e
  · obtain ⟨t, h1, rfl⟩ := e
    obtain ⟨p, vs, rfl, h2, h3, _⟩ := hx.tup s
    obtain ⟨v, h4, h5⟩ := at_rel h3 h1
    exact .inr ⟨p, vs, _, v, rfl, hy.int, h2, h4, h.val s h5⟩
  · obtain ⟨t, h1, rfl⟩ := e
    obtain ⟨p, vs, rfl, h2, h3⟩ := hx.lst s
    obtain ⟨v, h4, h5⟩ := at_rel h3 h1
    exact .inl ⟨p, vs, _, v, rfl, hy.int, .inl h2, h4, h.val s h5⟩
theorem ok_max2 (s : Same G H) (hx : CR K G H x a) (hy : CR K G H y b) (e : ap2 .max2 a b = some res) (h : Aft K G H res Q) : ∃ i j, [x, y] = [.int i, .int j] ∧ Q (.int (if j > i then j else i)) H := by
  cases a <;> cases b <;> simp [ap2] at e
  subst e
  rw [hx.int, hy.int]
  exact ⟨_, _, rfl, h.val s (.int _)⟩
theorem ok_min2 (s : Same G H) (hx : CR K G H x a) (hy : CR K G H y b) (e : ap2 .min2 a b = some res) (h : Aft K G H res Q) : ∃ i j, [x, y] = [.int i, .int j] ∧ Q (.int (if j < i then j else i)) H := by
  cases a <;> cases b <;> simp [ap2] at e
  subst e
  rw [hx.int, hy.int]
  exact ⟨_, _, rfl, h.val s (.int _)⟩
theorem ok_index (s : Same G H) (hx : CR K G H x a) (hy : CR K G H y b) (e : ap2 .index a b = some res) (h : Aft K G H res Q) : rIndexD K x [y] H Q := by
  cases a <;> simp only [ap2, reduceCtorEq] at e
  split at e
  · rename_i xs hc
    simp only [Option.map_eq_some_iff] at e
    obtain ⟨j, h1, rfl⟩ := e
    obtain ⟨p, vs, rfl, h2, h3⟩ := hx.lst s
    rw [List.findIdx?_eq_some_iff_getElem] at h1
    obtain ⟨hl, h4, h5⟩ := h1
    refine ⟨p, y, _, _, j, (xs[j]).pd, rfl, rfl, (hx.vr s).dp, (hy.vr s).dp, hc.2, hc.1, ?_, h4, fun m z hm hz => ?_, h.val s (.int _)⟩
    · rw [T.pds_map, List.getElem?_map, List.getElem?_eq_getElem hl]; rfl
    · rw [T.pds_map, List.getElem?_map, List.getElem?_eq_getElem (by omega)] at hz
      cases hz
      have := h5 m hm
      simpa using this
  · cases e
/-- slices -/
theorem VRs.cut {vs : List V} {xs : List T} (r : VRs K G vs xs) (lo hi : Option Int) : VRs K G (cutV vs lo hi) ((xs.drop (HT.sIx xs.length 0 lo)).take (HT.sIx xs.length xs.length hi - HT.sIx xs.length 0 lo)) := by
  unfold cutV
  rw [r.length]
  exact (r.drop _).take _
theorem ok_sl {lo hi : Option Int} (s : Same G H) (hx : CR K G H x a) (e : apSl a lo hi = some res) (h : Aft K G H res Q) : rSlL K x lo hi H Q ∨ rSlA K x lo hi H Q := by
  cases a <;> simp only [apSl, reduceCtorEq, Option.some.injEq] at e
  · subst e
    rename_i xs
    obtain ⟨p, vs, rfl, h1, h2, h3⟩ := hx.tup s
    refine .inr ⟨p, vs, rfl, h1, fun hw => ?_, fun hw => h.tup s (h2.cut lo hi)⟩
    rw [h2.length] at hw
    rw [hw.1, hw.2, List.drop_zero, Nat.sub_zero, List.take_length] at h
    exact h.val s (.tup h3 h2)
  · subst e
    obtain ⟨p, vs, rfl, h1, h2⟩ := hx.lst s
    exact .inl ⟨p, vs, rfl, .inl h1, h.lst s (h2.cut lo hi)⟩
theorem sl_both {X : Cx} : L2.SlR X (fun x lo hi H Q => rSlL X.K x lo hi H Q ∨ rSlA X.K x lo hi H Q) := by
  intro pins s σ H x v vl vu lo hi sl Q I rx hs pl pu h
  rcases h with h | h
  · exact sl_list pins s σ H x v vl vu lo hi sl Q I rx hs pl pu h
  · exact sl_tupA pins s σ H x v vl vu lo hi sl Q I rx hs pl pu h
end

/-! ### lists that are changed -/
section
variable {K : PySem.W.Frag} {io : Fx} {G H : Hp} {σ : L2.St} {en : Env}
theorem SR.change {i : Nat} {s s' : Sl} {a : Addr} {vs ws : List V} (r : SR K io G H σ en) (e : en[i]? = some s) (ho : s.own = true) (ho' : s'.own = s.own) (hi : s'.isIo = s.isIo) (e1 : σ[i]? = some (some (.ref a))) (h : H a = some (.lst vs))
    (q : SlR K io.B G (upd H a (.lst ws)) (some (some (.ref a))) s') : SR K io G (upd H a (.lst ws)) σ (en.set i s') ∧ Ext G H (Own en σ) G (upd H a (.lst ws)) (Own (en.set i s') σ) := by
  have hown : Own en σ a := ⟨i, s, e, ho, e1⟩
  have g : G a = none := (r.ownAt hown).1
  have ne : ∀ b o, G b = some o → b ≠ a := fun b o z y => by subst y; rw [g] at z; cases z
  refine ⟨⟨fun b o z => by rw [upd_ne (ne b o z)]; exact r.same _ _ z, by rw [List.length_set]; exact r.len, fun j t z => ?_, fun j k t u b z1 z2 o1 o2 n y1 => ?_, ?_, fun b z => ?_⟩, ⟨Same.refl _, fun b o z n => by rw [upd_ne (fun y => n (by subst y; exact hown))]; exact z, fun b z => ?_, fun b z => ?_, fun b z => .inl z⟩⟩
  · rcases get_set z with ⟨rfl, rfl⟩ | ⟨n, z⟩
    · rw [e1]; exact q
    · have y := r.sl j t z
      have nj : ∀ b, σ[j]? = some (some (.ref b)) → (t.own || t.lent) = true → b ≠ a := fun b w o z2 => r.sep i j _ _ a e z ho o (Ne.symm n) e1 (by rw [w, z2])
      cases t with
      | no => trivial
      | fz t => exact y
      | ol ys => obtain ⟨b, ws, e2, g2, h2, q2⟩ := y; exact ⟨b, ws, e2, g2, by rw [upd_ne (nj b e2 rfl)]; exact h2, q2⟩
      | io ys => obtain ⟨b, ws, e2, g2, h2, q2⟩ := y; exact ⟨b, ws, e2, g2, by rw [upd_ne (nj b e2 rfl)]; exact h2, q2⟩
      | bl ys =>
        obtain ⟨b, ws, e2, hb, h2, q2⟩ := y
        refine ⟨b, ws, e2, hb, ?_, q2⟩
        unfold Rd
        rw [upd_ne (nj b e2 rfl)]; exact h2
  · rcases get_set z1 with ⟨rfl, rfl⟩ | ⟨n1, w1⟩
    · rcases get_set z2 with ⟨rfl, rfl⟩ | ⟨n2, w2⟩
      · exact absurd rfl n
      · exact r.sep j k s u b e w2 ho o2 n y1
    · rcases get_set z2 with ⟨rfl, rfl⟩ | ⟨n2, w2⟩
      · exact r.sep j k t s b w1 e o1 (by rw [ho]; rfl) n y1
      · exact r.sep j k t u b w1 w2 o1 o2 n y1
  · have rio := r.iok
    unfold IoR at rio ⊢
    cases hio : io.a with
    | none =>
      rw [hio] at rio
      intro j t z
      rcases get_set z with ⟨rfl, rfl⟩ | ⟨_, z⟩
      · rw [hi]; exact rio j s e
      · exact rio j t z
    | some c =>
      rw [hio] at rio
      obtain ⟨⟨ys, h1⟩, h2, h3⟩ := rio
      by_cases n0 : i = 0
      · subst n0
        rw [e] at h1
        cases h1
        have z : ∃ zs, s' = .io zs := by cases s' <;> simp [Sl.isIo] at hi ⊢
        obtain ⟨zs, rfl⟩ := z
        refine ⟨⟨zs, List.getElem?_set_self (lt_of_get e)⟩, h2, fun j ys z => ?_⟩
        rcases get_set z with ⟨rfl, _⟩ | ⟨_, z⟩
        · rfl
        · exact h3 j ys z
      · refine ⟨⟨ys, by rw [List.getElem?_set_ne n0]; exact h1⟩, h2, fun j ys z => ?_⟩
        rcases get_set z with ⟨rfl, y⟩ | ⟨_, z⟩
        · subst y
          cases s with
          | io q => exact h3 _ q e
          | _ => simp [Sl.isIo] at hi
        · exact h3 j ys z
  · have z := r.bl b z
    by_cases hb : b = a
    · subst hb; rw [upd_same]; simp
    · rw [upd_ne hb]; exact z
  · by_cases hb : b = a
    · subst hb; rw [upd_same]; simp
    · rw [upd_ne hb]; exact z
  · obtain ⟨j, t, z1, z2, z3⟩ := z
    rcases get_set z1 with ⟨rfl, rfl⟩ | ⟨_, z1⟩
    · exact .inl ⟨j, s, e, ho, z3⟩
    · exact .inl ⟨j, t, z1, z2, z3⟩
end
/-- a list that no slot has is changed -/
theorem SR.updD {K : PySem.W.Frag} {io : Fx} {G H : Hp} {σ : L2.St} {en : Env} {D : Addr} {vs ws : List V} (r : SR K io G H σ en) (h : H D = some (.lst vs)) (hg : G D = none) (ho : ¬ Own en σ D) (hb : io.B D = none) : SR K io G (upd H D (.lst ws)) σ en where
  same := fun b o z => by rw [upd_ne (fun y => by subst y; rw [hg] at z; cases z)]; exact r.same _ _ z
  len := r.len
  sl := fun i s e => by
    have y := r.sl i s e
    cases s with
    | no => trivial
    | fz t => exact y
    | ol ys => obtain ⟨b, us, e2, g2, h2, q2⟩ := y; exact ⟨b, us, e2, g2, by rw [upd_ne (fun w => ho (by subst w; exact ⟨i, _, e, rfl, e2⟩))]; exact h2, q2⟩
    | io ys => obtain ⟨b, us, e2, g2, h2, q2⟩ := y; exact ⟨b, us, e2, g2, by rw [upd_ne (fun w => ho (by subst w; exact ⟨i, _, e, rfl, e2⟩))]; exact h2, q2⟩
    | bl ys =>
      obtain ⟨b, us, e2, hb2, h2, q2⟩ := y
      refine ⟨b, us, e2, hb2, ?_, q2⟩
      unfold Rd
      rw [upd_ne (fun w => by subst w; exact hb2 hb)]; exact h2
  sep := r.sep
  iok := r.iok
  bl := fun b z => by
    by_cases e : b = D
    · subst e; exact absurd hb z
    · rw [upd_ne e]; exact r.bl b z
/-- what a method asks, and what it leaves -/
def rM : Mt → V → List V → Hp → VK → Prop
  | .append => rAppend
  | .pop => rPop
  | .popAt => rPopAt
  | .extend => rExtL
theorem mt_all {X : Cx} : ∀ m : Mt, MtM X (match m with | .append => "list.append" | .pop => "list.pop" | .popAt => "list.pop" | .extend => "list.extend") (rM m)
  | .append => mt_append
  | .pop => mt_pop
  | .popAt => mt_popAt
  | .extend => mt_extL
theorem ok_mth {K : PySem.W.Frag} {G H : Hp} {m : Mt} {a : Addr} {vs us : List V} {xs ts ys : List T} {t : T} {Q : VK} (s : Same G H) (h : H a = some (.lst vs)) (q : VRs K G vs xs) (r : VRs K G us ts) (e : apM m xs ts = some (t, ys))
    (k : ∀ v ws, VR K G v t → VRs K G ws ys → Q v (upd H a (.lst ws))) : rM m (.ref a) us H Q := by
  unfold apM at e
  split at e <;> try (first | contradiction | cases e)
  · split at e
    · cases e
      cases r with
      | cons r1 r2 =>
        cases r2
        exact ⟨a, vs, _, rfl, rfl, h, by rw [q.length]; assumption, k _ _ .non (q.append (.cons r1 .nil))⟩
    · cases e
  · simp only [Option.map_eq_some_iff, Prod.mk.injEq] at e
    obtain ⟨y, h1, rfl, rfl⟩ := e
    cases r
    obtain ⟨v, h2, h3⟩ := q.get h1
    exact ⟨a, vs, v, rfl, rfl, h, by rw [q.length]; exact h2, k _ _ h3 q.dropLast⟩
  · simp only [Option.map_eq_some_iff, Prod.mk.injEq] at e
    obtain ⟨y, h1, rfl, rfl⟩ := e
    cases r with
    | cons r1 r2 =>
      cases r2
      cases r1
      obtain ⟨v, h2, h3⟩ := q.get h1
      refine ⟨a, vs, 0, 0, v, rfl, rfl, h, by decide, by decide, ?_, h2, k _ _ h3 (q.eraseIdx 0)⟩
      have : 0 < vs.length := lt_of_get h2
      exact seqIndex_of (k := 0) (by decide) (by omega)
  · split at e
    · cases e
      cases r with
      | cons r1 r2 =>
        cases r2
        cases r1 with
        | lst r3 r4 =>
          exact ⟨a, _, vs, _, rfl, rfl, h, sameR s r3, by rw [q.length, r4.length]; assumption, k _ _ .non (q.append r4)⟩
    · cases e
end Ev

set_option Elab.async false
set_option linter.all false
set_option autoImplicit false
/-! EvD: from the text to the small language. -/
namespace Ev
open PySem

structure Cfg where
  N : List Str
  FT : List Str
  ok : List Nat
  CN : List (Str × T)
  KT : List Str
def findIx : List Str → Str → Option Nat
  | [], _ => none
  | y :: r, x => if y = x then some 0 else (findIx r x).map (· + 1)
theorem findIx_at : ∀ {l : List Str} {x : Str} {i : Nat}, findIx l x = some i → l[i]? = some x
  | [], _, _, h => by simp [findIx] at h
  | y :: r, x, i, h => by
    unfold findIx at h
    split at h
    · rename_i e; cases h; rw [e]; rfl
    · simp only [Option.map_eq_some_iff] at h
      obtain ⟨j, h1, rfl⟩ := h
      simpa using findIx_at h1
def visB (sc : Scope) (x : Str) : Bool :=
  match sc.names.lookup x with
  | some .local => true
  | some .cell => true
  | some .free => true
  | _ => false
def glB (sc : Scope) (x : Str) : Bool :=
  match sc.names.lookup x with
  | some .globalImplicit => true
  | _ => false
def plainN (x : Str) : Bool := !(x == ("__debug__" : Str)) && !(x == ("__classdict__" : Str))
def locB (sc : Scope) (x : Str) : Bool :=
  match sc.names.lookup x with
  | some .local => true
  | some .cell => true
  | _ => false
def noStar : Expr → Bool
  | .Starred _ _ => false
  | _ => true
def noSlice : Expr → Bool
  | .Slice _ _ _ _ => false
  | _ => true
def opOf : Operator → Option P2
  | .Add => some .add
  | .Sub => some .sub
  | .Mult => some .mul
  | .FloorDiv => some .fdiv
  | .Mod => some .mod
  | .LShift => some .shl
  | .RShift => some .shr
  | .BitAnd => some .band
  | .BitOr => some .bor
  | _ => none
def cmpOf : CmpOp → Option P2
  | .Eq => some .eq
  | .NotEq => some .ne
  | .Lt => some .lt
  | .LtE => some .le
  | .Gt => some .gt
  | .GtE => some .ge
  | .In => some .inn
  | .NotIn => some .notin
  | _ => none
def b1 (x : Str) : Option P1 :=
  if x = "len" then some .len else if x = "tuple" then some .tuple else if x = "list" then some .list else if x = "int" then some .int
  else if x = "abs" then some .abs else if x = "sum" then some .sum else if x = "any" then some .any else if x = "all" then some .all
  else if x = "max" then some .max else if x = "min" then some .min else none
def b2 (x : Str) : Option P2 :=
  if x = "max" then some .max2 else if x = "min" then some .min2 else none
def mtOf (m : Str) (k : Nat) : Option Mt :=
  if m = "append" ∧ k = 1 then some .append else if m = "pop" ∧ k = 0 then some .pop else if m = "pop" ∧ k = 1 then some .popAt
  else if m = "extend" ∧ k = 1 then some .extend else none
def BN : List Str := ["len", "tuple", "list", "int", "abs", "sum", "any", "all", "max", "min", "range"]
mutual
def tgOf (c : Cfg) (sc : Scope) (fb : Str → Bool) : Nat → Expr → Option Tg
  | 0, _ => none
  | n + 1, .Name x _ => (findIx c.N x).bind fun i => if sc.names.lookup x = some .local ∨ (sc.names.lookup x = some .cell ∧ fb x = true) then some (.v i) else none
  | n + 1, .Tuple es _ _ => (tgsOf c sc fb n es).map .tp
  | _ + 1, _ => none
def tgsOf (c : Cfg) (sc : Scope) (fb : Str → Bool) : Nat → List Expr → Option Tg
  | 0, _ => none
  | _ + 1, [] => some .nil
  | n + 1, e :: r => if noStar e then (tgOf c sc fb n e).bind fun a => (tgsOf c sc fb n r).map (.cons a) else none
end
def tgSlots : Tg → List Nat
  | .v i => [i]
  | .nil => []
  | .cons a r => tgSlots a ++ tgSlots r
  | .tp l => tgSlots l
def tgNames (N : List Str) (t : Tg) : List (Str × Nat) := (tgSlots t).map fun i => (N.getD i "", i)
def isNonC : Expr → Bool
  | .Constant .none _ _ => true
  | _ => false
mutual
/-- an expression as a value -/
def toE (c : Cfg) : Nat → Scope → Expr → Option E
  | 0, _, _ => none
  | n + 1, sc, e => match e with
    | .Constant .none _ _ => some (.lit .non)
    | .Constant (.bool b) _ _ => some (.lit (.bl b))
    | .Constant (.int i) _ _ => some (.lit (.int i))
    | .Constant (.str s) _ _ => some (.lit (.str s))
    | .Name x _ => if glB sc x && plainN x then (c.CN.lookup x).map .lit else if visB sc x && plainN x then (findIx c.N x).map .var else none
    | .Tuple es _ _ => (toL c n sc es).map .tup
    | .List es _ => (toL c n sc es).map .lst
    | .BinOp a op b _ => (opOf op).bind fun o => (toE c n sc a).bind fun x => (toE c n sc b).map fun y => .p2 o x y
    | .UnaryOp .USub a _ => (toE c n sc a).map (.p1 .neg)
    | .UnaryOp .Not a _ => (toE c n sc a).map .not
    | .BoolOp op vs _ => toBV c n op sc vs
    | .Compare a [op] [b] _ =>
      if isNonC b then (match op with | .Is => (toE c n sc a).map (.p1 .isN) | .IsNot => (toE c n sc a).map (.p1 .notN) | _ => none)
      else (cmpOf op).bind fun o => if behindInMarks op b then none else (toE c n sc a).bind fun x => (toE c n sc b).map fun y => .p2 o x y
    | .Compare a [op, op'] [b, d] _ => (cmpOf op).bind fun o => (cmpOf op').bind fun o' => if lastMarks [op, op'] [b, d] then none else
        (toE c n sc a).bind fun x => (toE c n sc b).bind fun y => (toE c n sc d).map fun z => .chain o o' x y z
    | .IfExp t a b _ => (toC c n sc t).bind fun x => (toE c n sc a).bind fun y => (toE c n sc b).map fun z => .ite x y z
    | .Call (.Name x _) args [] _ =>
      if glB sc x && plainN x && !(x == ("__name__" : Str)) then
        match findIx c.FT x with
        | some f => if c.ok.contains f && !args.isEmpty then (toL c n sc args).map (.call f) else none
        | none => match args with
          | [a] => (b1 x).bind fun o => if noStar a then (toE c n sc a).map (.p1 o) else none
          | [a, b] => (b2 x).bind fun o => if noStar a && noStar b then (toE c n sc a).bind fun y => (toE c n sc b).map fun z => .p2 o y z else none
          | _ => none
      else none
    | .Call (.Attribute o m ap) args [] cp =>
      if ap.endLine == cp.line then
        match o with
        | .Name x _ => if visB sc x && plainN x then (findIx c.N x).bind fun i => (mtOf m args.length).bind fun q => (toL c n sc args).map (.mth q i) else none
        | .ListComp _ _ _ _ => match args with
          | [a] => if m = "index" && noStar a then (toE c n sc o).bind fun x => (toE c n sc a).map fun y => .p2 .index x y else none
          | _ => none
        | _ => none
      else none
    | .Subscript a (.Slice lo hi none _) _ => (toE c n sc a).bind fun x => (toO c n sc lo).bind fun y => (toO c n sc hi).map fun z => .sl x y z
    | .Subscript a b _ => if noSlice b then (toE c n sc a).bind fun x => (toE c n sc b).map fun y => .p2 .ix x y else none
    | .ListComp elt [⟨tg, it, ifs, 0⟩] scope _ =>
      let s2 := L2.relS scope sc
      (toI c n sc tg it).bind fun i => (tgOf c s2 (fun x => scope.names.lookup x == some .cell) n tg).bind fun t => if L2.blkC c.N sc scope (tgNames c.N t) then
        (toIf c n s2 ifs).bind fun q => (toE c n s2 elt).map fun x => .comp x t i q (tgSlots t)
      else none
    | _ => none
def toO (c : Cfg) : Nat → Scope → Option Expr → Option E
  | 0, _, _ => none
  | _ + 1, _, none => some (.lit .non)
  | n + 1, sc, some e => toE c n sc e
def toL (c : Cfg) : Nat → Scope → List Expr → Option E
  | 0, _, _ => none
  | _ + 1, _, [] => some .nil
  | n + 1, sc, e :: r => if noStar e then (toE c n sc e).bind fun x => (toL c n sc r).map (.cons x) else none
def toBV (c : Cfg) : Nat → BoolOp → Scope → List Expr → Option E
  | 0, _, _, _ => none
  | _ + 1, _, _, [] => none
  | n + 1, _, sc, [e] => toE c n sc e
  | n + 1, op, sc, e :: r => (toE c n sc e).bind fun x => (toBV c n op sc r).map fun y => match op with | .And => .and x y | .Or => .or x y
/-- a test -/
def toC (c : Cfg) : Nat → Scope → Expr → Option E
  | 0, _, _ => none
  | n + 1, sc, e => match e with
    | .UnaryOp .Not a _ => (toC c n sc a).map .not
    | .BoolOp op vs _ => toBC c n op sc vs
    | .Compare a [op] [b] _ =>
      if isNonC b then (match op with | .Is => (toE c n sc a).map (.p1 .isN) | .IsNot => (toE c n sc a).map (.p1 .notN) | _ => none)
      else (cmpOf op).bind fun o => if behindInMarks op b then none else (toE c n sc a).bind fun x => (toE c n sc b).map fun y => .p2 o x y
    | .Compare a [op, op'] [b, d] _ => (cmpOf op).bind fun o => (cmpOf op').bind fun o' => if lastMarks [op, op'] [b, d] then none else
        (toE c n sc a).bind fun x => (toE c n sc b).bind fun y => (toE c n sc d).map fun z => .chain o o' x y z
    | .Name .. => toE c n sc e
    | .Call .. => toE c n sc e
    | .Constant .. => toE c n sc e
    | .Subscript .. => toE c n sc e
    | _ => none
def toBC (c : Cfg) : Nat → BoolOp → Scope → List Expr → Option E
  | 0, _, _, _ => none
  | _ + 1, _, _, [] => none
  | n + 1, _, sc, [e] => toC c n sc e
  | n + 1, op, sc, e :: r => (toC c n sc e).bind fun x => (toBC c n op sc r).map fun y => match op with | .And => .and x y | .Or => .or x y
def toIf (c : Cfg) : Nat → Scope → List Expr → Option E
  | 0, _, _ => none
  | _ + 1, _, [] => some (.lit (.bl true))
  | n + 1, sc, [e] => toC c n sc e
  | _ + 1, _, _ => none
/-- what is walked -/
def toI (c : Cfg) : Nat → Scope → Expr → Expr → Option E
  | 0, _, _, _ => none
  | n + 1, sc, tg, e => match e with
    | .Call (.Name x _) args [] _ =>
      if x = "range" && glB sc x && (findIx c.FT x).isNone then
        match args with
        | [a] => if noStar a then (toE c n sc a).map .rng1 else none
        | [a, b] => if noStar a && noStar b then (toE c n sc a).bind fun y => (toE c n sc b).map fun z => .rng2 y z else none
        | [a, b, d] => if noStar a && noStar b && noStar d then (toE c n sc a).bind fun y => (toE c n sc b).bind fun z => (toE c n sc d).map fun w => .rng3 y z w else none
        | _ => none
      else (toE c n sc e).map .it1
    | .Name .. => (toE c n sc e).map .it1
    | .Subscript .. => (toE c n sc e).map .it1
    | .BinOp .. => (toE c n sc e).map .it1
    | .ListComp .. => (toE c n sc e).map .it1
    | .List .. => (toE c n sc e).map .it1
    | .Tuple .. => (toE c n sc e).map .it1
    | .Attribute .. => (toE c n sc e).map .it1
    | _ => none
end

def isComp : Expr → Bool
  | .ListComp .. => true
  | .SetComp .. => true
  | .DictComp .. => true
  | _ => false
def isTup : Expr → Bool
  | .Tuple .. => true
  | .List .. => true
  | _ => false
def isNameE : Expr → Bool
  | .Name .. => true
  | _ => false
def distinctB : Option Nat → Option Nat → Bool
  | some i, some j => i != j
  | _, _ => false
/-- a name = [..] of a def: stored ahead of the block's end, or behind it -/
def swapB (sc : Scope) (x : Str) (py epos : Pos) (scope : Scope) : Bool :=
  decide (sc.names.lookup x = some .local) && (py.line == epos.line) && !(scope.names.any fun (n, k) => n == x && (k == .local || k == .cell))
mutual
def toS (c : Cfg) : Nat → Scope → Stmt → Option S
  | 0, _, _ => none
  | n + 1, sc, s => match s with
    | .Expr e _ => if isComp e then none else (toE c n sc e).map .expr
    | .Assign [.Name x py] e pos => (findIx c.N x).bind fun i => if locB sc x then
        (match e with
          | .ListComp elt [g] scope epos => if swapB sc x py epos scope || !(decide (sc.names.lookup x = some .local) && (py.line == epos.line) && !(scope.names.any fun (n, k) => n == x && (k == .local || k == .cell))) then (toE c n sc e).map (.asg (.v i)) else none
          | e => if isComp e then none else (toE c n sc e).map (.asg (.v i)))
        else none
    | .Assign [.Tuple ts k tp] e _ => if isComp e || isTup e then none else (tgOf c sc (fun _ => true) n (.Tuple ts k tp)).bind fun t => (toE c n sc e).map (.asg t)
    | .Assign [.Subscript (.Name x _) ix _] e _ => (findIx c.N x).bind fun i => if visB sc x && plainN x && noSlice ix && !isComp e then (toE c n sc ix).bind fun k => (toE c n sc e).map (.setix i k) else none
    | .AugAssign (.Name x _) op e _ => (findIx c.N x).bind fun i => (opOf op).bind fun o => if locB sc x && augOk o then (toE c n sc e).map (.aug i o) else none
    | .If t a b _ => (toC c n sc t).bind fun x => (toSs c n sc a).bind fun y => (toSs c n sc b).map (.ite x y)
    | .While t b [] _ => (toC c n sc t).bind fun x => (toSs c n sc b).map (.whl x)
    | .For tg it b [] _ => (toI c n sc tg it).bind fun i => (tgOf c sc (fun _ => true) n tg).bind fun t => (toSs c n sc b).map (.for t i)
    | .Return (some e) _ => (toE c n sc e).map .ret
    | .Return none _ => some .ret0
    | .Break _ => some .brk
    | .Continue _ => some .cont
    | .Pass _ => some .pass
    | .Raise (some (.Call (.Name x _) (e :: es) [] _)) none _ => if glB sc x && plainN x then (findIx c.KT x).bind fun k => (toL c n sc (e :: es)).map (.raise k) else none
    | _ => none
def toSs (c : Cfg) : Nat → Scope → List Stmt → Option S
  | 0, _, _ => none
  | _ + 1, _, [] => some .nil
  | n + 1, sc, s :: r => (toS c n sc s).bind fun x => (toSs c n sc r).map (.cons x)
end
end Ev

set_option Elab.async false
set_option linter.all false
set_option autoImplicit false
/-! EvE: what the text says is what the small language says. -/
namespace Ev
open PySem PySem.Spec PyProof.Rows L2

/-! ### functions -/
def Sig.ar (s : Sig) : Nat := s.md.length + (if s.io then 1 else 0)
/-- a result, handed back -/
def ResR (K : PySem.W.Frag) (G H H0 : Hp) (v : V) : Rs → Prop := OR K G H H0 v
/-- the arguments as they are taken -/
inductive ArgR (K : PySem.W.Frag) (G H : Hp) (a : Option Addr) : List Bool → List V → List T → Prop
  | nil : ArgR K G H a [] [] []
  | val {m : Bool} {ms : List Bool} {v : V} {vs : List V} {t : T} {ts : List T} : VR K G v t → ArgR K G H a ms vs ts → ArgR K G H a (m :: ms) (v :: vs) (t :: ts)
  | lent {ms : List Bool} {b : Addr} {ws : List V} {vs : List V} {xs ts : List T} : Rd H b (.lst ws) → (∀ c, a = some c → b ≠ c) → VRs K G ws xs → ArgR K G H a ms vs ts → ArgR K G H a (true :: ms) (.ref b :: vs) (.lst xs :: ts)
/-- all arguments: the in-out list ahead -/
def ArgsR (K : PySem.W.Frag) (G H : Hp) (sig : Sig) (a : Option Addr) (vs : List V) (ts : List T) : Prop :=
  if sig.io then ∃ (c : Addr) (ws vs' : List V) (xs ts' : List T), a = some c ∧ vs = .ref c :: vs' ∧ ts = .lst xs :: ts' ∧ G c = none ∧ H c = some (.lst ws) ∧ VRs K G ws xs ∧ ArgR K G H a sig.md vs' ts'
  else a = none ∧ ArgR K G H a sig.md vs ts
/-- behind a call -/
structure Aft1 (K : PySem.W.Frag) (G H : Hp) (a : Option Addr) (G' H' : Hp) (io : List T) : Prop where
  same : Same G G'
  gh : Same G' H'
  keep : ∀ b o, H b = some o → (∀ c, a = some c → b ≠ c) → H' b = some o
  new : ∀ b, G' b ≠ none → G b ≠ none ∨ H b = none
  io : ∀ c, a = some c → G' c = none ∧ ∃ ws, H' c = some (.lst ws) ∧ VRs K G' ws io
def spF (K : PySem.W.Frag) (CT : Nat → Addr) (sig : Sig) (φ : List T → FR) : Sp := fun vs H Q E => ∃ (G : Hp) (a : Option Addr) (ts : List T), Same G H ∧ ArgsR K G H sig a vs ts ∧
  match φ ts with
  | .ok r io => ∀ G' H' v, Aft1 K G H a G' H' io → OR K G' H' H v r → Q v H'
  | .ex x io => ∀ G' H' c d, Aft1 K G H a G' H' io → XR K G' H' CT x c d → E c d H'
  | .bad => False
structure FnG (X : Cx) (CT : Nat → Addr) (sig : Sig) (φ : List T → FR) (name : Str) : Prop where
  ex : ∃ (fa : Addr) (fd : FuncData) (k : Nat) (ps : List Str), X.mg name = some (.ref fa) ∧ PySem.W.keepIn X.K (.ref fa) = true ∧ Binds X.K fd ps [] ∧ FnOk X.prog X.w X.K X.mg X.base (L2.CX X.prog X.w) k fa fd ps (spF X.K CT sig φ) ∧ Room k X.A
structure Good (c : Cfg) (CT : Nat → Addr) (sg : Nat → Sig) (Φ : Nat → List T → FR) (W : WX) (X : Cx) : Prop where
  nd : X.N.Nodup
  N : X.N = c.N
  calm : X.calm = true
  room : Room 0 X.A
  bn : ∀ x ∈ BN, X.mg x = none
  cn : ∀ x t, c.CN.lookup x = some t → ∃ v u, X.mg x = some u ∧ RelV v u ∧ ∀ G, VR X.K G v t
  fn : ∀ i x, i ∈ c.ok → c.FT[i]? = some x → FnG X CT (sg i) (Φ i) x
  pass : ∀ σ, PassesAt (L2.CX X.prog X.w) X σ (WE W σ)

theorem _root_.L2.PE.imp {X : Cx} {e : Expr} {t t' : TE} (h : PE X e t) (k : ∀ σ H Q, t' σ H Q → t σ H Q) : PE X e t' := ⟨fun pins s σ H Q I hw => h.run pins s σ H Q I (k σ H Q hw)⟩
theorem _root_.L2.PT.imp {X : Cx} {e : Expr} {t t' : TT} (h : PT X e t) (k : ∀ σ H Q, t' σ H Q → t σ H Q) : PT X e t' := ⟨fun pins s σ H Q I hw => h.run pins s σ H Q I (k σ H Q hw)⟩
theorem _root_.L2.PW.imp {X : Cx} {e : Expr} {t t' : TT} (h : PW X e t) (k : ∀ σ H Q, t' σ H Q → t σ H Q) : PW X e t' := ⟨fun wh pins s σ H Q I hw => h.run wh pins s σ H Q I (k σ H Q hw)⟩
theorem _root_.L2.PA.imp {X : Cx} {es : List Expr} {t t' : TA} (h : PA X es t) (k : ∀ σ H Q, t' σ H Q → t σ H Q) : PA X es t' := ⟨fun pos pins s σ H Q I hw => h.run pos pins s σ H Q I (k σ H Q hw)⟩
theorem _root_.L2.PTs.imp {X : Cx} {es : List Expr} {t t' : TT} (h : PTs X es t) (k : ∀ σ H Q, t' σ H Q → t σ H Q) : PTs X es t' := ⟨fun pins s σ H Q I hw => h.run pins s σ H Q I (k σ H Q hw)⟩
theorem _root_.L2.PO.imp {X : Cx} {e : Option Expr} {t t' : TO} (h : PO X e t) (k : ∀ σ H Q, t' σ H Q → t σ H Q) : PO X e t' := ⟨fun pins s σ H Q I hw => h.run pins s σ H Q I (k σ H Q hw)⟩
theorem _root_.L2.PI.imp {X : Cx} {tg e : Expr} {t t' : TI} (h : PI X tg e t) (k : ∀ σ H R, t' σ H R → t σ H R) : PI X tg e t' := ⟨fun pins s σ H R I hw => h.run pins s σ H R I (k σ H R hw)⟩
theorem _root_.L2.PS.imp {X : Cx} {e : Stmt} {t t' : TS} (h : PS X e t) (k : ∀ D σ H, t' D σ H → t D σ H) : PS X e t' := ⟨fun pins s σ H D I hw => h.run pins s σ H D I (k D σ H hw)⟩
theorem _root_.L2.PSs.imp {X : Cx} {e : List Stmt} {t t' : TS} (h : PSs X e t) (k : ∀ D σ H, t' D σ H → t D σ H) : PSs X e t' := ⟨fun pins s σ H D I hw => h.run pins s σ H D I (k D σ H hw)⟩

section
variable (K : PySem.W.Frag) (io : Fx) (CT : Nat → Addr) (W : WX) (sg : Nat → Sig) (Φ : Nat → List T → FR)
/-- the readings: from trees to trees -/
def tE (e : E) : TE := fun σ H Q => ∃ G en, SR K io G H σ en ∧ Run K io CT W σ G H (Own en σ) (ev sg Φ e en) fun r en' G' H' => ∀ v, RR K G' H' H σ en' v r → Q v H'
def tT (e : E) : TT := fun σ H Q => ∃ G en, SR K io G H σ en ∧ Run K io CT W σ G H (Own en σ) ((ev sg Φ e en).bind boolOf) fun b en' G' H' => Q b H'
def tV (l : E) : TA := fun σ H Q => ∃ G en, SR K io G H σ en ∧ Run K io CT W σ G H (Own en σ) (evV sg Φ l en) fun ts en' G' H' => ∀ vs, VRs K G' vs ts → Q vs H'
/-- arguments, settled -/
inductive RRs (G H H0 : Hp) (σ : L2.St) (en : Env) : List V → List Rs → Prop
  | nil : RRs G H H0 σ en [] []
  | cons {v : V} {vs : List V} {r : Rs} {rs : List Rs} : RR K G H H0 σ en v r → (∀ xs, r ≠ .ol xs) → RRs G H H0 σ en vs rs → RRs G H H0 σ en (v :: vs) (r :: rs)
def tA (l : E) : TA := fun σ H Q => ∃ G en, SR K io G H σ en ∧ Run K io CT W σ G H (Own en σ) (evA sg Φ l en) fun rs en' G' H' => ∀ vs, RRs K G' H' H σ en' vs rs → Q vs H'
def tP (e : E) : TO := fun σ H Q => ∃ G en, SR K io G H σ en ∧ Run K io CT W σ G H (Own en σ) ((ev sg Φ e en).bind optI) fun o en' G' H' => Q o H'
/-- what a walk gives, item by item, as long as what it walks stays (ca: the slot's list that it walks) -/
structure JOk (J : It) (G : Hp) (its : Its) (ca : Option Addr) : Prop where
  stop : ∀ i G' H', Same G G' → Same G' H' → (∀ a, ca = some a → ∃ vs, Rd H' a (.lst vs) ∧ VRs K G' vs its.xs) → its.xs.length ≤ i → J.stop i H'
  go : ∀ i t G' H', Same G G' → Same G' H' → (∀ a, ca = some a → ∃ vs, Rd H' a (.lst vs) ∧ VRs K G' vs its.xs) → its.xs[i]? = some t → J.go i H' ∧ ∀ x H'', J.yld i H' x H'' → ∃ G'', Al G' H' G'' H'' ∧ VR K G'' x t
def CaOk (σ : L2.St) (its : Its) (ca : Option Addr) : Prop :=
  match its.chk with
  | none => ca = none
  | some (i, s) => s.con = some (.lst its.xs) ∧ ∃ a, ca = some a ∧ σ[i]? = some (some (.ref a))
def tI (e : E) : TI := fun σ H R => ∃ G en, SR K io G H σ en ∧ Run K io CT W σ G H (Own en σ) (evI sg Φ e en) fun its en' G' H' => slotIs en' its.chk = true → ∀ J ca, JOk K J G' its ca → CaOk σ its ca → R J H'
end

section
variable {K : PySem.W.Frag} {io : Fx} {CT : Nat → Addr} {W : WX} {sg : Nat → Sig} {Φ : Nat → List T → FR} {σ : L2.St} {H : Hp}
/-- an expression's reading, from the middle -/
theorem tE.of {e : E} {Q : VK} {G : Hp} {en : Env} (s : SR K io G H σ en) (h : Run K io CT W σ G H (Own en σ) (ev sg Φ e en) fun r en' G' H' => ∀ v, RR K G' H' H σ en' v r → Q v H') : tE K io CT W sg Φ e σ H Q := ⟨G, en, s, h⟩
/-- p1 by a rule upon values -/
theorem p1_red {o : P1} {i : E} {Q : VK} {r : V → Hp → VK → Prop} (h : tE K io CT W sg Φ (.p1 o i) σ H Q)
    (k : ∀ G H x a res Q, Same G H → CR K G H x a → ap1 o a = some res → Aft K G H res Q → r x H Q) : tE K io CT W sg Φ i σ H fun x H1 => r x H1 Q := by
  obtain ⟨G, en, s, h⟩ := h
  refine ⟨G, en, s, ?_⟩
  unfold ev at h
  refine h.bind.imp fun q en1 G1 H1 s1 x1 h v rv => ?_
  cases hc : con en1 q with
  | none => rw [hc] at h; exact h.elim
  | some t =>
    rw [hc] at h
    cases ha : ap1 o t with
    | none => rw [Option.bind_some, ha] at h; exact h.elim
    | some res =>
      rw [Option.bind_some, ha] at h
      refine k G1 H1 v t res Q s1.same (rv.cr s1 hc) ha fun G' H' w al q => ?_
      exact h.ok' (s1.al al) (s1.extAl al) w (q.rr s1 (.inr x1.live))

/-- an operation's end -/
theorem op_end {G H H0 : Hp} {en : Env} {o : Option Rs} {O : Addr → Prop} {Q : VK} {x : Prop} (s1 : SR K io G H σ en) (back : ∀ b, H0 b ≠ none → H b ≠ none)
    (h : Run K io CT W σ G H (Own en σ) (liftO o en) fun r en' G' H' => ∀ v, RR K G' H' H0 σ en' v r → Q v H') (k : ∀ res, o = some res → Aft K G H res Q → x) : x := by
  cases o with
  | none => exact h.elim
  | some res => exact k res rfl fun G' H' w al q => h.ok' (s1.al al) (s1.extAl al) w (q.rr s1 (.inr back))
theorem bind2_some {α β γ : Type} {a : Option α} {b : Option β} {f : α → β → Option γ} {c : γ} (h : (a.bind fun x => b.bind fun y => f x y) = some c) : ∃ x y, a = some x ∧ b = some y ∧ f x y = some c := by
  cases a with
  | none => cases h
  | some x => cases b with
    | none => cases h
    | some y => exact ⟨x, y, rfl, rfl, h⟩
theorem p2_red {o : P2} {i j : E} {Q : VK} {r : R2} (h : tE K io CT W sg Φ (.p2 o i j) σ H Q)
    (k : ∀ G H x y a b res Q, Same G H → CR K G H x a → CR K G H y b → ap2 o a b = some res → Aft K G H res Q → r x y H Q) : tE K io CT W sg Φ i σ H fun x H1 => tE K io CT W sg Φ j σ H1 fun y H2 => r x y H2 Q := by
  obtain ⟨G, en, s, h⟩ := h
  refine ⟨G, en, s, ?_⟩
  unfold ev at h
  refine h.bind2.imp fun q en1 G1 H1 s1 x1 h v rv => ?_
  obtain ⟨G2, s2, x2, rv, nv⟩ := rv.settle s1 x1
  refine ⟨G2, en1, s2, (h G2 s2 x2).bind2.imp fun q2 en2 G3 H3 s3 x3 h w rw' => ?_⟩
  obtain ⟨G4, s4, x4, rw', nw⟩ := rw'.settle s3 x3
  have rv4 := rv.later x4 nv
  refine op_end (O := fun _ => True) s4 (fun b z => x3.live b (x1.live b z)) (h G4 s4 x4) fun res he af => ?_
  obtain ⟨a, b, ha, hb, hc⟩ := bind2_some he
  exact k G4 H3 v w a b res Q s4.same (rv4.cr s4 ha) (rw'.cr s4 hb) hc af
theorem tT.of {e : E} {Q : Bool → Hp → Prop} (h : tT K io CT W sg Φ e σ H Q) : tE K io CT W sg Φ e σ H fun x H1 => ∃ k, x = .bl k ∧ Q k H1 := by
  obtain ⟨G, en, s, h⟩ := h
  refine ⟨G, en, s, h.bind.imp fun q en1 G1 H1 s1 x1 h v rv => ?_⟩
  cases q with
  | fz t =>
    cases t with
    | bl b =>
      cases (show VR K G1 v (.bl b) from rv)
      exact ⟨b, rfl, h.ok' s1 (Ext.refl)⟩
    | _ => exact h.elim
  | _ => exact h.elim
theorem bool_of {f : Bool → Env → R Rs} {r : Rs} {en : Env} {G : Hp} {Q : Rs → Env → Hp → Hp → Prop} (s1 : SR K io G H σ en) (h : Run K io CT W σ G H (Own en σ) ((boolOf r en).bind f) Q) : ∃ b, r = .fz (.bl b) ∧ Run K io CT W σ G H (Own en σ) (f b en) Q := by
  cases r with
  | fz t =>
    cases t with
    | bl b => exact ⟨b, rfl, h⟩
    | _ => exact h.elim
  | _ => exact h.elim
/-- value forms of and, or, not, if -/
theorem Run.back {α : Type} {G1 H1 : Hp} {en1 : Env} {r : R α} {Q : α → Env → Hp → Hp → Prop} {H0 : Hp} (h : Run K io CT W σ G1 H1 (Own en1 σ) r Q) : Run K io CT W σ G1 H1 (Own en1 σ) r Q := h
theorem RR.base {G1 H1 H0 H2 : Hp} {en : Env} {v : V} {r : Rs} (h : RR K G1 H1 H2 σ en v r) (b : ∀ b, H0 b ≠ none → H2 b ≠ none) : RR K G1 H1 H0 σ en v r := by
  cases r with
  | fz t => exact h
  | plc i => exact h
  | ol xs =>
    obtain ⟨p, vs, e, a1, a2, a3, a4⟩ := h
    exact ⟨p, vs, e, a1, a2, Classical.byContradiction fun n => b p n a3, a4⟩
theorem tE.rest {e : E} {Q : VK} {G1 H1 : Hp} {en1 : Env} (s1 : SR K io G1 H1 σ en1) (live : ∀ b, H b ≠ none → H1 b ≠ none)
    (h : Run K io CT W σ G1 H1 (Own en1 σ) (ev sg Φ e en1) fun r en' G' H' => ∀ v, RR K G' H' H σ en' v r → Q v H') : tE K io CT W sg Φ e σ H1 Q :=
  ⟨G1, en1, s1, h.imp fun r en2 G2 H2 s2 x2 h v rv => h v (rv.base live)⟩
theorem and_red {a b : E} {Q : VK} (h : tE K io CT W sg Φ (.and a b) σ H Q) : tE K io CT W sg Φ a σ H fun x H1 => ∃ c, x = .bl c ∧ if c = true then tE K io CT W sg Φ b σ H1 Q else Q (.bl false) H1 := by
  obtain ⟨G, en, s, h⟩ := h
  unfold ev at h
  refine ⟨G, en, s, h.bind.imp fun q en1 G1 H1 s1 x1 h v rv => ?_⟩
  obtain ⟨k, rfl, h⟩ := bool_of s1 h
  cases (show VR K G1 v (.bl k) from rv)
  refine ⟨k, rfl, ?_⟩
  cases k with
  | true => exact iteT (tE.rest s1 x1.live h)
  | false => exact iteF (h.ok' s1 Ext.refl _ (VR.bl false))
theorem or_red {a b : E} {Q : VK} (h : tE K io CT W sg Φ (.or a b) σ H Q) : tE K io CT W sg Φ a σ H fun x H1 => ∃ c, x = .bl c ∧ if c = true then Q (.bl true) H1 else tE K io CT W sg Φ b σ H1 Q := by
  obtain ⟨G, en, s, h⟩ := h
  unfold ev at h
  refine ⟨G, en, s, h.bind.imp fun q en1 G1 H1 s1 x1 h v rv => ?_⟩
  obtain ⟨k, rfl, h⟩ := bool_of s1 h
  cases (show VR K G1 v (.bl k) from rv)
  refine ⟨k, rfl, ?_⟩
  cases k with
  | false => exact iteF (tE.rest s1 x1.live h)
  | true => exact iteT (h.ok' s1 Ext.refl _ (VR.bl true))
theorem not_red {a : E} {Q : VK} (h : tE K io CT W sg Φ (.not a) σ H Q) : tE K io CT W sg Φ a σ H fun x H1 => ∃ c, x = .bl c ∧ Q (.bl (!c)) H1 := by
  obtain ⟨G, en, s, h⟩ := h
  unfold ev at h
  refine ⟨G, en, s, h.bind.imp fun q en1 G1 H1 s1 x1 h v rv => ?_⟩
  obtain ⟨k, rfl, h⟩ := bool_of s1 h
  cases (show VR K G1 v (.bl k) from rv)
  exact ⟨k, rfl, h.ok' s1 Ext.refl _ (VR.bl _)⟩
theorem bind_assoc {α β γ : Type} (r : R α) (f : α → Env → R β) (g : β → Env → R γ) : (r.bind f).bind g = r.bind fun a en => (f a en).bind g := by cases r <;> rfl
theorem ite_red {c a b : E} {Q : VK} (h : tE K io CT W sg Φ (.ite c a b) σ H Q) : tT K io CT W sg Φ c σ H fun k H1 => if k = true then tE K io CT W sg Φ a σ H1 Q else tE K io CT W sg Φ b σ H1 Q := by
  obtain ⟨G, en, s, h⟩ := h
  unfold ev at h
  rw [← bind_assoc] at h
  refine ⟨G, en, s, h.bind.imp fun k en1 G1 H1 s1 x1 h => ?_⟩
  cases k with
  | true => exact iteT (tE.rest s1 x1.live h)
  | false => exact iteF (tE.rest s1 x1.live h)
/-- test forms -/
theorem tT.rest {e : E} {Q : Bool → Hp → Prop} {G1 H1 : Hp} {en1 : Env} (s1 : SR K io G1 H1 σ en1) (h : Run K io CT W σ G1 H1 (Own en1 σ) ((ev sg Φ e en1).bind boolOf) fun b en' G' H' => Q b H') : tT K io CT W sg Φ e σ H1 Q := ⟨G1, en1, s1, h⟩
theorem andT_red {a b : E} {Q : Bool → Hp → Prop} (h : tT K io CT W sg Φ (.and a b) σ H Q) : tT K io CT W sg Φ a σ H fun c H1 => if c = true then tT K io CT W sg Φ b σ H1 Q else Q false H1 := by
  obtain ⟨G, en, s, h⟩ := h
  unfold ev at h
  rw [bind_assoc] at h
  simp only [bind_assoc] at h
  rw [← bind_assoc] at h
  refine ⟨G, en, s, h.bind.imp fun k en1 G1 H1 s1 x1 h => ?_⟩
  cases k with
  | true => exact iteT (tT.rest s1 h)
  | false => exact iteF (h.ok' s1 Ext.refl)
theorem orT_red {a b : E} {Q : Bool → Hp → Prop} (h : tT K io CT W sg Φ (.or a b) σ H Q) : tT K io CT W sg Φ a σ H fun c H1 => if c = true then Q true H1 else tT K io CT W sg Φ b σ H1 Q := by
  obtain ⟨G, en, s, h⟩ := h
  unfold ev at h
  rw [bind_assoc] at h
  simp only [bind_assoc] at h
  rw [← bind_assoc] at h
  refine ⟨G, en, s, h.bind.imp fun k en1 G1 H1 s1 x1 h => ?_⟩
  cases k with
  | false => exact iteF (tT.rest s1 h)
  | true => exact iteT (h.ok' s1 Ext.refl)
theorem notT_red {a : E} {Q : Bool → Hp → Prop} (h : tT K io CT W sg Φ (.not a) σ H Q) : tT K io CT W sg Φ a σ H fun c H1 => Q (!c) H1 := by
  obtain ⟨G, en, s, h⟩ := h
  unfold ev at h
  rw [bind_assoc] at h
  simp only [bind_assoc] at h
  rw [← bind_assoc] at h
  exact ⟨G, en, s, h.bind.imp fun k en1 G1 H1 s1 x1 h => h.ok' s1 Ext.refl⟩
/-- a list of values: slots' lists are frozen -/
theorem toV_run {r : Rs} {en : Env} {G H0 : Hp} {β : Type} {f : T → Env → R β} {v : V} {Q : β → Env → Hp → Hp → Prop} {G0 : Hp} {O0 : Addr → Prop} (s : SR K io G H σ en) (x : Ext G0 H0 O0 G H (Own en σ)) (rv : RR K G H H0 σ en v r) (h : ∀ G2, SR K io G2 H σ en → Ext G0 H0 O0 G2 H (Own en σ) → Run K io CT W σ G2 H (Own en σ) ((toV r en).bind f) Q) :
    ∃ t en1 G1, SR K io G1 H σ en1 ∧ Ext G0 H0 O0 G1 H (Own en1 σ) ∧ VR K G1 v t ∧ Run K io CT W σ G1 H (Own en1 σ) (f t en1) Q := by
  cases r with
  | fz t => exact ⟨t, en, G, s, x, rv, h G s x⟩
  | ol xs =>
    obtain ⟨G2, s2, x2, rv2, _⟩ := rv.settle s x
    exact ⟨.lst xs, en, G2, s2, x2, rv2, h G2 s2 x2⟩
  | plc i =>
    have h := h G s x
    unfold toV at h
    have rv : σ[i]? = some (some v) := rv
    cases e : en[i]? with
    | none => simp only [e] at h; exact h.elim
    | some z =>
      simp only [e] at h
      cases z with
      | no => exact h.elim
      | bl _ => exact h.elim
      | io _ => exact h.elim
      | fz t =>
        obtain ⟨y, e1, q⟩ := s.sl i _ e
        rw [rv] at e1; cases e1
        exact ⟨t, en, G, s, x, q, h⟩
      | ol xs =>
        obtain ⟨G1, s1, x1, q⟩ := s.freezeS e
        refine ⟨_, _, G1, s1, x.trans x1, q v rv, ?_⟩
        have h : Run K io CT W σ G H (Own en σ) (f (.lst xs) (en.set i (.fz (.lst xs)))) Q := h
        cases hf : f (.lst xs) (en.set i (.fz (.lst xs))) with
        | bad => rw [hf] at h; exact h
        | ex x en2 => rw [hf] at h; exact fun G2 H2 c d s2 x2 => h G2 H2 c d s2 (x1.trans x2)
        | ok b en2 => rw [hf] at h; exact fun G2 H2 s2 x2 => h G2 H2 s2 (x1.trans x2)
theorem cons_redV {a l : E} {Q : List V → Hp → Prop} (h : tV K io CT W sg Φ (.cons a l) σ H Q) : tE K io CT W sg Φ a σ H fun x H1 => tV K io CT W sg Φ l σ H1 fun xs H2 => Q (x :: xs) H2 := by
  obtain ⟨G, en, s, h⟩ := h
  unfold evV at h
  refine ⟨G, en, s, h.bind2.imp fun q en1 G1 H1 s1 x1 h v rv => ?_⟩
  obtain ⟨t, en2, G2, s2, x2, rt, h⟩ := toV_run s1 x1 rv h
  refine ⟨G2, en2, s2, h.bind.imp fun ts en3 G3 H3 s3 x3 h vs rvs => ?_⟩
  exact h.ok' s3 Ext.refl _ (.cons (rt.mono x3.same) rvs)
theorem nil_redV {Q : List V → Hp → Prop} (h : tV K io CT W sg Φ .nil σ H Q) : Q [] H := by
  obtain ⟨G, en, s, h⟩ := h
  unfold evV at h
  exact h.ok' s Ext.refl _ .nil
theorem RRs.later {G1 H1 G2 H2 H0 : Hp} {en1 en2 : Env} {vs : List V} {rs : List Rs} (x : Ext G1 H1 (Own en1 σ) G2 H2 (Own en2 σ)) (h : RRs K G1 H1 H0 σ en1 vs rs) : RRs K G2 H2 H0 σ en2 vs rs := by
  induction h with
  | nil => exact .nil
  | cons a b _ ih => exact .cons (a.later x b) b ih
theorem RRs.base {G1 H1 H0 H2 : Hp} {en : Env} {vs : List V} {rs : List Rs} (h : RRs K G1 H1 H2 σ en vs rs) (b : ∀ b, H0 b ≠ none → H2 b ≠ none) : RRs K G1 H1 H0 σ en vs rs := by
  induction h with
  | nil => exact .nil
  | cons a c _ ih => exact .cons (a.base b) c ih
theorem cons_redA {a l : E} {Q : List V → Hp → Prop} (h : tA K io CT W sg Φ (.cons a l) σ H Q) : tE K io CT W sg Φ a σ H fun x H1 => tA K io CT W sg Φ l σ H1 fun xs H2 => Q (x :: xs) H2 := by
  obtain ⟨G, en, s, h⟩ := h
  unfold evA at h
  refine ⟨G, en, s, h.bind2.imp fun q en1 G1 H1 s1 x1 h v rv => ?_⟩
  obtain ⟨G2, s2, x2, rv, nv⟩ := rv.settle s1 x1
  refine ⟨G2, en1, s2, (h G2 s2 x2).bind.imp fun ts en3 G3 H3 s3 x3 h vs rvs => ?_⟩
  exact h.ok' s3 Ext.refl _ (.cons (rv.later x3 nv) nv (rvs.base x1.live))
theorem nil_redA {Q : List V → Hp → Prop} (h : tA K io CT W sg Φ .nil σ H Q) : Q [] H := by
  obtain ⟨G, en, s, h⟩ := h
  unfold evA at h
  exact h.ok' s Ext.refl _ .nil
theorem tup_red {l : E} {Q : VK} (h : tE K io CT W sg Φ (.tup l) σ H Q) : tV K io CT W sg Φ l σ H fun xs H1 => xs.length ≤ sizeLine ∧ ∀ p, H1 p = none → Q (.ref p) (upd H1 p (.tup xs)) := by
  obtain ⟨G, en, s, h⟩ := h
  unfold ev at h
  refine ⟨G, en, s, h.bind.imp fun ts en1 G1 H1 s1 x1 h vs rv => ?_⟩
  split at h
  · rename_i hl
    refine ⟨by rw [rv.length]; exact hl, fun p hp => ?_⟩
    have al := Al.both s1.same hp (.tup vs)
    exact h.ok' (s1.al al) (s1.extAl al) _ (VR.tup (SqT.of upd_same) (rv.mono al.same))
  · exact h.elim
theorem lst_red {l : E} {Q : VK} (h : tE K io CT W sg Φ (.lst l) σ H Q) : tV K io CT W sg Φ l σ H fun xs H1 => xs.length ≤ sizeLine ∧ ∀ p, H1 p = none → Q (.ref p) (upd H1 p (.lst xs)) := by
  obtain ⟨G, en, s, h⟩ := h
  unfold ev at h
  refine ⟨G, en, s, h.bind.imp fun ts en1 G1 H1 s1 x1 h vs rv => ?_⟩
  split at h
  · rename_i hl
    refine ⟨by rw [rv.length]; exact hl, fun p hp => ?_⟩
    have al := Al.own s1.same hp (.lst vs)
    exact h.ok' (s1.al al) (s1.extAl al) _ (OR.rr (r := .ol ts) s1 ⟨p, vs, rfl, hp, s1.same.free hp, upd_same, rv⟩ (.inr x1.live))
  · exact h.elim

/-! calls -/
def Avoid (σ : L2.St) (en : Env) (a : Option Addr) : Prop := ∀ c, a = some c → ∀ (j : Nat) s, en[j]? = some s → (s.own || s.lent) = true → σ[j]? ≠ some (some (.ref c))
theorem Avoid.freeze {en : Env} {a : Option Addr} {i : Nat} {t : T} (h : Avoid σ en a) : Avoid σ (en.set i (.fz t)) a := fun c e j s z o => by
  rcases get_set z with ⟨rfl, rfl⟩ | ⟨_, z⟩
  · cases o
  · exact h c e j s z o
theorem argsC_ok {a : Option Addr} {H0 : Hp} : ∀ (md : List Bool) (rs : List Rs) (vs : List V) (en : Env) (ts : List T) (en2 : Env) (G : Hp), argsC md rs en = .ok ts en2 → SR K io G H σ en → RRs K G H H0 σ en vs rs → Avoid σ en a →
    ∃ G2, SR K io G2 H σ en2 ∧ Ext G H (Own en σ) G2 H (Own en2 σ) ∧ ArgR K G2 H a md vs ts ∧ Avoid σ en2 a ∧ ∀ i : Nat, en[i]? = some .no → en2[i]? = some .no
  | [], rs, vs, en, ts, en2, G, h, s, r, av => by
    cases rs with
    | nil =>
      cases h
      cases r
      exact ⟨G, s, Ext.refl, .nil, av, fun _ h => h⟩
    | cons _ _ => cases h
  | m :: md, [], vs, en, ts, en2, G, h, s, r, av => by cases h
  | m :: md, q :: rs, vs, en, ts, en2, G, h, s, r, av => by
    cases r with
    | cons r1 n1 r2 =>
      rename_i v vs
      have step : ∀ (t : T) (en1 : Env) (G1 : Hp), SR K io G1 H σ en1 → Ext G H (Own en σ) G1 H (Own en1 σ) → Avoid σ en1 a → (∀ i : Nat, en[i]? = some .no → en1[i]? = some .no) → ((argsC md rs en1).bind fun ts en1 => .ok (t :: ts) en1) = R.ok ts en2 →
          (∀ G2 ts', Same G1 G2 → ArgR K G2 H a md vs ts' → ArgR K G2 H a (m :: md) (v :: vs) (t :: ts')) →
          ∃ G2, SR K io G2 H σ en2 ∧ Ext G H (Own en σ) G2 H (Own en2 σ) ∧ ArgR K G2 H a (m :: md) (v :: vs) ts ∧ Avoid σ en2 a ∧ ∀ i : Nat, en[i]? = some .no → en2[i]? = some .no := by
        intro t en1 G1 s1 x1 av1 n1 h k
        cases hc : argsC md rs en1 with
        | bad => rw [hc] at h; cases h
        | ex x e => rw [hc] at h; cases h
        | ok ts' e2 =>
          rw [hc] at h
          cases h
          obtain ⟨G2, s2, x2, ar, av2, n2⟩ := argsC_ok md rs vs en1 ts' _ G1 hc s1 (r2.later x1) av1
          exact ⟨G2, s2, x1.trans x2, k G2 ts' x2.same ar, av2, fun i z => n2 i (n1 i z)⟩
      cases q with
      | ol xs => exact absurd rfl (n1 xs)
      | fz t =>
        exact step t en G s Ext.refl av (fun _ z => z) h fun G2 ts' sm ar => .val (VR.mono sm r1) ar
      | plc i =>
        have r1 : σ[i]? = some (some v) := r1
        unfold argsC at h
        cases e : en[i]? with
        | none => simp only [e] at h; cases h
        | some z =>
          simp only [e] at h
          cases z with
          | no => cases h
          | io xs => cases h
          | fz t =>
            obtain ⟨y, e1, q⟩ := s.sl i _ e
            rw [r1] at e1; cases e1
            exact step t en G s Ext.refl av (fun _ z => z) h fun G2 ts' sm ar => .val (VR.mono sm q) ar
          | bl xs =>
            cases m with
            | false => cases h
            | true =>
              obtain ⟨b, ws, e1, _, hr, q⟩ := s.sl i _ e
              rw [r1] at e1; cases e1
              exact step (.lst xs) en G s Ext.refl av (fun _ z => z) h fun G2 ts' sm ar => .lent hr (fun c ec eb => av c ec i _ e rfl (by rw [r1, eb])) (q.mono sm) ar
          | ol xs =>
            obtain ⟨b, ws, e1, hg, hr, q⟩ := s.sl i _ e
            have e2 := e1
            rw [r1] at e1; cases e1
            cases m with
            | true =>
              exact step (.lst xs) en G s Ext.refl av (fun _ z => z) h fun G2 ts' sm ar => .lent (Rd.of hr) (fun c ec eb => av c ec i _ e rfl (by rw [r1, eb])) (q.mono sm) ar
            | false =>
              obtain ⟨G1, s1, x1, k⟩ := s.freezeS e
              refine step (.lst xs) _ G1 s1 x1 av.freeze (fun j z => ?_) h fun G2 ts' sm ar => .val (VR.mono sm (k _ r1)) ar
              by_cases hij : i = j
              · subst hij; rw [e] at z; cases z
              · rw [List.getElem?_set_ne hij]; exact z
theorem SR.take {G : Hp} {en : Env} {i : Nat} {s : Sl} {a : Addr} (r : SR K io G H σ en) (e : en[i]? = some s) (ho : s.own = true) (e1 : σ[i]? = some (some (.ref a))) :
    SR K { io with a := if s.isIo then none else io.a } G H σ (en.set i .no) ∧ Ext G H (Own en σ) G H (Own (en.set i .no) σ) ∧ Avoid σ (en.set i .no) (some a) := by
  refine ⟨⟨r.same, by rw [List.length_set]; exact r.len, fun j t z => ?_, fun j k t u b z1 z2 o1 o2 n y1 => ?_, ?_, r.bl⟩, ⟨Same.refl _, fun _ _ z _ => z, fun _ z => z, fun b z => ?_, fun b z => .inl z⟩, fun c ec j t z o q => ?_⟩
  · rcases get_set z with ⟨rfl, rfl⟩ | ⟨_, z⟩
    · trivial
    · exact r.sl j t z
  · rcases get_set z1 with ⟨rfl, rfl⟩ | ⟨_, w1⟩
    · cases o1
    · rcases get_set z2 with ⟨rfl, rfl⟩ | ⟨_, w2⟩
      · cases o2
      · exact r.sep j k t u b w1 w2 o1 o2 n y1
  · have rio := r.iok
    unfold IoR at rio ⊢
    cases hs : s.isIo with
    | true =>
      simp only [if_true]
      intro j t z
      rcases get_set z with ⟨rfl, rfl⟩ | ⟨n, z⟩
      · rfl
      · cases hio : io.a with
        | none => rw [hio] at rio; exact rio j t z
        | some c =>
          rw [hio] at rio
          obtain ⟨_, _, h3⟩ := rio
          cases t with
          | io ys =>
            have j0 := h3 j ys z
            cases s <;> simp [Sl.isIo] at hs
            exact absurd (j0.trans (h3 i _ e).symm) n
          | _ => rfl
    | false =>
      simp only [Bool.false_eq_true, if_false]
      cases hio : io.a with
      | none =>
        rw [hio] at rio
        intro j t z
        rcases get_set z with ⟨rfl, rfl⟩ | ⟨n, z⟩
        · rfl
        · exact rio j t z
      | some c =>
        rw [hio] at rio
        obtain ⟨⟨ys, h1⟩, h2, h3⟩ := rio
        have n0 : i ≠ 0 := fun z => by subst z; rw [e] at h1; cases h1; cases hs
        refine ⟨⟨ys, by rw [List.getElem?_set_ne n0]; exact h1⟩, h2, fun j zs z => ?_⟩
        rcases get_set z with ⟨rfl, y⟩ | ⟨_, z⟩
        · cases y
        · exact h3 j zs z
  · obtain ⟨j, t, z1, z2, z3⟩ := z
    rcases get_set z1 with ⟨rfl, rfl⟩ | ⟨_, z1⟩
    · cases z2
    · exact .inl ⟨j, t, z1, z2, z3⟩
  · cases ec
    rcases get_set z with ⟨rfl, rfl⟩ | ⟨n, z⟩
    · cases o
    · exact r.sep i j s t a e z ho o (Ne.symm n) e1 q
/-- the in-out list comes back -/
theorem SR.give {G G' H' : Hp} {en2 : Env} {i : Nat} {s s' : Sl} {a : Addr} {ys : List T} (r : SR K io G H σ en2) {io0 : Fx} (ei : io = { io0 with a := if s.isIo then none else io0.a }) (e2 : en2[i]? = some .no) (e1 : σ[i]? = some (some (.ref a))) (av : Avoid σ en2 (some a))
    (h0 : s.isIo = true → io0.a = some a ∧ i = 0) (hs : s' = if s.isIo then .io ys else .ol ys) (f : Aft1 K G H (some a) G' H' ys) (hh : ∃ ws, H a = some (.lst ws)) :
    SR K io0 G' H' σ (en2.set i s') ∧ Ext G H (fun b => Own en2 σ b ∨ b = a) G' H' (Own (en2.set i s') σ) := by
  obtain ⟨ga, ws, ha, hv⟩ := f.io a rfl
  have own' : s'.own = true := by rw [hs]; cases s.isIo <;> rfl
  refine ⟨⟨f.gh, by rw [List.length_set]; exact r.len, fun j t z => ?_, fun j k t u b z1 z2 o1 o2 n y1 => ?_, ?_, fun b z => ?_⟩, ⟨f.same, fun b o z n => f.keep b o z fun c ec eb => n (.inr (by cases ec; exact eb)), fun b z => ?_, fun b z => ?_, fun b z => ?_⟩⟩
  · rcases get_set z with ⟨rfl, rfl⟩ | ⟨n, z⟩
    · rw [hs, e1]
      cases s.isIo
      · exact ⟨a, ws, rfl, ga, ha, hv⟩
      · exact ⟨a, ws, rfl, ga, ha, hv⟩
    · have y := r.sl j t z
      have nj : ∀ b, σ[j]? = some (some (.ref b)) → (t.own || t.lent) = true → b ≠ a := fun b w o q => av a rfl j t z o (by rw [w, q])
      have gb : ∀ b vs, G b = none → H b = some (.lst vs) → G' b = none := fun b vs g h => by
        cases q : G' b with
        | none => rfl
        | some o => rcases f.new b (by rw [q]; simp) with w | w
                    · exact absurd g w
                    · rw [h] at w; cases w
      have kp : ∀ b o, b ≠ a → H b = some o → H' b = some o := fun b o n h => f.keep b o h fun c ec eb => n (by cases ec; exact eb)
      cases t with
      | no => trivial
      | fz t => obtain ⟨x, w1, w2⟩ := y; exact ⟨x, w1, w2.mono f.same⟩
      | ol zs => obtain ⟨b, us, w1, w2, w3, w4⟩ := y; exact ⟨b, us, w1, gb b us w2 w3, kp b _ (nj b w1 rfl) w3, w4.mono f.same⟩
      | io zs => obtain ⟨b, us, w1, w2, w3, w4⟩ := y; exact ⟨b, us, w1, gb b us w2 w3, kp b _ (nj b w1 rfl) w3, w4.mono f.same⟩
      | bl zs =>
        obtain ⟨b, us, w1, wb, w3, w4⟩ := y
        refine ⟨b, us, w1, by rw [ei] at wb; exact wb, ?_, w4.mono f.same⟩
        rcases w3 with w | ⟨o, w⟩
        · exact .inl (kp b _ (nj b w1 rfl) w)
        · exact .inr ⟨o, kp b _ (nj b w1 rfl) w⟩
  · rcases get_set z1 with ⟨rfl, rfl⟩ | ⟨n1, w1⟩
    · rcases get_set z2 with ⟨rfl, rfl⟩ | ⟨n2, w2⟩
      · exact absurd rfl n
      · intro q
        rw [e1] at y1; cases y1
        exact av a rfl k u w2 o2 q
    · rcases get_set z2 with ⟨rfl, rfl⟩ | ⟨n2, w2⟩
      · intro q
        rw [e1] at q; cases q
        exact av a rfl j t w1 (by rw [o1]; rfl) y1
      · exact r.sep j k t u b w1 w2 o1 o2 n y1
  · have rio := r.iok
    unfold IoR at rio ⊢
    cases hb : s.isIo with
    | true =>
      obtain ⟨hia, rfl⟩ := h0 hb
      rw [hb] at ei hs
      subst ei
      subst hs
      rw [hia]
      refine ⟨⟨ys, List.getElem?_set_self (lt_of_get e2)⟩, e1, fun j zs z => ?_⟩
      rcases get_set z with ⟨rfl, _⟩ | ⟨_, z⟩
      · rfl
      · exact absurd (rio j _ z) (by simp [Sl.isIo])
    | false =>
      rw [hb] at ei hs
      simp only [Bool.false_eq_true, if_false] at ei hs
      subst ei
      subst hs
      cases hio : io0.a with
      | none =>
        simp only [hio] at rio
        intro j t z
        rcases get_set z with ⟨rfl, rfl⟩ | ⟨_, z⟩
        · rfl
        · exact rio j t z
      | some c =>
        simp only [hio] at rio
        obtain ⟨⟨zs, h1⟩, h2, h3⟩ := rio
        have n0 : i ≠ 0 := fun z => by subst z; rw [e2] at h1; cases h1
        refine ⟨⟨zs, by rw [List.getElem?_set_ne n0]; exact h1⟩, h2, fun j us z => ?_⟩
        rcases get_set z with ⟨rfl, y⟩ | ⟨_, z⟩
        · cases y
        · exact h3 j us z
  · have z := r.bl b (by rw [ei]; exact z)
    by_cases hb : b = a
    · subst hb; rw [ha]; simp
    · cases q : H b with
      | none => exact absurd q z
      | some o => rw [f.keep b o q fun c ec eb => hb (by cases ec; exact eb)]; simp
  · by_cases hb : b = a
    · subst hb; rw [ha]; simp
    · cases q : H b with
      | none => exact absurd q z
      | some o => rw [f.keep b o q fun c ec eb => hb (by cases ec; exact eb)]; simp
  · obtain ⟨j, t, z1, z2, z3⟩ := z
    rcases get_set z1 with ⟨rfl, rfl⟩ | ⟨_, w1⟩
    · rw [e1] at z3; cases z3; exact .inl (.inr rfl)
    · exact .inl (.inl ⟨j, t, w1, z2, z3⟩)
  · rcases f.new b z with w | w
    · exact .inl w
    · exact .inr (.inl w)
theorem Ext.weakO {G H G' H' : Hp} {O O1 O' : Addr → Prop} (x : Ext G H O G' H' O') (h : ∀ b, O b → O1 b) : Ext G H O1 G' H' O' :=
  ⟨x.same, fun b o z n => x.keep b o z fun q => n (h b q), x.live, fun a z => (x.own a z).imp (h a) id, fun a z => by
    rcases x.frz a z with w | w | w
    · exact .inl w
    · exact .inr (.inl w)
    · exact .inr (.inr (h a w))⟩
theorem call_red {f : Nat} {l : E} {Q : VK} (h : tE K io CT W sg Φ (.call f l) σ H Q) : tA K io CT W sg Φ l σ H fun vs H1 => spF K CT (sg f) (Φ f) (vs ++ []) H1 Q (WE W σ) := by
  obtain ⟨G, en, s, h⟩ := h
  unfold ev at h
  refine ⟨G, en, s, h.bind.imp fun rs en1 G1 H1 s1 x1 h vs rv => ?_⟩
  show spF K CT (sg f) (Φ f) (vs ++ []) H1 Q (WE W σ)
  rw [List.append_nil]
  unfold callF at h
  cases hio : (sg f).io with
  | false =>
    rw [hio] at h
    simp only [Bool.false_eq_true, if_false] at h
    cases hc : argsC (sg f).md rs en1 with
    | bad => rw [hc] at h; exact h.elim
    | ex x e =>
      exfalso
      clear h rv
      have : ∀ (md : List Bool) (rs : List Rs) (en : Env) x e, argsC md rs en ≠ .ex x e := by
        intro md
        induction md with
        | nil => intro rs en x e; cases rs <;> simp [argsC]
        | cons m md ih =>
          intro rs en x e
          cases rs with
          | nil => simp [argsC]
          | cons r rs =>
            have st : ∀ (t : T) (en : Env), ((argsC md rs en).bind fun ts en1 => R.ok (t :: ts) en1) ≠ .ex x e := fun t en => by
              cases q : argsC md rs en with
              | bad => simp
              | ok a b => simp
              | ex y z => exact absurd q (ih rs en y z)
            unfold argsC
            split <;> (try split) <;> (try split) <;> first | exact st _ _ | simp
      exact this _ _ _ _ _ hc
    | ok ts en2 =>
      rw [hc] at h
      obtain ⟨G2, s2, x2, ar, _, _⟩ := argsC_ok (a := none) _ _ _ _ _ _ G1 hc s1 rv (fun c e => nomatch e)
      refine ⟨G2, none, ts, s2.same, by unfold ArgsR; rw [hio]; exact ⟨rfl, ar⟩, ?_⟩
      simp only [R.bind_ok] at h
      cases hφ : Φ f ts with
      | bad => rw [hφ] at h; exact h.elim
      | ok r io' =>
        rw [hφ] at h
        intro G' H' v f1 orr
        have al : Al G2 H1 G' H' := ⟨f1.same, fun b o z => f1.keep b o z (fun c e => (nomatch e)), f1.gh, f1.new⟩
        exact h G' H' (s2.al al) (x2.trans (s2.extAl al)) v (OR.rr s2 orr (.inr x1.live))
      | ex x io' =>
        rw [hφ] at h
        intro G' H' c d f1 xr
        have al : Al G2 H1 G' H' := ⟨f1.same, fun b o z => f1.keep b o z (fun c e => (nomatch e)), f1.gh, f1.new⟩
        exact h G' H' c d (s2.al al) (x2.trans (s2.extAl al)) xr
  | true =>
    rw [hio] at h
    simp only [if_true] at h
    cases rv with
    | nil => exact h.elim
    | cons r1 n1 r2 =>
      rename_i v vs r rs
      cases r with
      | fz t => exact h.elim
      | ol xs => exact h.elim
      | plc i =>
        have r1 : σ[i]? = some (some v) := r1
        simp only [ioOf] at h
        -- the slot
        cases e : en1[i]? with
        | none => simp only [e] at h; exact h.elim
        | some z =>
          have main : ∀ (xs : List T) (b : Bool), z = (if b then Sl.io xs else Sl.ol xs) → Run K io CT W σ G1 H1 (Own en1 σ) ((argsC (sg f).md rs (en1.set i .no)).bind fun ts en2 =>
              match Φ f (.lst xs :: ts) with
              | .ok r io' => .ok r (en2.set i (if b then .io io' else .ol io'))
              | .ex x io' => .ex x (en2.set i (if b then .io io' else .ol io'))
              | .bad => .bad) (fun r en' G' H' => ∀ v, RR K G' H' H σ en' v r → Q v H') → spF K CT (sg f) (Φ f) (v :: vs) H1 Q (WE W σ) := by
            intro xs b ez h
            have zo : z.own = true := by rw [ez]; cases b <;> rfl
            have zi : z.isIo = b := by rw [ez]; cases b <;> rfl
            obtain ⟨a, ws, e1, hg, hw, q⟩ : ∃ (a : Addr) (ws : List V), σ[i]? = some (some (.ref a)) ∧ G1 a = none ∧ H1 a = some (.lst ws) ∧ VRs K G1 ws xs := by
              have y := s1.sl i _ e
              rw [ez] at y
              cases b <;> exact y
            obtain ⟨s1', x1', av⟩ := s1.take e zo e1
            cases hc : argsC (sg f).md rs (en1.set i .no) with
            | bad => rw [hc] at h; exact h.elim
            | ex x e =>
              exfalso
              clear h
              have : ∀ (md : List Bool) (rs : List Rs) (en : Env) x e, argsC md rs en ≠ .ex x e := by
                intro md
                induction md with
                | nil => intro rs en x e; cases rs <;> simp [argsC]
                | cons m md ih =>
                  intro rs en x e
                  cases rs with
                  | nil => simp [argsC]
                  | cons r rs =>
                    have st : ∀ (t : T) (en : Env), ((argsC md rs en).bind fun ts en1 => R.ok (t :: ts) en1) ≠ .ex x e := fun t en => by
                      cases q : argsC md rs en with
                      | bad => simp
                      | ok a b => simp
                      | ex y z => exact absurd q (ih rs en y z)
                    unfold argsC
                    split <;> (try split) <;> (try split) <;> first | exact st _ _ | simp
              exact this _ _ _ _ _ hc
            | ok ts en2 =>
              rw [hc] at h
              simp only [R.bind_ok] at h
              obtain ⟨G2, s2, x2, ar, av2, no2⟩ := argsC_ok (a := some a) _ _ _ _ _ _ G1 hc s1' (r2.later x1') av
              have e2 : en2[i]? = some .no := no2 i (List.getElem?_set_self (lt_of_get e))
              cases (r1.symm.trans e1)
              have g2 : G2 a = none := by
                cases q2 : G2 a with
                | none => rfl
                | some o =>
                  rcases x2.frz a (by rw [q2]; simp) with w | w | w
                  · exact absurd hg w
                  · rw [hw] at w; cases w
                  · obtain ⟨j, t, w1, w2, w3⟩ := w
                    exact absurd w3 (av a rfl j t w1 (by rw [w2]; rfl))
              refine ⟨G2, some a, .lst xs :: ts, s2.same, ?_, ?_⟩
              · unfold ArgsR
                rw [hio]
                exact ⟨a, ws, vs, xs, ts, rfl, rfl, rfl, g2, hw, q.mono x2.same, ar⟩
              · have hz : z.isIo = true → io.a = some a ∧ i = 0 := fun hb => by
                  have rio := s1.iok
                  unfold IoR at rio
                  cases hio : io.a with
                  | none => rw [hio] at rio; rw [rio i z e] at hb; cases hb
                  | some c =>
                    rw [hio] at rio
                    obtain ⟨_, h2, h3⟩ := rio
                    have z2 : ∃ ys, z = .io ys := by cases z <;> simp [Sl.isIo] at hb ⊢
                    obtain ⟨ys, rfl⟩ := z2
                    have := h3 i ys e
                    subst this
                    rw [h2] at e1; cases e1
                    exact ⟨rfl, rfl⟩
                have fin : ∀ G' H' ys, Aft1 K G2 H1 (some a) G' H' ys → SR K io G' H' σ (en2.set i (if b then .io ys else .ol ys)) ∧ Ext G1 H1 (Own en1 σ) G' H' (Own (en2.set i (if b then .io ys else .ol ys)) σ) := fun G' H' ys f1 => by
                  obtain ⟨w1, w2⟩ := SR.give (s := z) (s' := if b then .io ys else .ol ys) (io0 := io) s2 rfl e2 e1 av2 hz (by rw [zi]) f1 ⟨ws, hw⟩
                  refine ⟨w1, ?_⟩
                  have y1 : Ext G1 H1 (Own en1 σ) G2 H1 (fun b => Own en2 σ b ∨ b = a) := by
                    have y := x1'.trans x2
                    refine ⟨y.same, y.keep, y.live, fun c hc => ?_, y.frz⟩
                    rcases hc with hc | rfl
                    · exact y.own c hc
                    · exact .inl ⟨i, z, e, zo, e1⟩
                  exact y1.trans w2
                cases hφ : Φ f (.lst xs :: ts) with
                | bad => rw [hφ] at h; exact h.elim
                | ok r io' =>
                  rw [hφ] at h
                  intro G' H' v f1 orr
                  obtain ⟨w1, w2⟩ := fin G' H' io' f1
                  refine h G' H' w1 w2 v ?_
                  cases r with
                  | fz t => exact orr
                  | plc j => exact orr.elim
                  | ol zs =>
                    obtain ⟨p, us, rfl, h0, hg', hp, hv⟩ := orr
                    refine ⟨p, us, rfl, hp, hg', Classical.byContradiction fun n => x1.live p n h0, fun w => ?_, hv⟩
                    obtain ⟨j, t, y1, y2, y3⟩ := w
                    rcases get_set y1 with ⟨rfl, _⟩ | ⟨_, y1⟩
                    · rw [e1] at y3; cases y3; rw [hw] at h0; cases h0
                    · obtain ⟨_, us', y4⟩ := s2.ownAt ⟨j, t, y1, y2, y3⟩
                      rw [h0] at y4; cases y4
                | ex x io' =>
                  rw [hφ] at h
                  intro G' H' c d f1 xr
                  obtain ⟨w1, w2⟩ := fin G' H' io' f1
                  exact h G' H' c d w1 w2 xr
          simp only [e] at h
          cases z with
          | no => exact h.elim
          | fz _ => exact h.elim
          | bl _ => exact h.elim
          | ol xs => exact main xs false rfl h
          | io xs => exact main xs true rfl h

/-! methods upon a slot's list -/
theorem mth_red {m : Mt} {i : Nat} {l : E} {Q : VK} (h : tE K io CT W sg Φ (.mth m i l) σ H Q) :
    ∃ a, σ[i]? = some (some (.ref a)) ∧ (∃ vs, H a = some (.lst vs)) ∧ tV K io CT W sg Φ l σ H fun us H1 => rM m (.ref a) us H1 Q := by
  obtain ⟨G, en, s, h⟩ := h
  unfold ev at h
  cases e : ownOf en i with
  | none => simp only [e] at h; exact h.elim
  | some z =>
    simp only [e] at h
    obtain ⟨b, xs0⟩ := z
    have e0 := ownOf_at e
    obtain ⟨a, ws, e1, hg, hw, q⟩ : ∃ (a : Addr) (ws : List V), σ[i]? = some (some (.ref a)) ∧ G a = none ∧ H a = some (.lst ws) ∧ VRs K G ws xs0 := by
      have y := s.sl i _ e0
      cases b <;> exact y
    refine ⟨a, e1, ⟨ws, hw⟩, G, en, s, h.bind.imp fun ts en1 G1 H1 s1 x1 h us ru => ?_⟩
    cases e2 : ownOf en1 i with
    | none => simp only [e2] at h; exact h.elim
    | some z1 =>
      simp only [e2] at h
      obtain ⟨b1, xs⟩ := z1
      have e3 := ownOf_at e2
      obtain ⟨a', vs, f1, f2, f3, f4⟩ : ∃ (a : Addr) (ws : List V), σ[i]? = some (some (.ref a)) ∧ G1 a = none ∧ H1 a = some (.lst ws) ∧ VRs K G1 ws xs := by
        have y := s1.sl i _ e3
        cases b1 <;> exact y
      rw [e1] at f1; cases f1
      cases hm : apM m xs ts with
      | none => rw [hm] at h; exact h.elim
      | some p =>
        obtain ⟨t, ys⟩ := p
        rw [hm] at h
        refine ok_mth s1.same f3 f4 ru hm fun v ws' rv rw' => ?_
        obtain ⟨w1, w2⟩ := s1.change (s' := mkOwn b1 ys) (ws := ws') e3 (by cases b1 <;> rfl) (by cases b1 <;> rfl) (by cases b1 <;> rfl) e1 f3 (by cases b1 <;> exact ⟨a, ws', rfl, f2, upd_same, rw'⟩)
        exact h _ _ w1 w2 v rv
/-! slices -/
theorem tP.none {Q : Option Int → Hp → Prop} (h : tP K io CT W sg Φ (.lit .non) σ H Q) : Q none H := by
  obtain ⟨G, en, s, h⟩ := h
  unfold ev at h
  exact h.ok' s Ext.refl
theorem sl_red {a lo hi : E} {Q : VK} (h : tE K io CT W sg Φ (.sl a lo hi) σ H Q) :
    tE K io CT W sg Φ a σ H fun x H1 => tP K io CT W sg Φ lo σ H1 fun l H2 => tP K io CT W sg Φ hi σ H2 fun u H3 => rSlL K x l u H3 Q ∨ rSlA K x l u H3 Q := by
  obtain ⟨G, en, s, h⟩ := h
  unfold ev at h
  refine ⟨G, en, s, h.bind2.imp fun q en1 G1 H1 s1 x1 h v rv => ?_⟩
  obtain ⟨G2, s2, x2, rv, nv⟩ := rv.settle s1 x1
  have h := h G2 s2 x2
  rw [← bind_assoc] at h
  refine ⟨G2, en1, s2, h.bind.imp fun l en2 G3 H3 s3 x3 h => ?_⟩
  rw [← bind_assoc] at h
  refine ⟨G3, en2, s3, h.bind.imp fun u en3 G4 H4 s4 x4 h => ?_⟩
  refine op_end (O := fun _ => True) s4 (fun b z => x4.live b (x3.live b (x1.live b z))) h fun res he af => ?_
  cases hc : con en3 (settle q) with
  | none => rw [hc] at he; cases he
  | some t =>
    rw [hc] at he
    exact ok_sl s4.same ((rv.later (x3.trans x4) nv).cr s4 hc) he af
theorem tP.some {a : E} {Q : Option Int → Hp → Prop} (h : tP K io CT W sg Φ a σ H Q) (hn : ∀ en, ∀ en', ev sg Φ a en ≠ .ok (.fz .non) en') : tE K io CT W sg Φ a σ H fun x H1 => ∃ i, x = .int i ∧ Q (some i) H1 := by
  obtain ⟨G, en, s, h⟩ := h
  refine ⟨G, en, s, ?_⟩
  cases he : ev sg Φ a en with
  | bad => rw [he] at h; exact h
  | ex x e => rw [he] at h; exact h
  | ok r en1 =>
    rw [he] at h
    intro G1 H1 s1 x1 v rv
    cases r with
    | fz t =>
      cases t with
      | int i =>
        cases (show VR K G1 v (.int i) from rv)
        exact ⟨i, rfl, h G1 H1 s1 x1⟩
      | non => exact absurd he (hn en en1)
      | _ => exact h.elim
    | _ => exact h.elim
/-! chains -/
theorem chain_red {o o' : P2} {a b d : E} {Q : VK} {r r' : R2} (h : tE K io CT W sg Φ (.chain o o' a b d) σ H Q)
    (k : ∀ G H x y a b res Q, Same G H → CR K G H x a → CR K G H y b → ap2 o a b = some res → Aft K G H res Q → r x y H Q)
    (k' : ∀ G H x y a b res Q, Same G H → CR K G H x a → CR K G H y b → ap2 o' a b = some res → Aft K G H res Q → r' x y H Q) :
    tChain r r' (tE K io CT W sg Φ a) (tE K io CT W sg Φ b) (tE K io CT W sg Φ d) σ H Q := by
  obtain ⟨G, en, s, h⟩ := h
  unfold ev at h
  refine ⟨G, en, s, h.bind2.imp fun q en1 G1 H1 s1 x1 h v rv => ?_⟩
  obtain ⟨G2, s2, x2, rv, nv⟩ := rv.settle s1 x1
  refine ⟨G2, en1, s2, (h G2 s2 x2).bind2.imp fun q2 en2 G3 H3 s3 x3 h w rw' => ?_⟩
  obtain ⟨G4, s4, x4, rw', nw⟩ := rw'.settle s3 x3
  have rv4 := rv.later x4 nv
  have h := h G4 s4 x4
  cases ho : ((con en2 (settle q)).bind fun x => (con en2 (settle q2)).bind fun y => ap2 o x y) with
  | none => rw [ho] at h; exact h.elim
  | some res =>
    rw [ho] at h
    obtain ⟨ta, tb, ha, hb, hc⟩ := bind2_some ho
    refine k G4 H3 v w ta tb res _ s4.same (rv4.cr s4 ha) (rw'.cr s4 hb) hc fun G5 H5 z al orr => ?_
    have s5 := s4.al al
    have x5 := s4.extAl al
    have h : Run K io CT W σ G4 H3 (Own en2 σ) (match res with
        | .fz (.bl true) => (ev sg Φ d en2).bind fun r'' en3 => liftO ((con en3 (settle q2)).bind fun x => (con en3 (settle r'')).bind fun y => ap2 o' x y) en3
        | .fz (.bl false) => .ok (.fz (.bl false)) en2
        | _ => .bad) (fun r en' G' H' => ∀ v, RR K G' H' H1 σ en' v r → Q v H') := by
      refine h.imp fun r en' G' H' _ _ h v rv => h v (rv.base x1.live)
    cases res with
    | fz t =>
      cases t with
      | bl kk =>
        cases (show VR K G5 z (.bl kk) from orr)
        refine ⟨kk, rfl, ?_⟩
        cases kk with
        | false => exact iteF (h.ok' s5 x5 _ (VR.bl false))
        | true =>
          refine iteT ⟨G5, en2, s5, ?_⟩
          have h5 : Run K io CT W σ G5 H5 (Own en2 σ) ((ev sg Φ d en2).bind fun r'' en3 => liftO ((con en3 (settle q2)).bind fun x => (con en3 (settle r'')).bind fun y => ap2 o' x y) en3) (fun r en' G' H' => ∀ v, RR K G' H' H1 σ en' v r → Q v H') := by
            cases hr : ((ev sg Φ d en2).bind fun r'' en3 => liftO ((con en3 (settle q2)).bind fun x => (con en3 (settle r'')).bind fun y => ap2 o' x y) en3) with
            | bad => rw [hr] at h; exact h
            | ex x e => rw [hr] at h; exact fun G' H' c d s' x' => h G' H' c d s' (x5.trans x')
            | ok r e => rw [hr] at h; exact fun G' H' s' x' => h G' H' s' (x5.trans x')
          refine h5.bind2.imp fun q3 en3 G6 H6 s6 x6 h u ru => ?_
          obtain ⟨G7, s7, x7, ru, nu⟩ := ru.settle s6 x6
          refine op_end (O := fun _ => True) s7 (fun b z => x7.live b (Same.live al.sameH (x3.live b z))) (h G7 s7 x7) fun res he af => ?_
          obtain ⟨ta, tb, ha, hb, hc⟩ := bind2_some he
          exact k' G7 H6 w u ta tb res Q s7.same ((rw'.later (x5.trans x7) nw).cr s7 ha) (ru.cr s7 hb) hc af
      | _ => exact h.elim
    | _ => exact h.elim
end
end Ev

set_option Elab.async false
set_option linter.all false
set_option autoImplicit false
/-! EvF: what is walked; comprehensions. -/
namespace Ev
open PySem PySem.Spec PyProof.Rows L2
section
variable {X : Cx}
/-- a list or a tuple is walked -/
def iSeq (K : PySem.W.Frag) (tl : TE) : TI := fun σ H R => tl σ H fun x H1 => ∃ a, x = .ref a ∧ (((∃ xs, SqL K H1 a xs) ∧ R (Itl K a) H1) ∨ ((∃ xs, SqT K H1 a xs) ∧ R (Itt K a) H1))
theorem pi_seq {tg l : Expr} {tl : TE} (hl : PE X l tl) : PI X tg l (iSeq X.K tl) := by
  refine ⟨fun pins s σ H R I h => ?_⟩
  refine thn (hl.run pins s σ H _ I h) fun v s1 ⟨x, H1, I1, r1, q1⟩ => ?_
  obtain ⟨a, e, q⟩ := q1
  subst e
  cases r1
  rcases q with ⟨⟨xs, hq⟩, q⟩ | ⟨⟨xs, hq⟩, q⟩
  · obtain ⟨its, rv, p, hz⟩ := I1.list hq
    refine wpAny_pyIter_list p.isList ?_
    refine ⟨s1.heap.objs.size, [s1.heap.objs.size], _, _, H1, rfl, I1.kept (t' := s1.toks) fun b o e => Heap.get?_push_of_some _ e, turn_list a _, ⟨_, Heap.get?_push_size _ rfl, rfl, rfl⟩, fun b hb => ?_, q⟩
    have e : b = s1.heap.objs.size := by simpa using hb
    subst e
    exact I1.fpOk (Nat.le_refl _) (I1.hok.fresh (Nat.le_refl _))
  · obtain ⟨its, rv, p, hz⟩ := I1.tuple hq
    refine wpAny_pyIter_tuple (show s1.heap.IsTuple a its.toArray from p) ?_
    refine ⟨s1.heap.objs.size, [s1.heap.objs.size], _, _, H1, rfl, I1.kept (t' := s1.toks) fun b o e => Heap.get?_push_of_some _ e, turn_tuple a _, ⟨_, Heap.get?_push_size _ rfl, rfl, rfl⟩, fun b hb => ?_, q⟩
    have e : b = s1.heap.objs.size := by simpa using hb
    subst e
    exact I1.fpOk (Nat.le_refl _) (I1.hok.fresh (Nat.le_refl _))
end
section
variable {K : PySem.W.Frag} {io : Fx} {CT : Nat → Addr} {W : WX} {sg : Nat → Sig} {Φ : Nat → List T → FR} {σ : L2.St} {H : Hp}
theorem VR.lst_inv {G : Hp} {v : V} {xs : List T} (h : VR K G v (.lst xs)) : ∃ a vs, v = .ref a ∧ Rd G a (.lst vs) ∧ VRs K G vs xs := by
  cases h with
  | lst h1 h2 => exact ⟨_, _, rfl, h1, h2⟩
theorem JOk.range {G : Hp} {lo : Int} {n : Nat} : JOk K (Itr lo n) G ⟨rangeI lo n, none⟩ none where
  stop := fun i G' H' _ _ _ hl => by
    simp [rangeI] at hl
    exact hl
  go := fun i t G' H' _ s _ hi => by
    unfold rangeI at hi
    rw [List.getElem?_map] at hi
    simp only [Option.map_eq_some_iff] at hi
    obtain ⟨k, h1, rfl⟩ := hi
    obtain ⟨hl, h2⟩ := List.getElem?_eq_some_iff.mp h1
    rw [List.getElem_range] at h2
    subst h2
    rw [List.length_range] at hl
    refine ⟨hl, fun x H'' hy => ?_⟩
    obtain ⟨rfl, rfl⟩ := hy
    exact ⟨G', Al.refl s, .int _⟩
theorem JOk.down {G : Hp} {a b : Int} : JOk K (Itc a (-1) (a - b).toNat) G ⟨(List.range (a - b).toNat).map fun (k : Nat) => T.int (a - (k : Int)), none⟩ none where
  stop := fun i G' H' _ _ _ hl => by
    simp only [List.length_map, List.length_range] at hl
    exact hl
  go := fun i t G' H' _ s _ hi => by
    rw [List.getElem?_map] at hi
    simp only [Option.map_eq_some_iff] at hi
    obtain ⟨k, h1, rfl⟩ := hi
    obtain ⟨hl, h2⟩ := List.getElem?_eq_some_iff.mp h1
    rw [List.getElem_range] at h2
    subst h2
    rw [List.length_range] at hl
    refine ⟨hl, fun x H'' hy => ?_⟩
    obtain ⟨rfl, rfl⟩ := hy
    refine ⟨G', Al.refl s, ?_⟩
    have e : a + (i : Int) * -1 = a - (i : Int) := by omega
    rw [e]
    exact .int _
theorem JOk.lst {G : Hp} {a : Addr} {its : Its} {ca : Option Addr} (h : ca = some a ∨ (ca = none ∧ ∃ vs, Rd G a (.lst vs) ∧ VRs K G vs its.xs)) : JOk K (Itl K a) G its ca := by
  have key : ∀ G' H', Same G G' → Same G' H' → (∀ a, ca = some a → ∃ vs, Rd H' a (.lst vs) ∧ VRs K G' vs its.xs) → ∃ vs, Rd H' a (.lst vs) ∧ VRs K G' vs its.xs := fun G' H' s1 s2 k => by
    rcases h with h | ⟨_, vs, h1, h2⟩
    · exact k a h
    · exact ⟨vs, sameR s2 (sameR s1 h1), h2.mono s1⟩
  refine ⟨fun i G' H' s1 s2 k hl => ?_, fun i t G' H' s1 s2 k hi => ?_⟩
  · obtain ⟨vs, h1, h2⟩ := key G' H' s1 s2 k
    exact ⟨vs, .inl h1, by rw [h2.length]; exact hl⟩
  · obtain ⟨vs, h1, h2⟩ := key G' H' s1 s2 k
    obtain ⟨v, h3, h4⟩ := h2.get hi
    refine ⟨⟨vs, v, .inl h1, h3⟩, fun x H'' hy => ?_⟩
    obtain ⟨rfl, hx⟩ := hy
    have e := (hx vs (.inl h1)).symm.trans h3
    cases e
    exact ⟨G', Al.refl s2, h4⟩
theorem JOk.tup {G : Hp} {a : Addr} {vs : List V} {xs : List T} (h : SqT K G a vs) (r : VRs K G vs xs) : JOk K (Itt K a) G ⟨xs, none⟩ none where
  stop := fun i G' H' s1 s2 _ hl => ⟨vs, sameT s2 (sameT s1 h), by rw [r.length]; exact hl⟩
  go := fun i t G' H' s1 s2 _ hi => by
    obtain ⟨v, h3, h4⟩ := r.get hi
    have q := sameT s2 (sameT s1 h)
    refine ⟨⟨vs, v, q, h3⟩, fun x H'' hy => ?_⟩
    obtain ⟨rfl, hx⟩ := hy
    have e := (hx vs q).symm.trans h3
    cases e
    exact ⟨G', Al.refl s2, h4.mono s1⟩
theorem it1_red {a : E} {R : It → Hp → Prop} (h : tI K io CT W sg Φ (.it1 a) σ H R) : iSeq K (tE K io CT W sg Φ a) σ H R := by
  obtain ⟨G, en, s, h⟩ := h
  unfold evI at h
  refine ⟨G, en, s, h.bind2.imp fun q en1 G1 H1 s1 x1 h v rv => ?_⟩
  cases q with
  | plc i =>
    have h := h G1 s1 x1
    have rv : σ[i]? = some (some v) := rv
    simp only at h
    cases e : en1[i]? with
    | none => simp only [e] at h; exact h.elim
    | some z =>
      simp only [e] at h
      cases z with
      | no => exact h.elim
      | fz t =>
        obtain ⟨y, e1, q⟩ := s1.sl i _ e
        rw [rv] at e1; cases e1
        cases t with
        | lst xs =>
          have h := h.ok' s1 Ext.refl (by simp [slotIs, e])
          obtain ⟨b, vs, rfl, h1, h2⟩ := VR.lst_inv q
          exact ⟨b, rfl, .inl ⟨⟨vs, .inl (sameR s1.same h1)⟩, h _ (some b) (.lst (.inl rfl)) ⟨rfl, b, rfl, rv⟩⟩⟩
        | _ => exact h.elim
      | ol xs =>
        obtain ⟨b, vs, e1, _, h1, h2⟩ := s1.sl i _ e
        rw [rv] at e1; cases e1
        have h := h.ok' s1 Ext.refl (by simp [slotIs, e])
        exact ⟨b, rfl, .inl ⟨⟨vs, .inl (Rd.of h1)⟩, h _ (some b) (.lst (.inl rfl)) ⟨rfl, b, rfl, rv⟩⟩⟩
      | io xs =>
        obtain ⟨b, vs, e1, _, h1, h2⟩ := s1.sl i _ e
        rw [rv] at e1; cases e1
        have h := h.ok' s1 Ext.refl (by simp [slotIs, e])
        exact ⟨b, rfl, .inl ⟨⟨vs, .inl (Rd.of h1)⟩, h _ (some b) (.lst (.inl rfl)) ⟨rfl, b, rfl, rv⟩⟩⟩
      | bl xs =>
        obtain ⟨b, vs, e1, _, h1, h2⟩ := s1.sl i _ e
        rw [rv] at e1; cases e1
        have h := h.ok' s1 Ext.refl (by simp [slotIs, e])
        exact ⟨b, rfl, .inl ⟨⟨vs, .inl h1⟩, h _ (some b) (.lst (.inl rfl)) ⟨rfl, b, rfl, rv⟩⟩⟩
  | fz t =>
    have h := h G1 s1 x1
    cases t with
    | lst xs =>
      have h := h.ok' s1 Ext.refl rfl
      cases (show VR K G1 v (.lst xs) from rv) with
      | lst h1 h2 =>
        rename_i b vs
        exact ⟨b, rfl, .inl ⟨⟨vs, .inl (sameR s1.same h1)⟩, h _ none (.lst (.inr ⟨rfl, vs, h1, h2⟩)) rfl⟩⟩
    | tup xs =>
      have h := h.ok' s1 Ext.refl rfl
      cases (show VR K G1 v (.tup xs) from rv) with
      | tup h1 h2 =>
        rename_i b vs
        exact ⟨b, rfl, .inr ⟨⟨vs, sameT s1.same h1⟩, h _ none (.tup h1 h2) rfl⟩⟩
    | _ => exact h.elim
  | ol xs =>
    obtain ⟨G2, s2, x2, rv2, _⟩ := rv.settle s1 x1
    have h := (h G2 s2 x2).ok' s2 Ext.refl rfl
    cases (show VR K G2 v (.lst xs) from rv2) with
    | lst h1 h2 =>
      rename_i b vs
      exact ⟨b, rfl, .inl ⟨⟨vs, .inl (sameR s2.same h1)⟩, h _ none (.lst (.inr ⟨rfl, vs, h1, h2⟩)) rfl⟩⟩
theorem big_of {i : Int} (h : inBig i = true) : -(2 ^ 62) ≤ i ∧ i < 2 ^ 62 := of_decide_eq_true h
theorem rng1_red {b : E} {R : It → Hp → Prop} (h : tI K io CT W sg Φ (.rng1 b) σ H R) : iRng1 (tCons (tE K io CT W sg Φ b) tNil) σ H R := by
  obtain ⟨G, en, s, h⟩ := h
  unfold evI at h
  refine ⟨G, en, s, h.bind.imp fun q en1 G1 H1 s1 x1 h v rv => ?_⟩
  cases q with
  | fz t =>
    cases t with
    | int j =>
      cases (show VR K G1 v (.int j) from rv)
      simp only at h
      split at h
      · rename_i hb
        obtain ⟨h1, h2⟩ := big_of hb
        exact ⟨j, rfl, h1, h2, h.ok' s1 Ext.refl rfl _ none JOk.range rfl⟩
      · exact h.elim
    | _ => exact h.elim
  | _ => exact h.elim
theorem rng2_red {a b : E} {R : It → Hp → Prop} (h : tI K io CT W sg Φ (.rng2 a b) σ H R) : iRng2 (tCons (tE K io CT W sg Φ a) (tCons (tE K io CT W sg Φ b) tNil)) σ H R := by
  obtain ⟨G, en, s, h⟩ := h
  unfold evI at h
  refine ⟨G, en, s, h.bind2.imp fun q en1 G1 H1 s1 x1 h v rv => ?_⟩
  obtain ⟨G1', s1', x1', rv', nv⟩ := rv.settle s1 x1
  refine ⟨G1', en1, s1', (h G1' s1' x1').bind.imp fun q2 en2 G2 H2 s2 x2 h w rw' => ?_⟩
  cases q with
  | fz t =>
    cases t with
    | int i =>
      cases (show VR K G1 v (.int i) from rv)
      cases q2 with
      | fz t =>
        cases t with
        | int j =>
          cases (show VR K G2 w (.int j) from rw')
          simp only at h
          split at h
          · rename_i hb
            obtain ⟨ha, hb⟩ := Bool.and_eq_true_iff.mp hb
            obtain ⟨h1, h2⟩ := big_of ha
            obtain ⟨h3, h4⟩ := big_of hb
            exact ⟨i, j, rfl, ⟨h1, h2, h3, h4⟩, h.ok' s2 Ext.refl rfl _ none JOk.range rfl⟩
          · exact h.elim
        | _ => exact h.elim
      | _ => exact h.elim
    | _ => cases q2 <;> exact h.elim
  | _ => cases q2 <;> exact h.elim
theorem rng3_red {a b d : E} {R : It → Hp → Prop} (h : tI K io CT W sg Φ (.rng3 a b d) σ H R) : iRng3 (tCons (tE K io CT W sg Φ a) (tCons (tE K io CT W sg Φ b) (tCons (tE K io CT W sg Φ d) tNil))) σ H R := by
  obtain ⟨G, en, s, h⟩ := h
  unfold evI at h
  refine ⟨G, en, s, h.bind2.imp fun q en1 G1 H1 s1 x1 h v rv => ?_⟩
  obtain ⟨G1', s1', x1', rv', nv⟩ := rv.settle s1 x1
  refine ⟨G1', en1, s1', (h G1' s1' x1').bind2.imp fun q2 en2 G2 H2 s2 x2 h w rw' => ?_⟩
  obtain ⟨G2', s2', x2', rw2, nw⟩ := rw'.settle s2 x2
  refine ⟨G2', en2, s2', (h G2' s2' x2').bind.imp fun q3 en3 G3 H3 s3 x3 h u ru => ?_⟩
  cases q with
  | fz t =>
    cases t with
    | int i =>
      cases (show VR K G1 v (.int i) from rv)
      cases q2 with
      | fz t =>
        cases t with
        | int j =>
          cases (show VR K G2 w (.int j) from rw')
          cases q3 with
          | fz t =>
            cases t with
            | int k =>
              cases (show VR K G3 u (.int k) from ru)
              simp only [rng3] at h
              split at h
              · rename_i hb
                obtain ⟨ha, hb⟩ := Bool.and_eq_true_iff.mp hb
                obtain ⟨h1, h2⟩ := big_of ha
                obtain ⟨h3, h4⟩ := big_of hb
                split at h
                · rename_i hk
                  subst hk
                  exact ⟨i, j, -1, _, rfl, RgC.neg h1 h2 h3 h4, h.ok' s3 Ext.refl rfl _ none JOk.down rfl⟩
                · exact h.elim
              · exact h.elim
            | _ => exact h.elim
          | _ => exact h.elim
        | _ => cases q3 <;> exact h.elim
      | _ => cases q3 <;> exact h.elim
    | _ => cases q2 <;> cases q3 <;> exact h.elim
  | _ => cases q2 <;> cases q3 <;> exact h.elim

/-! ### targets -/
def tgLen : Tg → Nat
  | .cons _ r => tgLen r + 1
  | _ => 0
mutual
def gT (K : PySem.W.Frag) : Tg → TG
  | .v i => gName i
  | .tp l => gTup K (tgLen l) (gTs K l)
  | _ => fun _ _ _ _ => False
def gTs (K : PySem.W.Frag) : Tg → TGs
  | .nil => gNil
  | .cons a r => gCons (gT K a) (gTs K r)
  | _ => fun _ _ _ _ => False
end
/-- behind a store -/
structure AsgR (io : Fx) (G H : Hp) (σ : L2.St) (en : Env) (l : List Nat) (σ1 : L2.St) (en1 : Env) : Prop where
  sr : SR K io G H σ1 en1
  own : ∀ a, Own en1 σ1 a → Own en σ a
  out : ∀ i, i ∉ l → σ1[i]? = σ[i]?
  len : σ1.length = σ.length
theorem SR.store {G : Hp} {en en1 : Env} {i : Nat} {t : T} {x : V} (s : SR K io G H σ en) (r : VR K G x t) (h : asg1 i t en = some en1) : AsgR (K := K) io G H σ en [i] (σ.set i (some x)) en1 := by
  unfold asg1 at h
  cases e : en[i]? with
  | none => simp only [e] at h; cases h
  | some z =>
    have hl : i < σ.length := by rw [← s.len]; exact lt_of_get e
    have nio : z.isIo = false ∧ en1 = en.set i (.fz t) := by
      simp only [e] at h
      cases z <;> cases h <;> exact ⟨rfl, rfl⟩
    obtain ⟨nio, rfl⟩ := nio
    refine ⟨⟨s.same, by rw [List.length_set, List.length_set]; exact s.len, fun j t' z' => ?_, fun j k t u b z1 z2 o1 o2 n y1 => ?_, ?_, s.bl⟩, fun a ⟨j, t, z1, z2, z3⟩ => ?_, fun j hj => ?_, by rw [List.length_set]⟩
    · rcases get_set z' with ⟨rfl, rfl⟩ | ⟨n, z'⟩
      · rw [List.getElem?_set_self hl]; exact ⟨x, rfl, r⟩
      · rw [List.getElem?_set_ne (Ne.symm n)]; exact s.sl j t' z'
    · rcases get_set z1 with ⟨rfl, rfl⟩ | ⟨n1, w1⟩
      · cases o1
      · rcases get_set z2 with ⟨rfl, rfl⟩ | ⟨n2, w2⟩
        · cases o2
        · rw [List.getElem?_set_ne (Ne.symm n1)] at y1
          rw [List.getElem?_set_ne (Ne.symm n2)]
          exact s.sep j k t u b w1 w2 o1 o2 n y1
    · have rio := s.iok
      unfold IoR at rio ⊢
      cases hio : io.a with
      | none =>
        rw [hio] at rio
        intro j t' z'
        rcases get_set z' with ⟨rfl, rfl⟩ | ⟨_, z'⟩
        · rfl
        · exact rio j t' z'
      | some c =>
        rw [hio] at rio
        obtain ⟨⟨ys, h1⟩, h2, h3⟩ := rio
        have n0 : i ≠ 0 := fun q => by subst q; rw [e] at h1; cases h1; cases nio
        refine ⟨⟨ys, by rw [List.getElem?_set_ne n0]; exact h1⟩, by rw [List.getElem?_set_ne n0]; exact h2, fun j ys z' => ?_⟩
        rcases get_set z' with ⟨rfl, y⟩ | ⟨_, z'⟩
        · cases y
        · exact h3 j ys z'
    · rcases get_set z1 with ⟨rfl, rfl⟩ | ⟨n, w⟩
      · cases z2
      · rw [List.getElem?_set_ne (Ne.symm n)] at z3
        exact ⟨j, t, w, z2, z3⟩
    · rw [List.getElem?_set_ne (fun q => hj (by rw [q]; simp))]
theorem asgTs_len : ∀ {l : Tg} {xs : List T} {en en1 : Env}, asgTs l xs en = some en1 → xs.length = tgLen l
  | .nil, [], _, _, _ => rfl
  | .nil, _ :: _, _, _, h => by simp [asgTs] at h
  | .cons a r, [], _, _, h => by simp [asgTs] at h
  | .cons a r, x :: xs, en, en1, h => by
    unfold asgTs at h
    simp only [Option.bind_eq_some_iff] at h
    obtain ⟨e, _, h⟩ := h
    rw [List.length_cons, asgTs_len h]; rfl
  | .v i, xs, _, _, h => by cases xs <;> simp [asgTs] at h
  | .tp l, xs, _, _, h => by cases xs <;> simp [asgTs] at h
mutual
theorem asgT_ok {G : Hp} : ∀ (tg : Tg) {t : T} {en en1 : Env} {x : V} {σ : L2.St} {k : L2.St → Hp → Prop}, asgT tg t en = some en1 → SR K io G H σ en → VR K G x t → (∀ σ1, AsgR (K := K) io G H σ en (tgSlots tg) σ1 en1 → k σ1 H) → gT K tg x σ H k
  | .v i, t, en, en1, x, σ, k, h, s, r, q => q _ (s.store r h)
  | .tp l, t, en, en1, x, σ, k, h, s, r, q => by
    cases t with
    | tup xs =>
      cases r with
      | tup h1 h2 => exact ⟨_, _, rfl, sameT s.same h1, by rw [h2.length]; exact asgTs_len h, asgTs_ok l h s h2 q⟩
    | _ => simp [asgT] at h
  | .nil, t, en, en1, x, σ, k, h, s, r, q => by simp [asgT] at h
  | .cons _ _, t, en, en1, x, σ, k, h, s, r, q => by simp [asgT] at h
theorem asgTs_ok {G : Hp} : ∀ (tg : Tg) {ts : List T} {en en1 : Env} {xs : List V} {σ : L2.St} {k : L2.St → Hp → Prop}, asgTs tg ts en = some en1 → SR K io G H σ en → VRs K G xs ts → (∀ σ1, AsgR (K := K) io G H σ en (tgSlots tg) σ1 en1 → k σ1 H) → gTs K tg xs σ H k
  | .nil, ts, en, en1, xs, σ, k, h, s, r, q => by
    cases ts with
    | nil =>
      cases r
      cases h
      exact ⟨rfl, q σ ⟨s, fun _ h => h, fun _ _ => rfl, rfl⟩⟩
    | cons _ _ => simp [asgTs] at h
  | .cons a l, ts, en, en1, xs, σ, k, h, s, r, q => by
    cases ts with
    | nil => simp [asgTs] at h
    | cons t ts =>
      unfold asgTs at h
      simp only [Option.bind_eq_some_iff] at h
      obtain ⟨e, h1, h2⟩ := h
      cases r with
      | cons r1 r2 =>
        refine ⟨_, _, rfl, asgT_ok a h1 s r1 fun σ1 a1 => asgTs_ok l h2 a1.sr r2 fun σ2 a2 => q σ2 ⟨a2.sr, fun a h => a1.own a (a2.own a h), fun i hi => ?_, a2.len.trans a1.len⟩⟩
        have hi : i ∉ tgSlots a ++ tgSlots l := hi
        rw [List.mem_append, not_or] at hi
        exact (a2.out i hi.2).trans (a1.out i hi.1)
  | .v i, ts, en, en1, xs, σ, k, h, s, r, q => by cases ts <;> simp [asgTs] at h
  | .tp l, ts, en, en1, xs, σ, k, h, s, r, q => by cases ts <;> simp [asgTs] at h
end
theorem AsgR.ext {G : Hp} {en en1 : Env} {l : List Nat} {σ1 : L2.St} (a : AsgR (K := K) io G H σ en l σ1 en1) : Ext G H (Own en σ) G H (Own en1 σ1) := ⟨Same.refl _, fun _ _ h _ => h, fun _ h => h, fun b h => .inl (a.own b h), fun _ h => .inl h⟩

/-! ### comprehensions -/
theorem wipe_get {σ : L2.St} {i : Nat} : ∀ {vs : List Nat}, (wipe σ vs)[i]? = if i ∈ vs then (σ[i]?).map (fun _ => none) else σ[i]?
  | [] => by simp [wipe]
  | v :: vs => by
    unfold wipe
    by_cases hv : v = i
    · subst hv
      rw [if_pos (List.mem_cons_self ..)]
      by_cases hl : v < σ.length
      · rw [List.getElem?_set_self (by rw [wipe_length]; exact hl), List.getElem?_eq_getElem hl]; rfl
      · rw [List.getElem?_eq_none (by rw [List.length_set, wipe_length]; omega), List.getElem?_eq_none (by omega)]; rfl
    · rw [List.getElem?_set_ne hv, wipe_get]
      by_cases hm : i ∈ vs
      · rw [if_pos hm, if_pos (List.mem_cons_of_mem _ hm)]
      · rw [if_neg hm, if_neg (by simp; exact ⟨fun e => hv e.symm, hm⟩)]
theorem wipe_eq {σ σ1 : L2.St} {vs : List Nat} (h : ∀ i, i ∉ vs → σ1[i]? = σ[i]?) (hl : σ1.length = σ.length) : wipe σ1 vs = wipe σ vs := by
  apply List.ext_getElem?
  intro i
  rw [wipe_get, wipe_get]
  by_cases hm : i ∈ vs
  · rw [if_pos hm, if_pos hm]
    by_cases hi : i < σ.length
    · rw [List.getElem?_eq_getElem hi, List.getElem?_eq_getElem (by omega)]; rfl
    · rw [List.getElem?_eq_none (by omega), List.getElem?_eq_none (by omega)]
  · rw [if_neg hm, if_neg hm]; exact h i hm
theorem wipeE_get {en : Env} {i : Nat} : ∀ {vs : List Nat}, (wipeE vs en)[i]? = if i ∈ vs then (en[i]?).map (fun _ => Sl.no) else en[i]?
  | [] => by simp [wipeE]
  | v :: vs => by
    have ih := wipeE_get (en := en) (i := i) (vs := vs)
    have hlen : ∀ l : List Nat, (wipeE l en).length = en.length := fun l => by
      induction l with
      | nil => rfl
      | cons a r ih => show ((wipeE r en).set a .no).length = _; rw [List.length_set, ih]
    show ((wipeE vs en).set v .no)[i]? = _
    by_cases hv : v = i
    · subst hv
      rw [if_pos (List.mem_cons_self ..)]
      by_cases hl : v < en.length
      · rw [List.getElem?_set_self (by rw [hlen]; exact hl), List.getElem?_eq_getElem hl]; rfl
      · rw [List.getElem?_eq_none (by rw [List.length_set, hlen]; omega), List.getElem?_eq_none (by omega)]; rfl
    · rw [List.getElem?_set_ne hv, ih]
      by_cases hm : i ∈ vs
      · rw [if_pos hm, if_pos (List.mem_cons_of_mem _ hm)]
      · rw [if_neg hm, if_neg (by simp; exact ⟨fun e => hv e.symm, hm⟩)]
theorem wipeE_len (en : Env) (l : List Nat) : (wipeE l en).length = en.length := by
  induction l with
  | nil => rfl
  | cons a r ih => show ((wipeE r en).set a .no).length = _; rw [List.length_set, ih]
theorem restE_len (en0 e : Env) (l : List Nat) : (restE en0 l e).length = e.length := by
  induction l with
  | nil => rfl
  | cons a r ih => show ((restE en0 r e).set a _).length = _; rw [List.length_set, ih]
theorem restE_get {en0 e : Env} {i : Nat} : ∀ {vs : List Nat}, (restE en0 vs e)[i]? = if i ∈ vs then (e[i]?).map (fun _ => en0.getD i .no) else e[i]?
  | [] => by simp [restE]
  | v :: vs => by
    show ((restE en0 vs e).set v (en0.getD v .no))[i]? = _
    by_cases hv : v = i
    · subst hv
      rw [if_pos (List.mem_cons_self ..)]
      by_cases hl : v < e.length
      · rw [List.getElem?_set_self (by rw [restE_len]; exact hl), List.getElem?_eq_getElem hl]; rfl
      · rw [List.getElem?_eq_none (by rw [List.length_set, restE_len]; omega), List.getElem?_eq_none (by omega)]; rfl
    · rw [List.getElem?_set_ne hv, restE_get]
      by_cases hm : i ∈ vs
      · rw [if_pos hm, if_pos (List.mem_cons_of_mem _ hm)]
      · rw [if_neg hm, if_neg (by simp; exact ⟨fun e => hv e.symm, hm⟩)]
/-- the slots of names forgotten -/
theorem SR.wipe {G : Hp} {en : Env} {vs : List Nat} (s : SR K io G H σ en) (h0 : io.a ≠ none → 0 ∉ vs) : SR K io G H (L2.wipe σ vs) (wipeE vs en) ∧ ∀ a, Own (wipeE vs en) (L2.wipe σ vs) a → Own en σ a := by
  have back : ∀ {i : Nat} {t : Sl}, (wipeE vs en)[i]? = some t → (i ∈ vs ∧ t = .no) ∨ (i ∉ vs ∧ en[i]? = some t ∧ (L2.wipe σ vs)[i]? = σ[i]?) := fun {i t} e => by
    rw [wipeE_get] at e
    by_cases hm : i ∈ vs
    · rw [if_pos hm] at e
      simp only [Option.map_eq_some_iff] at e
      obtain ⟨_, _, rfl⟩ := e
      exact .inl ⟨hm, rfl⟩
    · rw [if_neg hm] at e
      exact .inr ⟨hm, e, by rw [wipe_get, if_neg hm]⟩
  refine ⟨⟨s.same, by rw [wipeE_len, wipe_length]; exact s.len, fun i t e => ?_, fun i j t u a e1 e2 o1 o2 n q => ?_, ?_, s.bl⟩, fun a ⟨i, t, e, o, q⟩ => ?_⟩
  · rcases back e with ⟨_, rfl⟩ | ⟨_, e, q⟩
    · trivial
    · rw [q]; exact s.sl i t e
  · rcases back e1 with ⟨_, rfl⟩ | ⟨_, e1, q1⟩
    · cases o1
    · rcases back e2 with ⟨_, rfl⟩ | ⟨_, e2, q2⟩
      · cases o2
      · rw [q1] at q
        rw [q2]
        exact s.sep i j t u a e1 e2 o1 o2 n q
  · have rio := s.iok
    unfold IoR at rio ⊢
    cases hio : io.a with
    | none =>
      rw [hio] at rio
      intro j t e
      rcases back e with ⟨_, rfl⟩ | ⟨_, e, _⟩
      · rfl
      · exact rio j t e
    | some c =>
      rw [hio] at rio
      obtain ⟨⟨ys, h1⟩, h2, h3⟩ := rio
      have n0 := h0 (by rw [hio]; simp)
      refine ⟨⟨ys, by rw [wipeE_get, if_neg n0]; exact h1⟩, by rw [wipe_get, if_neg n0]; exact h2, fun j ys e => ?_⟩
      rcases back e with ⟨_, y⟩ | ⟨_, e, _⟩
      · cases y
      · exact h3 j ys e
  · rcases back e with ⟨_, rfl⟩ | ⟨_, e, q1⟩
    · cases o
    · rw [q1] at q; exact ⟨i, t, e, o, q⟩
theorem hid_of {en : Env} {vs : List Nat} (h : vs.all (hidable en) = true) {i : Nat} (hi : i ∈ vs) : ∃ s, en[i]? = some s ∧ s.own = false ∧ s.lent = false ∧ s.isIo = false := by
  have z := List.all_eq_true.mp h i hi
  unfold hidable at z
  cases e : en[i]? with
  | none => rw [e] at z; cases z
  | some s => rw [e] at z; cases s <;> first | exact ⟨_, rfl, rfl, rfl, rfl⟩ | cases z
/-- back in the def -/
theorem SR.rest {G1 H1 G : Hp} {en1 e : Env} {vs : List Nat} (s1 : SR K io G1 H1 σ en1) (h : vs.all (hidable en1) = true) (sm : Same G1 G) (s : SR K io G H (L2.wipe σ vs) (wipeE vs e)) :
    SR K io G H σ (restE en1 vs e) ∧ ∀ a, Own (restE en1 vs e) σ a → Own (wipeE vs e) (L2.wipe σ vs) a := by
  have back : ∀ {i : Nat} {t : Sl}, (restE en1 vs e)[i]? = some t → (i ∈ vs ∧ en1[i]? = some t ∧ t.own = false ∧ t.lent = false ∧ t.isIo = false) ∨ (i ∉ vs ∧ (wipeE vs e)[i]? = some t ∧ (L2.wipe σ vs)[i]? = σ[i]?) := fun {i t} e1 => by
    rw [restE_get] at e1
    by_cases hm : i ∈ vs
    · rw [if_pos hm] at e1
      simp only [Option.map_eq_some_iff] at e1
      obtain ⟨_, _, rfl⟩ := e1
      obtain ⟨t, e2, h1, h2, h3⟩ := hid_of h hm
      have : en1.getD i .no = t := by rw [List.getD_eq_getElem?_getD, e2]; rfl
      rw [this]
      exact .inl ⟨hm, e2, h1, h2, h3⟩
    · rw [if_neg hm] at e1
      exact .inr ⟨hm, by rw [wipeE_get, if_neg hm]; exact e1, by rw [wipe_get, if_neg hm]⟩
  refine ⟨⟨s.same, ?_, fun i t e1 => ?_, fun i j t u a e1 e2 o1 o2 n q => ?_, ?_, s.bl⟩, fun a ⟨i, t, e1, o, q⟩ => ?_⟩
  · rw [restE_len]
    have := s.len
    rw [wipeE_len, wipe_length] at this
    exact this
  · rcases back e1 with ⟨_, e2, h1, h2, h3⟩ | ⟨_, e2, q⟩
    · have y := s1.sl i t e2
      cases t with
      | no => trivial
      | fz t => obtain ⟨x, a, b⟩ := y; exact ⟨x, a, b.mono sm⟩
      | ol _ => cases h1
      | io _ => cases h1
      | bl _ => cases h2
    · rw [← q]; exact s.sl i t e2
  · rcases back e1 with ⟨_, _, h1, _, _⟩ | ⟨_, e1, q1⟩
    · rw [h1] at o1; cases o1
    · rcases back e2 with ⟨_, _, h1, h2, _⟩ | ⟨_, e2, q2⟩
      · rw [h1, h2] at o2; cases o2
      · rw [← q1] at q
        rw [← q2]
        exact s.sep i j t u a e1 e2 o1 o2 n q
  · have rio := s.iok
    have rio1 := s1.iok
    unfold IoR at rio rio1 ⊢
    cases hio : io.a with
    | none =>
      rw [hio] at rio
      intro j t e1
      rcases back e1 with ⟨_, _, _, _, h3⟩ | ⟨_, e1, _⟩
      · exact h3
      · exact rio j t e1
    | some c =>
      rw [hio] at rio rio1
      obtain ⟨⟨ys, h1⟩, h2, h3⟩ := rio
      obtain ⟨⟨zs, k1⟩, k2, k3⟩ := rio1
      have n0 : 0 ∉ vs := fun hm => by
        obtain ⟨t, e2, _, _, h3⟩ := hid_of h hm
        rw [k1] at e2; cases e2; cases h3
      rw [wipeE_get, if_neg n0] at h1
      refine ⟨⟨ys, by rw [restE_get, if_neg n0]; exact h1⟩, k2, fun j ys e1 => ?_⟩
      rcases back e1 with ⟨_, _, _, _, h3⟩ | ⟨_, e1, _⟩
      · cases h3
      · exact h3 j ys e1
  · rcases back e1 with ⟨_, _, h1, _, _⟩ | ⟨_, e1, q1⟩
    · rw [h1] at o; cases o
    · exact ⟨i, t, e1, o, by rw [q1]; exact q⟩
theorem Ext.updD {G1 H1 G : Hp} {O1 O : Addr → Prop} {D : Addr} {o : HO} (x : Ext G1 H1 O1 G H O) (h : H1 D = none) : Ext G1 H1 O1 G (upd H D o) O where
  same := x.same
  keep := fun b u z n => by rw [upd_ne (ne_of_none z h)]; exact x.keep b u z n
  live := fun b z => by
    by_cases e : b = D
    · subst e; rw [upd_same]; simp
    · rw [upd_ne e]; exact x.live b z
  own := x.own
  frz := x.frz

theorem toV_ok {r : Rs} {en en1 : Env} {G G0 H0 : Hp} {O0 : Addr → Prop} {v : V} {t : T} (e : toV r en = .ok t en1) (s : SR K io G H σ en) (x : Ext G0 H0 O0 G H (Own en σ)) (rv : RR K G H H0 σ en v r) :
    ∃ G1, SR K io G1 H σ en1 ∧ Ext G0 H0 O0 G1 H (Own en1 σ) ∧ VR K G1 v t := by
  cases r with
  | fz u => cases e; exact ⟨G, s, x, rv⟩
  | ol xs =>
    cases e
    obtain ⟨G2, s2, x2, rv2, _⟩ := rv.settle s x
    exact ⟨G2, s2, x2, rv2⟩
  | plc i =>
    unfold toV at e
    have rv : σ[i]? = some (some v) := rv
    cases e1 : en[i]? with
    | none => simp only [e1] at e; cases e
    | some z =>
      simp only [e1] at e
      cases z with
      | no => cases e
      | bl _ => cases e
      | io _ => cases e
      | fz u =>
        cases e
        obtain ⟨y, e2, q⟩ := s.sl i _ e1
        rw [rv] at e2; cases e2
        exact ⟨G, s, x, q⟩
      | ol xs =>
        cases e
        obtain ⟨G1, s1, x1, q⟩ := s.freezeS e1
        exact ⟨G1, s1, x.trans x1, q v rv⟩
abbrev W0 : WX := fun _ _ _ _ => False
def compStep (sg : Nat → Sig) (Φ : Nat → List T → FR) (elt : E) (tg : Tg) (cs : E) : T → Env → R (Option T) := fun x e => match asgT tg x e with
          | some e1 => (ev sg Φ cs e1).bind fun r e2 => (boolOf r e2).bind fun k e2 => if k then (ev sg Φ elt e2).bind fun r e3 => (toV r e3).bind fun t e4 => .ok (some t) e4 else .ok none e2
          | none => .bad
theorem SR.caOk {G : Hp} {en : Env} {its : Its} {ca : Option Addr} (s : SR K io G H σ en) (hs : slotIs en its.chk = true) (hc : CaOk σ its ca) : ∀ a, ca = some a → ∃ vs, Rd H a (.lst vs) ∧ VRs K G vs its.xs := by
  intro a ea
  unfold CaOk at hc
  cases hk : its.chk with
  | none => rw [hk] at hc; rw [ea] at hc; cases hc
  | some p =>
    obtain ⟨i, z⟩ := p
    rw [hk] at hc hs
    obtain ⟨hz, b, eb, q⟩ := hc
    rw [ea] at eb; cases eb
    have e : en[i]? = some z := of_decide_eq_true hs
    have y := s.sl i z e
    cases z with
    | no => cases hz
    | fz t =>
      cases hz
      obtain ⟨x, e1, r⟩ := y
      rw [q] at e1; cases e1
      obtain ⟨b, vs, e2, h1, h2⟩ := VR.lst_inv r
      cases e2
      exact ⟨vs, sameR s.same h1, h2⟩
    | ol xs => cases hz; obtain ⟨b, vs, e1, _, h1, h2⟩ := y; rw [q] at e1; cases e1; exact ⟨vs, Rd.of h1, h2⟩
    | io xs => cases hz; obtain ⟨b, vs, e1, _, h1, h2⟩ := y; rw [q] at e1; cases e1; exact ⟨vs, Rd.of h1, h2⟩
    | bl xs => cases hz; obtain ⟨b, vs, e1, _, h1, h2⟩ := y; rw [q] at e1; cases e1; exact ⟨vs, h1, h2⟩
theorem slotIs_wipe {en : Env} {chk : Option (Nat × Sl)} {vs : List Nat} (h : slotIs en chk = true) (hn : ∀ i s, chk = some (i, s) → i ∉ vs) : slotIs (wipeE vs en) chk = true := by
  unfold slotIs at h ⊢
  cases chk with
  | none => rfl
  | some p =>
    obtain ⟨i, z⟩ := p
    have e : en[i]? = some z := of_decide_eq_true h
    exact decide_eq_true (by rw [wipeE_get, if_neg (hn i z rfl)]; exact e)
theorem comp_red {elt : E} {tg : Tg} {it cs : E} {own : List Nat} {Q : VK} (ht : tgSlots tg = own) (h : tE K io CT W sg Φ (.comp elt tg it cs own) σ H Q) :
    tLc (tI K io CT W sg Φ it) (gT K tg) (tT K io CT W0 sg Φ cs) (tE K io CT W0 sg Φ elt) own σ H Q := by
  obtain ⟨G0, en0, s0, h⟩ := h
  unfold ev at h
  refine ⟨G0, en0, s0, h.bind.imp fun its en1 G1 H1 s1 x1 h hsl J ca jok cok D hD => ?_⟩
  split at h
  · rename_i hid
    have n0 : io.a ≠ none → 0 ∉ own := fun ha hm => by
      obtain ⟨t, e2, _, _, h3⟩ := hid_of hid hm
      have rio := s1.iok
      unfold IoR at rio
      cases hio : io.a with
      | none => exact ha hio
      | some c => rw [hio] at rio; obtain ⟨⟨zs, k1⟩, _, _⟩ := rio; rw [k1] at e2; cases e2; cases h3
    have nchk : ∀ i s, its.chk = some (i, s) → i ∉ own ∨ ∃ t, s = .fz t := fun i s e => by
      by_cases hm : i ∈ own
      · right
        rw [e] at hsl
        have e1 : en1[i]? = some s := of_decide_eq_true hsl
        obtain ⟨t, e2, h1, h2, _⟩ := hid_of hid hm
        rw [e1] at e2; cases e2
        unfold CaOk at cok
        rw [e] at cok
        cases s with
        | fz t => exact ⟨t, rfl⟩
        | no => cases cok.1
        | ol _ => cases h1
        | io _ => cases h1
        | bl _ => cases h2
      · exact .inl hm
    -- the run of the turns
    have h : Run K io CT W σ G1 H1 (Own en1 σ) (((compL (compStep sg Φ elt tg cs) its.chk own its.xs [] en1).fin own en1).bind fun ts en2 => R.ok (Rs.ol ts) en2) (fun r en' G' H' => ∀ v, RR K G' H' H σ en' v r → Q v H') := h
    generalize hres : compL (compStep sg Φ elt tg cs) its.chk own its.xs [] en1 = res at h
    cases res with
    | bad => exact h.elim
    | ex x e => exact h.elim
    | ok tsF enF =>
      have h : Run K io CT W σ G1 H1 (Own en1 σ) (.ok (.ol tsF) (restE en1 own enF)) (fun r en' G' H' => ∀ v, RR K G' H' H σ en' v r → Q v H') := h
      -- what is walked stands still: for a slot that is hidden its value is known for good
      have caAt : ∀ {G H' : Hp} {en : Env}, SR K io G H' (L2.wipe σ own) (wipeE own en) → Same G1 G → slotIs en its.chk = true → ∀ a, ca = some a → ∃ vs, Rd H' a (.lst vs) ∧ VRs K G vs its.xs := fun {G H' en} s sm hs a ea => by
        cases hk : its.chk with
        | none => unfold CaOk at cok; rw [hk] at cok; rw [ea] at cok; cases cok
        | some p =>
          obtain ⟨i, z⟩ := p
          rcases nchk i z hk with hn | ⟨t, rfl⟩
          · have hs2 : slotIs (wipeE own en) its.chk = true := slotIs_wipe hs fun j s' e => by rw [hk] at e; cases e; exact hn
            refine s.caOk (its := its) hs2 ?_ a ea
            unfold CaOk at cok ⊢
            rw [hk] at cok ⊢
            obtain ⟨c1, b, c2, c3⟩ := cok
            exact ⟨c1, b, c2, by rw [wipe_get, if_neg hn]; exact c3⟩
          · obtain ⟨vs, h1, h2⟩ := s1.caOk hsl cok a ea
            -- a value: known in G1
            unfold CaOk at cok
            rw [hk] at cok hsl
            obtain ⟨c1, b, c2, c3⟩ := cok
            rw [ea] at c2; cases c2
            have e1 : en1[i]? = some (.fz t) := of_decide_eq_true hsl
            obtain ⟨x, e2, r⟩ := s1.sl i _ e1
            rw [c3] at e2; cases e2
            have c1 : some t = some (.lst its.xs) := c1
            cases c1
            obtain ⟨b, ws, e3, k1, k2⟩ := VR.lst_inv r
            cases e3
            exact ⟨ws, sameR s.same (sameR sm k1), k2.mono sm⟩
      refine ⟨fun i m H' => m = its.xs.length - i ∧ i ≤ its.xs.length ∧ ∃ G en ts vs, SR K io G H' (L2.wipe σ own) (wipeE own en) ∧ Ext G1 H1 (Own en1 σ) G H' (Own (wipeE own en) (L2.wipe σ own)) ∧
          H' D = some (.lst vs) ∧ G D = none ∧ ¬ Own (wipeE own en) (L2.wipe σ own) D ∧ VRs K G vs ts ∧ compL (compStep sg Φ elt tg cs) its.chk own (its.xs.drop i) ts en = .ok tsF enF, ⟨its.xs.length, ?_⟩, ?_⟩
      · obtain ⟨w1, w2⟩ := s1.wipe n0
        have al := Al.own s1.same hD (.lst [])
        have no : ¬ Own (wipeE own en1) (L2.wipe σ own) D := fun z => by
          obtain ⟨_, us, y⟩ := s1.ownAt (w2 D z)
          rw [hD] at y; cases y
        refine ⟨by simp, Nat.zero_le _, G1, en1, [], [], w1.al al, ?_, upd_same, s1.same.free hD, no, .nil, by rw [List.drop_zero]; exact hres⟩
        refine ⟨Same.refl _, fun b o z _ => al.sameH b o z, fun b z => Same.live al.sameH z, fun b z => .inl (w2 b z), fun b z => .inl z⟩
      · rintro i m H2 ⟨rfl, hi, G, en, ts, vs, s, x, hDH, hDG, hDo, rts, hrun⟩
        have hBD : io.B D = none := Classical.byContradiction fun n => s1.bl D n hD
        by_cases hlt : i < its.xs.length
        · right
          have hget : its.xs[i]? = some its.xs[i] := List.getElem?_eq_getElem hlt
          rw [List.drop_eq_getElem_cons hlt] at hrun
          generalize its.xs[i] = t at hget hrun
          unfold compL at hrun
          split at hrun
          · rename_i hsl2
            obtain ⟨hgo, hy⟩ := jok.go i t G H2 x.same s.same (caAt s x.same hsl2) hget
            refine ⟨hgo, fun H' => i + 1 ≤ its.xs.length ∧ ∃ G en ts vs, SR K io G H' (L2.wipe σ own) (wipeE own en) ∧ Ext G1 H1 (Own en1 σ) G H' (Own (wipeE own en) (L2.wipe σ own)) ∧
              H' D = some (.lst vs) ∧ G D = none ∧ ¬ Own (wipeE own en) (L2.wipe σ own) D ∧ VRs K G vs ts ∧ compL (compStep sg Φ elt tg cs) its.chk own (its.xs.drop (i + 1)) ts en = .ok tsF enF, fun H' ⟨h1, h2⟩ => ⟨its.xs.length - (i + 1), by omega, rfl, h1, h2⟩, fun y H3 hyl => ?_⟩
            obtain ⟨G3, al, rv⟩ := hy y H3 hyl
            have s3 := s.al al
            have x3 := x.trans (s.extAl al)
            have D3 : H3 D = some (.lst vs) := al.sameH _ _ hDH
            have D3G : G3 D = none := by
              cases q : G3 D with
              | none => rfl
              | some o => rcases al.new D (by rw [q]; simp) with z | z
                          · exact absurd hDG z
                          · rw [hDH] at z; cases z
            -- the target
            cases ha : asgT tg t (wipeE own en) with
            | none => simp only [compStep, ha] at hrun; cases hrun
            | some en2 =>
              simp only [compStep, ha] at hrun
              refine asgT_ok tg ha s3 rv fun σ2 a2 => ?_
              have wEq : wipe σ2 own = wipe σ own := by
                have e1 : wipe σ2 own = wipe (wipe σ own) own := wipe_eq (fun j hj => a2.out j (by rw [ht]; exact hj)) a2.len
                rw [e1]
                apply List.ext_getElem?
                intro j
                rw [wipe_get, wipe_get]
                by_cases hm : j ∈ own
                · rw [if_pos hm, if_pos hm]; cases σ[j]? <;> rfl
                · rw [if_neg hm, if_neg hm]
              refine ⟨wEq, G3, en2, a2.sr, ?_⟩
              have x4 := x3.trans a2.ext
              have D2o : ¬ Own en2 σ2 D := fun z => hDo (a2.own D z)
              -- at the end of a turn
              have fin : ∀ {G5 H5 : Hp} {en5 : Env} {ts5 : List T} {vs5 : List V}, SR K io G5 H5 σ2 en5 → Ext G1 H1 (Own en1 σ) G5 H5 (Own en5 σ2) → H5 D = some (.lst vs5) → G5 D = none → ¬ Own en5 σ2 D → VRs K G5 vs5 ts5 → compL (compStep sg Φ elt tg cs) its.chk own (its.xs.drop (i + 1)) ts5 en5 = .ok tsF enF →
                  i + 1 ≤ its.xs.length ∧ ∃ G en ts vs, SR K io G H5 (L2.wipe σ own) (wipeE own en) ∧ Ext G1 H1 (Own en1 σ) G H5 (Own (wipeE own en) (L2.wipe σ own)) ∧
                  H5 D = some (.lst vs) ∧ G D = none ∧ ¬ Own (wipeE own en) (L2.wipe σ own) D ∧ VRs K G vs ts ∧ compL (compStep sg Φ elt tg cs) its.chk own (its.xs.drop (i + 1)) ts en = .ok tsF enF := by
                intro G5 H5 en5 ts5 vs5 s5 x5 d1 d2 d3 r5 c5
                obtain ⟨w1, w2⟩ := s5.wipe n0
                rw [wEq] at w1 w2
                refine ⟨hlt, G5, en5, ts5, vs5, w1, ?_, d1, d2, fun z => d3 (w2 D z), r5, c5⟩
                exact ⟨x5.same, x5.keep, x5.live, fun b z => x5.own b (w2 b z), x5.frz⟩
              have keepD : ∀ {Ga Ha Gb Hb : Hp} {ena enb : Env}, Ext Ga Ha (Own ena σ2) Gb Hb (Own enb σ2) → Ha D = some (.lst vs) → Ga D = none → ¬ Own ena σ2 D → Hb D = some (.lst vs) ∧ Gb D = none ∧ ¬ Own enb σ2 D := fun {Ga Ha Gb Hb ena enb} xx d1 d2 d3 => by
                refine ⟨xx.keep D _ d1 d3, ?_, fun z => ?_⟩
                · cases q : Gb D with
                  | none => rfl
                  | some o => rcases xx.frz D (by rw [q]; simp) with z | z | z
                              · exact absurd d2 z
                              · rw [d1] at z; cases z
                              · exact absurd z d3
                · rcases xx.own D z with y | y
                  · exact d3 y
                  · rw [d1] at y; cases y
              -- the tests
              cases hc : ev sg Φ cs en2 with
              | bad => rw [hc] at hrun; cases hrun
              | ex e1 e2 => rw [hc] at hrun; cases hrun
              | ok rc en3 =>
                rw [hc] at hrun
                simp only [R.bind_ok] at hrun
                cases rc with
                | fz tc =>
                  cases tc with
                  | bl k =>
                    simp only [boolOf, R.bind_ok] at hrun
                    intro G4 H4 s4 x5
                    obtain ⟨d1, d2, d3⟩ := keepD x5 D3 D3G D2o
                    have x6 := x4.trans x5
                    cases k with
                    | false =>
                      refine iteF ?_
                      simp only [Bool.false_eq_true, if_false, R.bind_ok] at hrun
                      exact fin s4 x6 d1 d2 d3 (rts.mono (al.same.trans x5.same)) hrun
                    | true =>
                      refine iteT ⟨G4, en3, s4, ?_⟩
                      simp only [if_true] at hrun
                      cases he : ev sg Φ elt en3 with
                      | bad => rw [he] at hrun; cases hrun
                      | ex e1 e2 => rw [he] at hrun; cases hrun
                      | ok re en4 =>
                        rw [he] at hrun
                        simp only [R.bind_ok] at hrun
                        intro G5 H5 s5 x7 v rv5
                        cases hq : toV re en4 with
                        | bad => rw [hq] at hrun; cases hrun
                        | ex e1 e2 => rw [hq] at hrun; cases hrun
                        | ok ty en5 =>
                          rw [hq] at hrun
                          simp only [R.bind_ok] at hrun
                          obtain ⟨G6, s6, x8, rt⟩ := toV_ok hq s5 x7 rv5
                          obtain ⟨d1, d2, d3⟩ := keepD x8 d1 d2 d3
                          split at hrun
                          · rename_i hlen
                            have rts6 := rts.mono ((al.same.trans x5.same).trans x8.same)
                            refine ⟨vs, d1, by rw [rts.length]; exact hlen, ?_⟩
                            exact fin (s6.updD d1 d2 d3 hBD) ((x6.trans x8).updD hD) upd_same d2 d3 (rts6.append (.cons rt .nil)) hrun
                          · cases hrun
                  | _ => cases hrun
                | _ => cases hrun
          · cases hrun
        · left
          have e : i = its.xs.length := by omega
          subst e
          rw [List.drop_length] at hrun
          unfold compL at hrun
          split at hrun
          · rename_i hsl2
            cases hrun
            refine ⟨jok.stop _ G H2 x.same s.same (caAt s x.same hsl2) (Nat.le_refl _), ?_⟩
            obtain ⟨w1, w2⟩ := SR.rest s1 hid x.same s
            refine h G H2 w1 ⟨x.same, x.keep, x.live, fun b z => x.own b (w2 b z), x.frz⟩ _ ⟨D, vs, rfl, hDH, hDG, Classical.byContradiction fun n => x1.live D n hD, fun z => hDo (w2 D z), rts⟩
          · cases hrun
  · exact h.elim
end
end Ev

set_option Elab.async false
set_option linter.all false
set_option autoImplicit false
/-! EvG: the text's expressions are the small language's. -/
namespace Ev
open PySem PySem.Spec PyProof.Rows L2
section
variable {c : Cfg} {CT : Nat → Addr} {sg : Nat → Sig} {Φ : Nat → List T → FR} {W : WX} {X : Cx}
theorem Good.hu (g : Good c CT sg Φ W X) : X.A.units + 200 < cLine := by have := g.room.un; omega
theorem Good.blk (g : Good c CT sg Φ W X) {s : Shared} {H : Hp} {scope : Scope} {cenv : PySem.Env} {fp : List Addr} : Good c CT sg Φ W0 (X.blk s H scope cenv fp) where
  nd := g.nd
  N := g.N
  calm := g.calm
  room := g.room
  bn := g.bn
  cn := g.cn
  fn := fun i x h1 h2 => ⟨(g.fn i x h1 h2).ex⟩
  pass := fun σ pins H s e s' I h => by
    obtain ⟨_, _, _, _, _, _, _, _, _, _, _, _, z⟩ := h
    exact z.elim

theorem star_cons {e : Expr} {es : List Expr} {env : PySem.Env} (h : noStar e = true) : starEach (e :: es) env = (false, eval e env) :: starEach es env := by
  cases e <;> first | rfl | cases h
theorem star_plain {env : PySem.Env} {pos : Pos} : ∀ {es : List Expr}, (∀ e ∈ es, noStar e = true) → (backTo pos (starEach es env)).any (·.1) = false
  | [], _ => rfl
  | e :: es, h => by
    rw [star_cons (h e (List.mem_cons_self ..))]
    show (false || (backTo pos (starEach es env)).any (·.1)) = false
    rw [star_plain fun e he => h e (List.mem_cons_of_mem _ he)]; rfl
theorem asg_cons {e : Expr} {es : List Expr} {env : PySem.Env} (h : noStar e = true) : assignEach (e :: es) env = (false, assign e env) :: assignEach es env := by
  cases e <;> first | rfl | cases h
theorem asg_len {env : PySem.Env} : ∀ {es : List Expr}, (∀ e ∈ es, noStar e = true) → (assignEach es env).length = es.length ∧ (assignEach es env).findIdx? (·.1) = none
  | [], _ => ⟨rfl, rfl⟩
  | e :: es, h => by
    rw [asg_cons (h e (List.mem_cons_self ..))]
    obtain ⟨h1, h2⟩ := asg_len (env := env) fun e he => h e (List.mem_cons_of_mem _ he)
    refine ⟨by rw [List.length_cons, h1]; rfl, ?_⟩
    rw [List.findIdx?_cons]
    simp [h2]
theorem plain_ix {b : Expr} (h : noSlice b = true) : PlainIx b := by
  intro o i
  cases b <;> first | rfl | cases h
theorem gl_of {x : Str} (h : glB X.env.scope x = true) : Gl X x := by
  unfold glB at h
  show X.env.scope.names.lookup x = some .globalImplicit
  split at h
  · assumption
  · cases h
theorem vis_of {sc : Scope} {x : Str} (h : visB sc x = true) : Vis sc x := by
  unfold visB at h
  unfold Vis
  split at h
  · exact .inl (by assumption)
  · exact .inr (.inl (by assumption))
  · exact .inr (.inr (by assumption))
  · cases h
theorem plainN_of {x : Str} (h : plainN x = true) : (x == ("__debug__" : Str)) = false ∧ (x == ("__classdict__" : Str)) = false := by
  unfold plainN at h
  simpa using h

/-! ### operators -/
abbrev Snd1 (K : PySem.W.Frag) (o : P1) (r : V → Hp → VK → Prop) : Prop := ∀ G H x a res Q, Same G H → CR K G H x a → ap1 o a = some res → Aft K G H res Q → r x H Q
abbrev Snd2 (K : PySem.W.Frag) (o : P2) (r : R2) : Prop := ∀ G H x y a b res Q, Same G H → CR K G H x a → CR K G H y b → ap2 o a b = some res → Aft K G H res Q → r x y H Q
theorem op_rule {op : Operator} {o : P2} (h : opOf op = some o) : ∃ r, OpR X (binaryOp op) r ∧ Snd2 X.K o r := by
  cases op <;> cases h
  · exact ⟨_, op_addG, fun _ _ _ _ _ _ _ _ => ok_add⟩
  · exact ⟨_, op_sub, fun _ _ _ _ _ _ _ _ => ok_sub⟩
  · exact ⟨_, op_mul, fun _ _ _ _ _ _ _ _ => ok_mul⟩
  · exact ⟨_, op_modN, fun _ _ _ _ _ _ _ _ => ok_mod⟩
  · exact ⟨_, op_shl, fun _ _ _ _ _ _ _ _ => ok_shl⟩
  · exact ⟨_, op_shr, fun _ _ _ _ _ _ _ _ => ok_shr⟩
  · exact ⟨_, op_or, fun _ _ _ _ _ _ _ _ => ok_bor⟩
  · exact ⟨_, op_and, fun _ _ _ _ _ _ _ _ => ok_band⟩
  · exact ⟨_, op_fdivN, fun _ _ _ _ _ _ _ _ => ok_fdiv⟩
theorem cmp_rule (g : Good c CT sg Φ W X) {op : CmpOp} {o : P2} (h : cmpOf op = some o) : ∃ r, OpR X (compareOp op) r ∧ Snd2 X.K o r := by
  have hu := g.hu
  cases op <;> cases h
  · exact ⟨_, op_eqD (by omega), fun _ _ _ _ _ _ _ _ => ok_eq⟩
  · exact ⟨_, op_neD (by omega), fun _ _ _ _ _ _ _ _ => ok_ne⟩
  · exact ⟨_, op_lt, fun _ _ _ _ _ _ _ _ => ok_lt⟩
  · exact ⟨_, op_le, fun _ _ _ _ _ _ _ _ => ok_le⟩
  · exact ⟨_, op_gt, fun _ _ _ _ _ _ _ _ => ok_gt⟩
  · exact ⟨_, op_ge, fun _ _ _ _ _ _ _ _ => ok_ge⟩
  · exact ⟨_, op_inD (by omega), fun _ _ _ _ _ _ _ _ => ok_inn⟩
  · exact ⟨_, op_notInD (by omega), fun _ _ _ _ _ _ _ _ => ok_notin⟩
theorem callB1 {x : Str} {id : String} {r : List V → Hp → VK → Prop} {a : Expr} {p pos : Pos} {ta : TE} (hc : CallR X (.builtin id) r) (hg : Gl X x) (hm : X.mg x = none) (hv : bootBuiltins x = some (.builtin id)) (ha : PE X a ta) (hs : noStar a = true) (hn : x ≠ "__name__") (hd : (x == ("__debug__" : Str)) = false) :
    PE X (.Call (.Name x p) [a] [] pos) (fun σ H Q => ta σ H fun v H1 => r [v] H1 Q) :=
  pe_callB hc hg hm hv (pa_cons ha pa_nil (star_cons hs)) hn hd (star_cons hs) rfl
theorem callT1 {x : Str} {id : String} {r : List V → Hp → VK → Prop} {a : Expr} {p pos : Pos} {ta : TE} (hc : CallR X (.type id) r) (hg : Gl X x) (hm : X.mg x = none) (hv : bootBuiltins x = some (.type id)) (ha : PE X a ta) (hs : noStar a = true) (hn : x ≠ "__name__") (hd : (x == ("__debug__" : Str)) = false) :
    PE X (.Call (.Name x p) [a] [] pos) (fun σ H Q => ta σ H fun v H1 => r [v] H1 Q) :=
  pe_callTy hc hg hm hv (pa_cons ha pa_nil (star_cons hs)) hn hd (star_cons hs) rfl
theorem b1_rule (g : Good c CT sg Φ W X) {x : Str} {o : P1} (h : b1 x = some o) (hg : Gl X x) : ∃ r, (∀ (a : Expr) (p pos : Pos) (ta : TE), PE X a ta → noStar a = true → PE X (.Call (.Name x p) [a] [] pos) (fun σ H Q => ta σ H fun v H1 => r v H1 Q)) ∧ Snd1 X.K o r := by
  have hu := g.hu
  have hh := g.room.hd
  unfold b1 at h
  repeat' split at h
  all_goals first | cases h | skip
  · rename_i e; subst e
    exact ⟨_, fun a p pos ta ha hs => callB1 call_len hg (g.bn _ (by decide)) (by decide +kernel) ha hs (by decide) (by decide), fun _ _ _ _ _ _ => ok_len⟩
  · rename_i e; subst e
    exact ⟨_, fun a p pos ta ha hs => callT1 call_tuple_of hg (g.bn _ (by decide)) (by decide +kernel) ha hs (by decide) (by decide), fun _ _ _ _ _ _ => ok_tuple⟩
  · rename_i e; subst e
    exact ⟨_, fun a p pos ta ha hs => callT1 call_list_of hg (g.bn _ (by decide)) (by decide +kernel) ha hs (by decide) (by decide), fun _ _ _ _ _ _ => ok_list⟩
  · rename_i e; subst e
    exact ⟨_, fun a p pos ta ha hs => callT1 call_int1 hg (g.bn _ (by decide)) (by decide +kernel) ha hs (by decide) (by decide), fun _ _ _ _ _ _ => ok_int⟩
  · rename_i e; subst e
    exact ⟨_, fun a p pos ta ha hs => callB1 call_abs hg (g.bn _ (by decide)) (by decide +kernel) ha hs (by decide) (by decide), fun _ _ _ _ _ _ => ok_abs⟩
  · rename_i e; subst e
    exact ⟨_, fun a p pos ta ha hs => callB1 (call_sumI hh) hg (g.bn _ (by decide)) (by decide +kernel) ha hs (by decide) (by decide), fun _ _ _ _ _ _ => ok_sum⟩
  · rename_i e; subst e
    exact ⟨_, fun a p pos ta ha hs => callB1 (call_anyB hh) hg (g.bn _ (by decide)) (by decide +kernel) ha hs (by decide) (by decide), fun _ _ _ _ _ _ => ok_any⟩
  · rename_i e; subst e
    exact ⟨_, fun a p pos ta ha hs => callB1 (call_allB hh) hg (g.bn _ (by decide)) (by decide +kernel) ha hs (by decide) (by decide), fun _ _ _ _ _ _ => ok_all⟩
  · rename_i e; subst e
    exact ⟨_, fun a p pos ta ha hs => callB1 (call_maxI hh (by omega)) hg (g.bn _ (by decide)) (by decide +kernel) ha hs (by decide) (by decide), fun _ _ _ _ _ _ => ok_max⟩
  · rename_i e; subst e
    exact ⟨_, fun a p pos ta ha hs => callB1 (call_minI hh (by omega)) hg (g.bn _ (by decide)) (by decide +kernel) ha hs (by decide) (by decide), fun _ _ _ _ _ _ => ok_min⟩
theorem b2_rule (g : Good c CT sg Φ W X) {x : Str} {o : P2} (h : b2 x = some o) (hg : Gl X x) : ∃ r : R2, (∀ (a b : Expr) (p pos : Pos) (ta tb : TE), PE X a ta → PE X b tb → noStar a = true → noStar b = true → PE X (.Call (.Name x p) [a, b] [] pos) (tOp r ta tb)) ∧ Snd2 X.K o r := by
  unfold b2 at h
  repeat' split at h
  all_goals first | cases h | skip
  · rename_i e; subst e
    refine ⟨_, fun a b p pos ta tb ha hb hs hs2 => pe_callB (call_max2 g.calm) hg (g.bn _ (by decide)) (by decide +kernel) (pa_cons ha (pa_cons hb pa_nil (star_cons hs2)) (star_cons hs)) (by decide) (by decide) (star_cons hs) (star_plain fun e he => by rcases List.mem_singleton.mp he with rfl; exact hs2), fun _ _ _ _ _ _ _ _ => ok_max2⟩
  · rename_i e; subst e
    refine ⟨_, fun a b p pos ta tb ha hb hs hs2 => pe_callB (call_min2 g.calm) hg (g.bn _ (by decide)) (by decide +kernel) (pa_cons ha (pa_cons hb pa_nil (star_cons hs2)) (star_cons hs)) (by decide) (by decide) (star_cons hs) (star_plain fun e he => by rcases List.mem_singleton.mp he with rfl; exact hs2), fun _ _ _ _ _ _ _ _ => ok_min2⟩
/-! ### targets -/
mutual
theorem sndG {sc : Scope} {fb : Str → Bool} (hN : X.N = c.N) (nd : X.N.Nodup) (calm : X.calm = true) (hsc : X.env.scope = sc) (hfb : ∀ x, fb x = true → X.fn x = true) : ∀ (n : Nat) (e : Expr) (t : Tg), tgOf c sc fb n e = some t → PG X e (gT X.K t)
  | 0, _, _, h => by simp [tgOf] at h
  | n + 1, e, t, h => by
    cases e with
    | Name x pos =>
      simp only [tgOf, Option.bind_eq_some_iff] at h
      obtain ⟨i, h1, h2⟩ := h
      have hx := findIx_at h1
      rw [← hN] at hx
      split at h2
      · rename_i hl
        cases h2
        rw [← hsc] at hl
        rcases hl with hl | ⟨hl, hf⟩
        · exact pg_name nd hx (.inl hl) (.inr hl)
        · exact pg_name nd hx (.inr hl) (.inl (hfb x hf))
      · cases h2
    | Tuple es k pos =>
      simp only [tgOf, Option.map_eq_some_iff] at h
      obtain ⟨l, h1, rfl⟩ := h
      obtain ⟨p1, p2, p3⟩ := sndGs hN nd calm hsc hfb n es l h1
      exact pg_tup calm p1 (by rw [(asg_len p2).1]; exact p3) (asg_len p2).2
    | _ => simp [tgOf] at h
theorem sndGs {sc : Scope} {fb : Str → Bool} (hN : X.N = c.N) (nd : X.N.Nodup) (calm : X.calm = true) (hsc : X.env.scope = sc) (hfb : ∀ x, fb x = true → X.fn x = true) : ∀ (n : Nat) (es : List Expr) (t : Tg), tgsOf c sc fb n es = some t → PGs X es (gTs X.K t) ∧ (∀ e ∈ es, noStar e = true) ∧ es.length = tgLen t
  | 0, _, _, h => by simp [tgsOf] at h
  | n + 1, [], t, h => by
    simp only [tgsOf, Option.some.injEq] at h
    subst h
    exact ⟨pgs_nil, fun _ h => (nomatch h), rfl⟩
  | n + 1, e :: r, t, h => by
    unfold tgsOf at h
    split at h
    · rename_i hs
      simp only [Option.bind_eq_some_iff, Option.map_eq_some_iff] at h
      obtain ⟨a, h1, l, h2, rfl⟩ := h
      obtain ⟨p1, p2, p3⟩ := sndGs hN nd calm hsc hfb n r l h2
      refine ⟨pgs_cons (sndG hN nd calm hsc hfb n e a h1) p1 (by rw [asg_cons hs]; rfl), fun x hx => ?_, by rw [List.length_cons, p3]; rfl⟩
      rcases List.mem_cons.mp hx with rfl | hx
      · exact hs
      · exact p2 x hx
    · cases h
end
end
end Ev

set_option Elab.async false
set_option linter.all false
set_option autoImplicit false
/-! EvH: the text's expressions are the small language's: the induction. -/
namespace Ev
open PySem PySem.Spec PyProof.Rows L2
section
variable {K : PySem.W.Frag} {io : Fx} {CT : Nat → Addr} {W : WX} {sg : Nat → Sig} {Φ : Nat → List T → FR} {σ : L2.St} {H : Hp}
theorem var_red {i : Nat} {Q : VK} (h : tE K io CT W sg Φ (.var i) σ H Q) : tVar i σ H Q := by
  obtain ⟨G, en, s, h⟩ := h
  unfold ev at h
  cases e : en[i]? with
  | none => simp only [e] at h; exact h.elim
  | some z =>
    simp only [e] at h
    have y := s.sl i z e
    cases z with
    | no => exact h.elim
    | fz t => obtain ⟨x, e1, r⟩ := y; exact ⟨x, e1, h.ok' s Ext.refl x r⟩
    | ol xs => obtain ⟨a, vs, e1, _⟩ := y; exact ⟨_, e1, h.ok' s Ext.refl _ e1⟩
    | io xs => obtain ⟨a, vs, e1, _⟩ := y; exact ⟨_, e1, h.ok' s Ext.refl _ e1⟩
    | bl xs => obtain ⟨a, vs, e1, _⟩ := y; exact ⟨_, e1, h.ok' s Ext.refl _ e1⟩
theorem lit_red {t : T} {v : V} {Q : VK} (h : tE K io CT W sg Φ (.lit t) σ H Q) (r : ∀ G, VR K G v t) : tC v σ H Q := by
  obtain ⟨G, en, s, h⟩ := h
  unfold ev at h
  exact h.ok' s Ext.refl v (r G)
theorem litT_red {b : Bool} {Q : Bool → Hp → Prop} (h : tT K io CT W sg Φ (.lit (.bl b)) σ H Q) : Q b H := by
  obtain ⟨G, en, s, h⟩ := h
  unfold ev at h
  exact h.ok' s Ext.refl
theorem comp_ol {elt : E} {tg : Tg} {it cs : E} {own : List Nat} {en en' : Env} {r : Rs} (h : ev sg Φ (.comp elt tg it cs own) en = .ok r en') : ∃ ts, r = .ol ts := by
  unfold ev at h
  cases h1 : evI sg Φ it en with
  | bad => rw [h1] at h; cases h
  | ex x e => rw [h1] at h; cases h
  | ok its en1 =>
    rw [h1, R.bind_ok] at h
    split at h
    · generalize R.fin own en1 _ = q at h
      cases q with
      | bad => cases h
      | ex x e => cases h
      | ok ts e => cases h; exact ⟨ts, rfl⟩
    · cases h
theorem index_red {a j : E} {Q : VK} (ha : ∀ en en' r, ev sg Φ a en = .ok r en' → ∃ ts, r = .ol ts) (h : tE K io CT W sg Φ (.p2 .index a j) σ H Q) :
    tE K io CT W sg Φ a σ H fun x H1 => tyV K "list" x H1 ∧ tE K io CT W sg Φ j σ H1 fun y H2 => rIndexD K x [y] H2 Q := by
  obtain ⟨G, en, s, h⟩ := h
  refine ⟨G, en, s, ?_⟩
  unfold ev at h
  cases he : ev sg Φ a en with
  | bad => rw [he] at h; exact h
  | ex x e => rw [he] at h; exact h
  | ok q en1 =>
    obtain ⟨ts, rfl⟩ := ha _ _ _ he
    rw [he] at h
    intro G1 H1 s1 x1 v rv
    obtain ⟨G2, s2, x2, rv, nv⟩ := rv.settle s1 x1
    have rl : VR K G2 v (.lst ts) := rv
    refine ⟨?_, ?_⟩
    · obtain ⟨b, vs, rfl, h1, h2⟩ := VR.lst_inv rl
      exact .inl ⟨rfl, vs, .inl (sameR s2.same h1)⟩
    · refine ⟨G2, en1, s2, ((Run.bind2 (r := R.ok (Rs.ol ts) en1) h) G1 H1 s1 x1 G2 s2 x2).bind2.imp fun q2 en2 G3 H3 s3 x3 h w rw' => ?_⟩
      obtain ⟨G4, s4, x4, rw', nw⟩ := rw'.settle s3 x3
      have rv4 := rv.later x4 nv
      refine op_end (O := fun _ => True) s4 (fun b z => x3.live b (x1.live b z)) (h G4 s4 x4) fun res he af => ?_
      obtain ⟨a, b, ha, hb, hc⟩ := bind2_some he
      exact ok_index s4.same (rv4.cr s4 ha) (rw'.cr s4 hb) hc af
end

section
variable (c : Cfg) (CT : Nat → Addr) (sg : Nat → Sig) (Φ : Nat → List T → FR)
abbrev SE (n : Nat) : Prop := ∀ (sc : Scope) (e : Expr) (i : E) (W : WX) (X : Cx) (io : Fx), toE c n sc e = some i → Good c CT sg Φ W X → X.env.scope = sc → PE X e (tE X.K io CT W sg Φ i)
abbrev SO (n : Nat) : Prop := ∀ (sc : Scope) (e : Option Expr) (i : E) (W : WX) (X : Cx) (io : Fx), toO c n sc e = some i → Good c CT sg Φ W X → X.env.scope = sc → PO X e (tP X.K io CT W sg Φ i)
abbrev SL (n : Nat) : Prop := ∀ (sc : Scope) (es : List Expr) (i : E) (W : WX) (X : Cx) (io : Fx), toL c n sc es = some i → Good c CT sg Φ W X → X.env.scope = sc → PA X es (tV X.K io CT W sg Φ i) ∧ PA X es (tA X.K io CT W sg Φ i) ∧ ∀ e ∈ es, noStar e = true
abbrev SBV (n : Nat) : Prop := ∀ (op : BoolOp) (sc : Scope) (es : List Expr) (i : E) (W : WX) (X : Cx) (io : Fx), toBV c n op sc es = some i → Good c CT sg Φ W X → X.env.scope = sc → ∀ pos, PE X (.BoolOp op es pos) (tE X.K io CT W sg Φ i)
abbrev SC (n : Nat) : Prop := ∀ (sc : Scope) (e : Expr) (i : E) (W : WX) (X : Cx) (io : Fx), toC c n sc e = some i → Good c CT sg Φ W X → X.env.scope = sc → PT X e (tT X.K io CT W sg Φ i)
abbrev SBC (n : Nat) : Prop := ∀ (op : BoolOp) (sc : Scope) (es : List Expr) (i : E) (W : WX) (X : Cx) (io : Fx), toBC c n op sc es = some i → Good c CT sg Φ W X → X.env.scope = sc → ∀ pos, PW X (.BoolOp op es pos) (tT X.K io CT W sg Φ i)
abbrev SIf (n : Nat) : Prop := ∀ (sc : Scope) (es : List Expr) (i : E) (W : WX) (X : Cx) (io : Fx), toIf c n sc es = some i → Good c CT sg Φ W X → X.env.scope = sc → PTs X es (tT X.K io CT W sg Φ i)
abbrev SI (n : Nat) : Prop := ∀ (sc : Scope) (tg e : Expr) (i : E) (W : WX) (X : Cx) (io : Fx), toI c n sc tg e = some i → Good c CT sg Φ W X → X.env.scope = sc → PI X tg e (tI X.K io CT W sg Φ i) ∧ ∀ x, foldedSetIterable e X.env x = pure x
end
section
variable {c : Cfg} {CT : Nat → Addr} {sg : Nat → Sig} {Φ : Nat → List T → FR}
theorem sO_step {n : Nat} (hE : SE c CT sg Φ n) : SO c CT sg Φ (n + 1) := by
  intro sc e i W X io h g hsc
  cases e with
  | none =>
    simp only [toO, Option.some.injEq] at h
    subst h
    exact po_none.imp fun σ H Q h => tP.none h
  | some e =>
    simp only [toO] at h
    -- a part that gives None is left out: both are served
    refine ⟨fun pins s σ H Q I hq => ?_⟩
    have hE' := hE sc e i W X io h g hsc
    rw [evalPart_some]
    obtain ⟨G, en, sr, hq⟩ := hq
    refine thn (hE'.run pins s σ H (fun x H1 => (∃ k, x = .int k ∧ Q (some k) H1) ∨ (x = .non ∧ Q none H1)) I ⟨G, en, sr, ?_⟩) fun u s1 ⟨x, H1, I1, r1, q1⟩ => ?_
    · refine hq.bind.imp fun q en1 G1 H1 s1 x1 h v rv => ?_
      cases q with
      | fz t =>
        cases t with
        | int k => cases (show VR X.K G1 v (.int k) from rv); exact .inl ⟨k, rfl, h.ok' s1 Ext.refl⟩
        | non => cases (show VR X.K G1 v .non from rv); exact .inr ⟨rfl, h.ok' s1 Ext.refl⟩
        | _ => exact h.elim
      | _ => exact h.elim
    · rcases q1 with ⟨k, rfl, q⟩ | ⟨rfl, q⟩
      · obtain ⟨t, rfl⟩ := r1
        exact ⟨some k, H1, I1, .int k t, q⟩
      · cases r1
        exact ⟨none, H1, I1, .none, q⟩
theorem sL_step {n : Nat} (hE : SE c CT sg Φ n) (hL : SL c CT sg Φ n) : SL c CT sg Φ (n + 1) := by
  intro sc es i W X io h g hsc
  cases es with
  | nil =>
    simp only [toL, Option.some.injEq] at h
    subst h
    exact ⟨pa_nil.imp fun σ H Q h => nil_redV h, pa_nil.imp fun σ H Q h => nil_redA h, fun _ h => (nomatch h)⟩
  | cons e r =>
    simp only [toL] at h
    split at h
    · rename_i hs
      simp only [Option.bind_eq_some_iff, Option.map_eq_some_iff] at h
      obtain ⟨x, h1, y, h2, rfl⟩ := h
      have p := hE sc e x W X io h1 g hsc
      obtain ⟨p1, p2, p3⟩ := hL sc r y W X io h2 g hsc
      refine ⟨(pa_cons p p1 (star_cons hs)).imp fun σ H Q h => cons_redV h, (pa_cons p p2 (star_cons hs)).imp fun σ H Q h => cons_redA h, fun e he => ?_⟩
      rcases List.mem_cons.mp he with rfl | he
      · exact hs
      · exact p3 e he
    · cases h
theorem sBV_step {n : Nat} (hE : SE c CT sg Φ n) (hB : SBV c CT sg Φ n) : SBV c CT sg Φ (n + 1) := by
  intro op sc es i W X io h g hsc pos
  match es, h with
  | [], h => simp [toBV] at h
  | [e], h =>
    simp only [toBV] at h
    exact pe_one (hE sc e i W X io h g hsc)
  | e :: e2 :: r, h =>
    simp only [toBV, Option.bind_eq_some_iff, Option.map_eq_some_iff] at h
    obtain ⟨x, h1, y, h2, h3⟩ := h
    have p := hE sc e x W X io h1 g hsc
    have q := hB op sc (e2 :: r) y W X io h2 g hsc pos
    cases op with
    | And => subst h3; exact (pe_and p q).imp fun σ H Q h => and_red h
    | Or => subst h3; exact (pe_or p q).imp fun σ H Q h => or_red h
theorem sBC_step {n : Nat} (hE : SC c CT sg Φ n) (hB : SBC c CT sg Φ n) : SBC c CT sg Φ (n + 1) := by
  intro op sc es i W X io h g hsc pos
  match es, h with
  | [], h => simp [toBC] at h
  | [e], h =>
    have h2 : toC c n sc e = some i := by simpa only [toBC] using h
    cases op with
    | And => exact pw_and1 (hE sc e i W X io h2 g hsc)
    | Or => exact pw_or1 (hE sc e i W X io h2 g hsc)
  | e :: e2 :: r, h =>
    simp only [toBC, Option.bind_eq_some_iff, Option.map_eq_some_iff] at h
    obtain ⟨x, h1, y, h2, h3⟩ := h
    have p := hE sc e x W X io h1 g hsc
    have q := hB op sc (e2 :: r) y W X io h2 g hsc pos
    cases op with
    | And => subst h3; exact (pw_and p q).imp fun σ H Q h => andT_red h
    | Or => subst h3; exact (pw_or p q).imp fun σ H Q h => orT_red h
theorem sIf_step {n : Nat} (hC : SC c CT sg Φ n) : SIf c CT sg Φ (n + 1) := by
  intro sc es i W X io h g hsc
  match es, h with
  | [], h =>
    simp only [toIf, Option.some.injEq] at h
    subst h
    exact pts_nil.imp fun σ H Q h => litT_red h
  | [e], h =>
    simp only [toIf] at h
    exact pts_one (hC sc e i W X io h g hsc)
  | e :: e2 :: r, h => simp [toIf] at h
theorem sI_step {n : Nat} (hE : SE c CT sg Φ n) : SI c CT sg Φ (n + 1) := by
  intro sc tg e i W X io h g hsc
  have seq : ∀ {j : E}, (toE c n sc e).map E.it1 = some j → PI X tg e (tI X.K io CT W sg Φ j) := fun {j} h => by
    simp only [Option.map_eq_some_iff] at h
    obtain ⟨x, h1, rfl⟩ := h
    exact (pi_seq (hE sc e x W X io h1 g hsc)).imp fun σ H R h => it1_red h
  cases e with
  | Call f args kws pos =>
    refine ⟨?_, fun _ => rfl⟩
    unfold toI at h
    split at h <;> try (first | (cases h; done) | (rename_i hh; cases hh; done))
    rename_i x p args pos heq
    cases heq
    split at h
    · rename_i hx
      have hg : Gl X x := gl_of (by rw [hsc]; simp only [Bool.and_eq_true] at hx; exact hx.1.2)
      have hxr : x = "range" := by simp only [Bool.and_eq_true, decide_eq_true_eq] at hx; exact hx.1.1
      subst hxr
      have hm := g.bn "range" (by decide)
      split at h
      · split at h
        · rename_i hs
          simp only [Option.map_eq_some_iff] at h
          obtain ⟨y, h1, rfl⟩ := h
          exact (pi_range1 hg hm (pa_cons (hE sc _ y W X io h1 g hsc) pa_nil (star_cons hs)) (star_cons hs)).imp fun σ H R h => rng1_red h
        · cases h
      · split at h
        · rename_i hs
          obtain ⟨hs1, hs2⟩ := Bool.and_eq_true_iff.mp hs
          simp only [Option.bind_eq_some_iff, Option.map_eq_some_iff] at h
          obtain ⟨y, h1, z, h2, rfl⟩ := h
          exact (pi_range2 hg hm (pa_cons (hE sc _ y W X io h1 g hsc) (pa_cons (hE sc _ z W X io h2 g hsc) pa_nil (star_cons hs2)) (star_cons hs1)) ((star_cons hs1).trans (by rw [star_cons hs2]; rfl)) (star_cons hs2)).imp fun σ H R h => rng2_red h
        · cases h
      · split at h
        · rename_i hs
          obtain ⟨hs1, hs3⟩ := Bool.and_eq_true_iff.mp hs
          obtain ⟨hs1, hs2⟩ := Bool.and_eq_true_iff.mp hs1
          simp only [Option.bind_eq_some_iff, Option.map_eq_some_iff] at h
          obtain ⟨y, h1, z, h2, w, h3, rfl⟩ := h
          exact (pi_range3 hg hm (pa_cons (hE sc _ y W X io h1 g hsc) (pa_cons (hE sc _ z W X io h2 g hsc) (pa_cons (hE sc _ w W X io h3 g hsc) pa_nil (star_cons hs3)) (star_cons hs2)) (star_cons hs1)) (star_cons hs1) (star_plain fun e he => by
            rcases List.mem_cons.mp he with rfl | he
            · exact hs2
            · rcases List.mem_singleton.mp he with rfl; exact hs3)).imp fun σ H R h => rng3_red h
        · cases h
      · cases h
    · exact seq h
  | Name _ _ => exact ⟨seq (by simpa only [toI] using h), fun _ => rfl⟩
  | Subscript _ _ _ => exact ⟨seq (by simpa only [toI] using h), fun _ => rfl⟩
  | BinOp _ _ _ _ => exact ⟨seq (by simpa only [toI] using h), fun _ => rfl⟩
  | ListComp _ _ _ _ => exact ⟨seq (by simpa only [toI] using h), fun _ => rfl⟩
  | List _ _ => exact ⟨seq (by simpa only [toI] using h), fun _ => rfl⟩
  | Tuple _ _ _ => exact ⟨seq (by simpa only [toI] using h), fun _ => rfl⟩
  | Attribute _ _ _ => exact ⟨seq (by simpa only [toI] using h), fun _ => rfl⟩
  | _ => simp [toI] at h

/-- all the readings at a depth -/
structure SAll (c : Cfg) (CT : Nat → Addr) (sg : Nat → Sig) (Φ : Nat → List T → FR) (n : Nat) : Prop where
  e : SE c CT sg Φ n
  o : SO c CT sg Φ n
  l : SL c CT sg Φ n
  bv : SBV c CT sg Φ n
  t : SC c CT sg Φ n
  bc : SBC c CT sg Φ n
  f : SIf c CT sg Φ n
  i : SI c CT sg Φ n
theorem SAll.zero : SAll c CT sg Φ 0 where
  e := fun sc e i W X io h => by simp [toE] at h
  o := fun sc e i W X io h => by simp [toO] at h
  l := fun sc e i W X io h => by simp [toL] at h
  bv := fun op sc e i W X io h => by simp [toBV] at h
  t := fun sc e i W X io h => by simp [toC] at h
  bc := fun op sc e i W X io h => by simp [toBC] at h
  f := fun sc e i W X io h => by simp [toIf] at h
  i := fun sc tg e i W X io h => by simp [toI] at h
theorem lookup_cn {α : Type} : ∀ {l : List (Str × α)} {x : Str} {t : α}, l.lookup x = some t → l.lookup x = some t := id
theorem sE_step {n : Nat} (A : SAll c CT sg Φ n) : SE c CT sg Φ (n + 1) := by
  intro sc e i W X io h g hsc
  have hu := g.hu
  unfold toE at h
  split at h
  -- constants
  · cases h; exact pe_non.imp fun σ H Q h => lit_red h fun _ => .non
  · cases h; exact pe_bl.imp fun σ H Q h => lit_red h fun _ => .bl _
  · cases h; exact pe_int.imp fun σ H Q h => lit_red h fun _ => .int _
  · cases h; exact pe_str.imp fun σ H Q h => lit_red h fun _ => .str _
  -- names
  · rename_i x pos
    split at h
    · rename_i hx
      obtain ⟨h1, h2⟩ := Bool.and_eq_true_iff.mp hx
      simp only [Option.map_eq_some_iff] at h
      obtain ⟨t, ht, rfl⟩ := h
      obtain ⟨v, u, hm, r, hv⟩ := g.cn x t ht
      exact (pe_glob (gl_of (by rw [hsc]; exact h1)) hm r (plainN_of h2).1).imp fun σ H Q h => lit_red h hv
    · split at h
      · rename_i hx
        obtain ⟨h1, h2⟩ := Bool.and_eq_true_iff.mp hx
        simp only [Option.map_eq_some_iff] at h
        obtain ⟨k, hk, rfl⟩ := h
        have hi := findIx_at hk
        rw [← g.N] at hi
        exact (pe_var hi (vis_of (by rw [hsc]; exact h1)) (plainN_of h2).1 (plainN_of h2).2).imp fun σ H Q h => var_red h
      · cases h
  -- tuples, lists
  · simp only [Option.map_eq_some_iff] at h
    obtain ⟨l, hl, rfl⟩ := h
    exact (pe_tup (A.l sc _ l W X io hl g hsc).1).imp fun σ H Q h => tup_red h
  · simp only [Option.map_eq_some_iff] at h
    obtain ⟨l, hl, rfl⟩ := h
    exact (pe_lst (A.l sc _ l W X io hl g hsc).1).imp fun σ H Q h => lst_red h
  -- operators
  · simp only [Option.bind_eq_some_iff, Option.map_eq_some_iff] at h
    obtain ⟨o, ho, x, hx, y, hy, rfl⟩ := h
    obtain ⟨r, hr, hs⟩ := op_rule (X := X) ho
    exact (pe_op hr (A.e sc _ x W X io hx g hsc) (A.e sc _ y W X io hy g hsc)).imp fun σ H Q h => p2_red h hs
  · simp only [Option.map_eq_some_iff] at h
    obtain ⟨x, hx, rfl⟩ := h
    exact (pe_un un_neg (A.e sc _ x W X io hx g hsc)).imp fun σ H Q h => p1_red h fun _ _ _ _ _ _ => ok_neg
  · simp only [Option.map_eq_some_iff] at h
    obtain ⟨x, hx, rfl⟩ := h
    exact (pe_not (A.e sc _ x W X io hx g hsc)).imp fun σ H Q h => not_red h
  · exact A.bv _ sc _ i W X io h g hsc _
  -- comparisons
  · rename_i a op b pos
    split at h
    · rename_i hb
      have eb : ∃ j p, b = .Constant .none j p := by
        unfold isNonC at hb
        split at hb
        · exact ⟨_, _, rfl⟩
        · cases hb
      obtain ⟨j, p, rfl⟩ := eb
      split at h
      · simp only [Option.map_eq_some_iff] at h
        obtain ⟨x, hx, rfl⟩ := h
        exact (pe_cmp (pc_isN (A.e sc _ x W X io hx g hsc)) rfl).imp fun σ H Q h => p1_red (r := fun x H Q => Q (.bl (decide (x = .non))) H) h fun _ _ _ _ _ _ => ok_isN
      · simp only [Option.map_eq_some_iff] at h
        obtain ⟨x, hx, rfl⟩ := h
        exact (pe_cmp (pc_notN (A.e sc _ x W X io hx g hsc)) rfl).imp fun σ H Q h => p1_red (r := fun x H Q => Q (.bl (!decide (x = .non))) H) h fun _ _ _ _ _ _ => ok_notN
      · cases h
    · simp only [Option.bind_eq_some_iff] at h
      obtain ⟨o, ho, h⟩ := h
      split at h
      · cases h
      · rename_i hm
        simp only [Option.bind_eq_some_iff, Option.map_eq_some_iff] at h
        obtain ⟨x, hx, y, hy, rfl⟩ := h
        obtain ⟨r, hr, hs⟩ := cmp_rule g ho
        exact (pe_cmpR hr (A.e sc _ x W X io hx g hsc) (A.e sc _ y W X io hy g hsc) (by simpa using hm)).imp fun σ H Q h => p2_red h hs
  · simp only [Option.bind_eq_some_iff] at h
    obtain ⟨o, ho, o', ho', h⟩ := h
    split at h
    · cases h
    · rename_i hm
      simp only [Option.bind_eq_some_iff, Option.map_eq_some_iff] at h
      obtain ⟨x, hx, y, hy, z, hz, rfl⟩ := h
      obtain ⟨r, hr, hs⟩ := cmp_rule g ho
      obtain ⟨r', hr', hs'⟩ := cmp_rule g ho'
      exact (pe_chain hr hr' (A.e sc _ x W X io hx g hsc) (A.e sc _ y W X io hy g hsc) (A.e sc _ z W X io hz g hsc) (by simpa using hm)).imp fun σ H Q h => chain_red h hs hs'
  · simp only [Option.bind_eq_some_iff, Option.map_eq_some_iff] at h
    obtain ⟨x, hx, y, hy, z, hz, rfl⟩ := h
    exact (pe_ifExp (A.t sc _ x W X io hx g hsc) (A.e sc _ y W X io hy g hsc) (A.e sc _ z W X io hz g hsc)).imp fun σ H Q h => ite_red h
  -- calls
  · rename_i x p args pos
    split at h
    · rename_i hx
      simp only [Bool.and_eq_true] at hx
      obtain ⟨⟨h1, h2⟩, h3⟩ := hx
      have hg := gl_of (X := X) (x := x) (by rw [hsc]; exact h1)
      split at h
      · rename_i f hf
        split at h
        · rename_i hk
          obtain ⟨k1, k2⟩ := Bool.and_eq_true_iff.mp hk
          simp only [Option.map_eq_some_iff] at h
          obtain ⟨l, hl, rfl⟩ := h
          obtain ⟨_, pa, ns⟩ := A.l sc _ l W X io hl g hsc
          obtain ⟨fa, fd, k, ps, m1, m2, m3, m4, m5⟩ := (g.fn f x (by simpa using k1) (findIx_at hf)).ex
          cases args with
          | nil => simp at k2
          | cons e es =>
            exact (pe_callSD (E := WE W) m4 m5 hg m1 m2 m3 .nil g.pass pa (plainN_of h2).1 (star_cons (ns e (List.mem_cons_self ..))) (star_plain fun e he => ns e (List.mem_cons_of_mem _ he))).imp fun σ H Q h => call_red h
        · cases h
      · split at h
        · rename_i a
          simp only [Option.bind_eq_some_iff] at h
          obtain ⟨o, ho, h⟩ := h
          split at h
          · rename_i hs
            simp only [Option.map_eq_some_iff] at h
            obtain ⟨y, hy, rfl⟩ := h
            obtain ⟨r, hr, hs'⟩ := b1_rule g ho hg
            exact (hr a p pos _ (A.e sc _ y W X io hy g hsc) hs).imp fun σ H Q h => p1_red h hs'
          · cases h
        · rename_i a b
          simp only [Option.bind_eq_some_iff] at h
          obtain ⟨o, ho, h⟩ := h
          split at h
          · rename_i hs
            obtain ⟨s1, s2⟩ := Bool.and_eq_true_iff.mp hs
            simp only [Option.bind_eq_some_iff, Option.map_eq_some_iff] at h
            obtain ⟨y, hy, z, hz, rfl⟩ := h
            obtain ⟨r, hr, hs'⟩ := b2_rule g ho hg
            exact (hr a b p pos _ _ (A.e sc _ y W X io hy g hsc) (A.e sc _ z W X io hz g hsc) s1 s2).imp fun σ H Q h => p2_red h hs'
          · cases h
        · cases h
    · cases h
  -- methods
  · rename_i o m ap args cp
    split at h
    · rename_i hline
      split at h
      · rename_i x p
        split at h
        · rename_i hx
          obtain ⟨h1, h2⟩ := Bool.and_eq_true_iff.mp hx
          simp only [Option.bind_eq_some_iff, Option.map_eq_some_iff] at h
          obtain ⟨k, hk, q, hq, l, hl, rfl⟩ := h
          have hi := findIx_at hk
          rw [← g.N] at hi
          have pv : PE X (.Name x p) (tVar k) := pe_var hi (vis_of (by rw [hsc]; exact h1)) (plainN_of h2).1 (plainN_of h2).2
          obtain ⟨pa, _, ns⟩ := A.l sc _ l W X io hl g hsc
          have base : ∀ {mm : Mt} {σ : L2.St} {H : Hp} {Q : VK}, tE X.K io CT W sg Φ (.mth mm k l) σ H Q → tBM X.K "list" (rM mm) (tVar k) (tV X.K io CT W sg Φ l) σ H Q := fun {mm σ H Q} h => by
            obtain ⟨a, e1, ⟨vs, e2⟩, h⟩ := mth_red h
            exact ⟨.ref a, e1, .inl ⟨rfl, vs, SqL.of e2⟩, h⟩
          unfold mtOf at hq
          split at hq
          · rename_i hm
            cases hq
            obtain ⟨rfl, hl1⟩ := hm
            match args, hl1, pa, ns with
            | [a], _, pa, ns =>
              have hs := ns a (List.mem_cons_self ..)
              exact (pe_bm PySem.F.plainAttrs_list PySem.F.slot_list_append PySem.F.type_list_append (mt_all .append) pv pa rfl (by rw [star_cons hs]; rfl) hline (star_cons hs) rfl).imp fun σ H Q h => base h
          · split at hq
            · rename_i hm
              cases hq
              obtain ⟨rfl, hl1⟩ := hm
              match args, hl1, pa, hl with
              | [], _, pa, hl =>
                refine (pe_bm0 PySem.F.plainAttrs_list PySem.F.slot_list_pop PySem.F.type_list_pop (mt_all .pop) pv rfl hline).imp fun σ H Q h => ?_
                obtain ⟨v, e1, ty, h⟩ := base h
                cases n with
                | zero => simp [toL] at hl
                | succ n =>
                  simp only [toL, Option.some.injEq] at hl
                  subst hl
                  exact ⟨v, e1, ty, nil_redV h⟩
            · split at hq
              · rename_i hm
                cases hq
                obtain ⟨rfl, hl1⟩ := hm
                match args, hl1, pa, ns with
                | [a], _, pa, ns =>
                  have hs := ns a (List.mem_cons_self ..)
                  exact (pe_bm PySem.F.plainAttrs_list PySem.F.slot_list_pop PySem.F.type_list_pop (mt_all .popAt) pv pa rfl (by rw [star_cons hs]; rfl) hline (star_cons hs) rfl).imp fun σ H Q h => base h
              · split at hq
                · rename_i hm
                  cases hq
                  obtain ⟨rfl, hl1⟩ := hm
                  match args, hl1, pa, ns with
                  | [a], _, pa, ns =>
                    have hs := ns a (List.mem_cons_self ..)
                    exact (pe_bm PySem.F.plainAttrs_list PySem.F.slot_list_extend PySem.F.type_list_extend (mt_all .extend) pv pa rfl (by rw [star_cons hs]; rfl) hline (star_cons hs) rfl).imp fun σ H Q h => base h
                · cases hq
        · cases h
      · split at h
        · rename_i elt gens scope lp a
          split at h
          · rename_i hx
            simp only [Bool.and_eq_true, decide_eq_true_eq] at hx
            obtain ⟨rfl, hs⟩ := hx
            simp only [Option.bind_eq_some_iff, Option.map_eq_some_iff] at h
            obtain ⟨x, hx, y, hy, rfl⟩ := h
            have hcomp : ∃ elt tg it cs own, x = .comp elt tg it cs own := by
              cases n with
              | zero => simp [toE] at hx
              | succ n =>
                unfold toE at hx
                split at hx
                all_goals first
                  | (cases hx; done)
                  | (rename_i heq; cases heq; done)
                  | (simp only [Option.bind_eq_some_iff] at hx
                     obtain ⟨_, _, _, _, hx⟩ := hx
                     split at hx
                     · simp only [Option.bind_eq_some_iff, Option.map_eq_some_iff] at hx
                       obtain ⟨_, _, _, _, rfl⟩ := hx
                       exact ⟨_, _, _, _, _, rfl⟩
                     · cases hx)
            obtain ⟨e1, e2, e3, e4, e5, rfl⟩ := hcomp
            exact (pe_bm PySem.F.plainAttrs_list PySem.F.slot_list_index PySem.F.type_list_index (mt_indexD (by omega)) (A.e sc _ _ W X io hx g hsc) (pa_cons (A.e sc _ y W X io hy g hsc) pa_nil (star_cons hs)) rfl (by rw [star_cons hs]; rfl) hline (star_cons hs) rfl).imp
              fun σ H Q h => index_red (fun _ _ _ => comp_ol) h
          · cases h
        · cases h
      · cases h
    · cases h
  -- subscripts
  · simp only [Option.bind_eq_some_iff, Option.map_eq_some_iff] at h
    obtain ⟨x, hx, y, hy, z, hz, rfl⟩ := h
    exact (pe_slice sl_both (A.e sc _ x W X io hx g hsc) (A.o sc _ y W X io hy g hsc) (A.o sc _ z W X io hz g hsc)).imp fun σ H Q h => sl_red h
  · split at h
    · rename_i hs
      simp only [Option.bind_eq_some_iff, Option.map_eq_some_iff] at h
      obtain ⟨x, hx, y, hy, rfl⟩ := h
      exact (pe_ix (ix_list.or ix_tup) (A.e sc _ x W X io hx g hsc) (A.e sc _ y W X io hy g hsc) (plain_ix hs)).imp fun σ H Q h => p2_red h fun _ _ _ _ _ _ _ _ => ok_ix
    · cases h
  -- comprehensions
  · rename_i elt tg it0 ifs scope pos
    simp only [Option.bind_eq_some_iff] at h
    obtain ⟨it, hi, t, ht, h⟩ := h
    split at h
    · rename_i hb
      simp only [Option.bind_eq_some_iff, Option.map_eq_some_iff] at h
      obtain ⟨q, hq, x, hx, rfl⟩ := h
      obtain ⟨pi, hf⟩ := A.i sc _ _ it W X io hi g hsc
      have own : (tgNames c.N t).map (·.2) = tgSlots t := by
        unfold tgNames
        rw [List.map_map]
        show List.map (fun i => i) (tgSlots t) = _
        exact List.map_id _
      have hp := pe_lc (X := X) (elt := elt) (scope := scope) (pos := pos) (g := gT X.K t) (tt := tT X.K io CT W0 sg Φ q) (te := tE X.K io CT W0 sg Φ x) g.calm g.nd pi (blkOk_by (N := X.N) (sc := X.env.scope) (by rw [g.N, hsc]; exact hb))
        (fun s H C cl fp => sndG (X := X.blk s H scope (compEnvC scope cl C X.env) fp) (c := c) g.N g.nd g.calm (by show L2.relS scope X.env.scope = _; rw [hsc]) (fun x h => h) n _ t ht)
        (fun s H C cl fp => A.f _ _ q W0 (X.blk s H scope (compEnvC scope cl C X.env) fp) io hq g.blk (by show L2.relS scope X.env.scope = _; rw [hsc]))
        (fun s H C cl fp => A.e _ _ x W0 (X.blk s H scope (compEnvC scope cl C X.env) fp) io hx g.blk (by show L2.relS scope X.env.scope = _; rw [hsc])) hf
      rw [own] at hp
      exact hp.imp fun σ H Q h => comp_red rfl h
    · cases h
  · cases h
theorem sC_step {n : Nat} (A : SAll c CT sg Φ n) (hE : SE c CT sg Φ (n + 1)) : SC c CT sg Φ (n + 1) := by
  intro sc e i W X io h g hsc
  have val : ∀ {whole : Expr}, whole = e → toE c n sc e = some i → (∀ wh, isTrue e X.env wh = (do let v ← wh; standAt e.pos; holding [v] (truthy v))) → PT X e (tT X.K io CT W sg Φ i) := fun _ h he =>
    (pt_val (A.e sc e i W X io h g hsc) he).imp fun σ H Q h => tT.of h
  cases e with
  | UnaryOp op a pos =>
    cases op with
    | Not =>
      simp only [toC, Option.map_eq_some_iff] at h
      obtain ⟨x, hx, rfl⟩ := h
      exact (pt_not (A.t sc _ x W X io hx g hsc)).imp fun σ H Q h => notT_red h
    | _ => simp [toC] at h
  | BoolOp op vs pos =>
    have h : toBC c n op sc vs = some i := by simpa only [toC] using h
    exact (A.bc op sc vs i W X io h g hsc pos).pt
  | Compare a ops bs pos =>
    have h2 := h
    clear h val
    unfold toC at h2
    split at h2
    all_goals first
      | (cases h2; done)
      | (rename_i heq; cases heq; done)
      | skip
    · rename_i a op b pos heq
      cases heq
      split at h2
      · rename_i hb
        have eb : ∃ j p, b = .Constant .none j p := by
          unfold isNonC at hb
          split at hb
          · exact ⟨_, _, rfl⟩
          · cases hb
        obtain ⟨j, p, rfl⟩ := eb
        split at h2
        · simp only [Option.map_eq_some_iff] at h2
          obtain ⟨x, hx, rfl⟩ := h2
          exact (pt_cmp (pc_isN (A.e sc _ x W X io hx g hsc)) rfl).imp fun σ H Q h => p1_red (r := fun x H Q => Q (.bl (decide (x = .non))) H) (tT.of h) fun _ _ _ _ _ _ => ok_isN
        · simp only [Option.map_eq_some_iff] at h2
          obtain ⟨x, hx, rfl⟩ := h2
          exact (pt_cmp (pc_notN (A.e sc _ x W X io hx g hsc)) rfl).imp fun σ H Q h => p1_red (r := fun x H Q => Q (.bl (!decide (x = .non))) H) (tT.of h) fun _ _ _ _ _ _ => ok_notN
        · cases h2
      · simp only [Option.bind_eq_some_iff] at h2
        obtain ⟨o, ho, h2⟩ := h2
        split at h2
        · cases h2
        · rename_i hm
          simp only [Option.bind_eq_some_iff, Option.map_eq_some_iff] at h2
          obtain ⟨x, hx, y, hy, rfl⟩ := h2
          obtain ⟨r, hr, hs⟩ := cmp_rule g ho
          exact (pt_cmpR hr (A.e sc _ x W X io hx g hsc) (A.e sc _ y W X io hy g hsc) (by simpa using hm)).imp fun σ H Q h => p2_red (tT.of h) hs
    · rename_i a op op' b d pos heq
      cases heq
      simp only [Option.bind_eq_some_iff] at h2
      obtain ⟨o, ho, o', ho', h2⟩ := h2
      split at h2
      · cases h2
      · rename_i hm
        simp only [Option.bind_eq_some_iff, Option.map_eq_some_iff] at h2
        obtain ⟨x, hx, y, hy, z, hz, rfl⟩ := h2
        obtain ⟨r, hr, hs⟩ := cmp_rule g ho
        obtain ⟨r', hr', hs'⟩ := cmp_rule g ho'
        exact (pt_chain hr hr' (A.e sc _ x W X io hx g hsc) (A.e sc _ y W X io hy g hsc) (A.e sc _ z W X io hz g hsc) (by simpa using hm)).imp fun σ H Q h => chain_red (tT.of h) hs hs'
  | Name x pos => exact val rfl (by simpa only [toC] using h) fun _ => rfl
  | Call f args kws pos => exact val rfl (by simpa only [toC] using h) fun _ => rfl
  | Constant k j pos => exact val rfl (by simpa only [toC] using h) fun _ => rfl
  | Subscript a b pos => exact val rfl (by simpa only [toC] using h) fun _ => rfl
  | _ => simp [toC] at h
theorem SAll.succ {n : Nat} (A : SAll c CT sg Φ n) : SAll c CT sg Φ (n + 1) where
  e := sE_step A
  o := sO_step A.e
  l := sL_step A.e A.l
  bv := sBV_step A.e A.bv
  t := sC_step A (sE_step A)
  bc := sBC_step A.t A.bc
  f := sIf_step A.t
  i := sI_step A.e
theorem sAll : ∀ n : Nat, SAll c CT sg Φ n
  | 0 => .zero
  | n + 1 => (sAll n).succ
end
end Ev

set_option Elab.async false
set_option linter.all false
set_option autoImplicit false
/-! EvI: statements, blocks, defs. -/
namespace Ev
open PySem PySem.Spec PyProof.Rows L2

/-- what is handed back -/
def RetR (K : PySem.W.Frag) (io : Fx) (G H H0 : Hp) (O : Addr → Prop) (σ : L2.St) (en : Env) (v : V) : Rs → Prop
  | .fz t => VR K G v t
  | .ol xs => ∃ (p : Addr) (vs : List V), v = .ref p ∧ H p = some (.lst vs) ∧ G p = none ∧ VRs K G vs xs ∧ (H0 p = none ∨ O p) ∧ ¬ Own en σ p ∧ io.a ≠ some p
  | .plc _ => False
def RunS (K : PySem.W.Frag) (io : Fx) (CT : Nat → Addr) (W : WX) (G H : Hp) (O : Addr → Prop) (r : SRes) (D : Ends) : Prop :=
  match r with
  | .nx en => ∀ σ' G' H', SR K io G' H' σ' en → Ext G H O G' H' (Own en σ') → D.nx σ' H'
  | .rt r en => ∀ σ' G' H' v, SR K io G' H' σ' en → Ext G H O G' H' (Own en σ') → RetR K io G' H' H O σ' en v r → D.rt v H'
  | .bk en => ∀ σ' G' H', SR K io G' H' σ' en → Ext G H O G' H' (Own en σ') → D.bk σ' H'
  | .ct en => ∀ σ' G' H', SR K io G' H' σ' en → Ext G H O G' H' (Own en σ') → D.ct σ' H'
  | .ex x en => ∀ σ' G' H' c d, SR K io G' H' σ' en → Ext G H O G' H' (Own en σ') → XR K G' H' CT x c d → W c d σ' H'
  | .bad => False
section
variable {K : PySem.W.Frag} {io : Fx} {CT : Nat → Addr} {W : WX} {G H G1 H1 : Hp} {O O1 : Addr → Prop}
theorem RetR.base {σ : L2.St} {en : Env} {v : V} {r : Rs} (x : Ext G H O G1 H1 O1) {G' H' : Hp} (h : RetR K io G' H' H1 O1 σ en v r) : RetR K io G' H' H O σ en v r := by
  cases r with
  | fz t => exact h
  | plc _ => exact h.elim
  | ol xs =>
    obtain ⟨p, vs, e, h1, h2, h3, h4, h5, h6⟩ := h
    refine ⟨p, vs, e, h1, h2, h3, ?_, h5, h6⟩
    rcases h4 with h4 | h4
    · exact .inl (Classical.byContradiction fun n => x.live p n h4)
    · rcases x.own p h4 with y | y
      · exact .inr y
      · exact .inl y
theorem RunS.rebase {r : SRes} {D : Ends} (x : Ext G H O G1 H1 O1) (h : RunS K io CT W G H O r D) : RunS K io CT W G1 H1 O1 r D := by
  cases r with
  | nx en => exact fun σ' G' H' s e => h σ' G' H' s (x.trans e)
  | rt r en => exact fun σ' G' H' v s e q => h σ' G' H' v s (x.trans e) (q.base x)
  | bk en => exact fun σ' G' H' s e => h σ' G' H' s (x.trans e)
  | ct en => exact fun σ' G' H' s e => h σ' G' H' s (x.trans e)
  | ex y en => exact fun σ' G' H' c d s e => h σ' G' H' c d s (x.trans e)
  | bad => exact h
/-- an expression, then the rest -/
theorem RunS.st {α : Type} {σ : L2.St} {r : R α} {f : α → Env → SRes} {D : Ends} (h : RunS K io CT W G H O (r.st f) D) :
    Run K io CT W σ G H O r fun a en G1 H1 => ∀ G2, SR K io G2 H1 σ en → Ext G H O G2 H1 (Own en σ) → RunS K io CT W G2 H1 (Own en σ) (f a en) D := by
  cases r with
  | bad => exact h
  | ex x en => exact fun G' H' c d s e => h σ G' H' c d s e
  | ok a en => exact fun G1 H1 _ _ G2 s x => RunS.rebase x h
end
section
variable (K : PySem.W.Frag) (io : Fx) (CT : Nat → Addr) (W : WX) (sg : Nat → Sig) (Φ : Nat → List T → FR) (mk : Nat → List T → Option Exc) (F : Nat)
def tS (s : S) : TS := fun D σ H => ∃ G en, SR K io G H σ en ∧ RunS K io CT W G H (Own en σ) (evS sg Φ mk F s en) D
end
structure GoodS (c : Cfg) (CT : Nat → Addr) (sg : Nat → Sig) (Φ : Nat → List T → FR) (mk : Nat → List T → Option Exc) (W : WX) (X : Cx) : Prop where
  g : Good c CT sg Φ W X
  takes : Takes X W
  pown : PassesOwn (model X.prog X.w) X.A X.env X.xe
  fn : ∀ x, X.fn x = true
  kind : X.env.scope.kind = .function
  mkc : ∀ (k : Nat) (x : Str), c.KT[k]? = some x → ∀ (es : List Expr) (l : E) (io : Fx) (p pos : Pos), es ≠ [] → PA X es (tV X.K io CT W sg Φ l) → (∀ e ∈ es, noStar e = true) → Gl X x →
    PMk X (.Call (.Name x p) es [] pos) (fun σ H Q => ∃ G en, SR X.K io G H σ en ∧ Run X.K io CT W σ G H (Own en σ) (evV sg Φ l en) fun ts en' G' H' =>
      ∃ xx, mk k ts = some xx ∧ ∀ G'' H'' cv d, SR X.K io G'' H'' σ en' → Ext G' H' (Own en' σ) G'' H'' (Own en' σ) → XR X.K G'' H'' CT xx cv d → Q cv d H'')
section
variable {K : PySem.W.Frag} {io : Fx} {CT : Nat → Addr} {W : WX} {sg : Nat → Sig} {Φ : Nat → List T → FR} {mk : Nat → List T → Option Exc} {F : Nat} {σ : L2.St} {H : Hp} {D : Ends}
theorem nil_redS (h : tS K io CT W sg Φ mk F .nil D σ H) : D.nx σ H := by
  obtain ⟨G, en, s, h⟩ := h
  exact h σ G H s Ext.refl
theorem cons_redS {a b : S} (h : tS K io CT W sg Φ mk F (.cons a b) D σ H) : tS K io CT W sg Φ mk F a { D with nx := tS K io CT W sg Φ mk F b D } σ H := by
  obtain ⟨G, en, s, h⟩ := h
  unfold evS at h
  refine ⟨G, en, s, ?_⟩
  cases e : evS sg Φ mk F a en with
  | nx en1 => rw [e] at h; exact fun σ' G' H' s' x' => ⟨G', en1, s', RunS.rebase x' h⟩
  | rt r en1 => rw [e] at h; exact h
  | bk en1 => rw [e] at h; exact h
  | ct en1 => rw [e] at h; exact h
  | ex y en1 => rw [e] at h; exact h
  | bad => rw [e] at h; exact h
theorem expr_redS {a : E} (h : tS K io CT W sg Φ mk F (.expr a) D σ H) : tE K io CT W sg Φ a σ H fun _ H1 => D.nx σ H1 := by
  obtain ⟨G, en, s, h⟩ := h
  unfold evS at h
  exact ⟨G, en, s, h.st.imp fun r en1 G1 H1 s1 x1 h v _ => h G1 s1 x1 σ G1 H1 s1 Ext.refl⟩
/-- a store into a name -/
theorem setS_run {G : Hp} {en : Env} {i : Nat} {x : V} {sl : Sl} (s : SR K io G H σ en)
    (nio : sl.isIo = false) (q : SlR K io.B G H (some (some x)) sl)
    (sep : ∀ a, x = .ref a → (sl.own || sl.lent) = true → ∀ (j : Nat) t, j ≠ i → en[j]? = some t → (t.own || t.lent) = true → (sl.own = true ∨ t.own = true) → σ[j]? ≠ some (some (.ref a)))
    (G0 H0 : Hp) (O0 : Addr → Prop) (x0 : Ext G0 H0 O0 G H (Own en σ)) (hown : ∀ a, x = .ref a → sl.own = true → O0 a ∨ H0 a = none) (h : RunS K io CT W G0 H0 O0 (setS i sl en) D) : D.nx (σ.set i (some x)) H := by
  unfold setS at h
  cases e : en[i]? with
  | none => simp only [e] at h; exact h.elim
  | some z =>
    have hl : i < σ.length := by rw [← s.len]; exact lt_of_get e
    have zio : z.isIo = false ∧ RunS K io CT W G0 H0 O0 (.nx (en.set i sl)) D := by
      simp only [e] at h
      cases z <;> first | exact ⟨rfl, h⟩ | exact h.elim
    obtain ⟨zio, h⟩ := zio
    have getσ : ∀ j, j ≠ i → (σ.set i (some x))[j]? = σ[j]? := fun j n => List.getElem?_set_ne (Ne.symm n)
    have self : (σ.set i (some x))[i]? = some (some x) := List.getElem?_set_self hl
    refine h _ G H ⟨s.same, by rw [List.length_set, List.length_set]; exact s.len, fun j t z' => ?_, fun j k t u b z1 z2 o1 o2 n y1 => ?_, ?_, s.bl⟩ ⟨x0.same, x0.keep, x0.live, fun a ⟨j, t, z1, z2, z3⟩ => ?_, x0.frz⟩
    · rcases get_set z' with ⟨rfl, rfl⟩ | ⟨n, z'⟩
      · rw [self]; exact q
      · rw [getσ j n]; exact s.sl j t z'
    · rcases get_set z1 with ⟨rfl, rfl⟩ | ⟨n1, w1⟩
      · rcases get_set z2 with ⟨rfl, rfl⟩ | ⟨n2, w2⟩
        · exact absurd rfl n
        · rw [self] at y1
          rw [getσ k n2]
          cases y1
          exact sep b rfl (by rw [o1]; rfl) k u n2 w2 o2 (.inl o1)
      · rw [getσ j n1] at y1
        rcases get_set z2 with ⟨rfl, rfl⟩ | ⟨n2, w2⟩
        · rw [self]
          intro y2
          cases y2
          exact sep b rfl o2 j t n1 w1 (by rw [o1]; rfl) (.inr o1) y1
        · rw [getσ k n2]
          exact s.sep j k t u b w1 w2 o1 o2 n y1
    · have rio := s.iok
      unfold IoR at rio ⊢
      cases hio : io.a with
      | none =>
        rw [hio] at rio
        intro j t z'
        rcases get_set z' with ⟨rfl, rfl⟩ | ⟨_, z'⟩
        · exact nio
        · exact rio j t z'
      | some c =>
        rw [hio] at rio
        obtain ⟨⟨ys, h1⟩, h2, h3⟩ := rio
        have n0 : i ≠ 0 := fun q => by subst q; rw [e] at h1; cases h1; cases zio
        refine ⟨⟨ys, by rw [List.getElem?_set_ne n0]; exact h1⟩, by rw [getσ 0 (Ne.symm n0)]; exact h2, fun j ys z' => ?_⟩
        rcases get_set z' with ⟨rfl, y⟩ | ⟨_, z'⟩
        · subst y; cases nio
        · exact h3 j ys z'
    · rcases get_set z1 with ⟨rfl, rfl⟩ | ⟨n, w⟩
      · rw [self] at z3
        cases z3
        exact hown a rfl z2
      · rw [getσ j n] at z3
        exact x0.own a ⟨j, t, w, z2, z3⟩

theorem setFz {G : Hp} {en : Env} {i : Nat} {x : V} {t : T} (s : SR K io G H σ en) (r : VR K G x t) {G0 H0 : Hp} {O0 : Addr → Prop} (x0 : Ext G0 H0 O0 G H (Own en σ)) (h : RunS K io CT W G0 H0 O0 (setS i (.fz t) en) D) : D.nx (σ.set i (some x)) H :=
  setS_run (sl := .fz t) s rfl ⟨x, rfl, r⟩ (fun _ _ o => by cases o) G0 H0 O0 x0 (fun _ _ o => by cases o) h
theorem asg_red {i : Nat} {a : E} (h : tS K io CT W sg Φ mk F (.asg (.v i) a) D σ H) : tE K io CT W sg Φ a σ H fun x H1 => D.nx (σ.set i (some x)) H1 := by
  obtain ⟨G, en, s, h⟩ := h
  unfold evS at h
  have h0 := h
  refine ⟨G, en, s, ?_⟩
  cases he : ev sg Φ a en with
  | bad => rw [he] at h; exact h
  | ex x e => rw [he] at h; exact fun G' H' c d s' x' => h σ G' H' c d s' x'
  | ok r en1 =>
    rw [he, R.st_ok] at h
    intro G1 H1 s1 x1 v rv
    cases r with
    | fz t =>
      exact setFz s1 rv x1 h
    | ol xs =>
      obtain ⟨p, vs, rfl, hp, hg, h0p, ho, q⟩ := rv
      have hb : io.B p = none := Classical.byContradiction fun n => s.bl p n h0p
      refine setS_run (sl := .ol xs) s1 rfl ⟨p, vs, rfl, hg, hp, q⟩ (fun a ea _ j t n e o _ e3 => ?_) G H (Own en σ) x1 (fun a ea _ => by cases ea; exact .inr h0p) h
      cases ea
      have y := s1.sl j t e
      cases t with
      | no => cases o
      | fz _ => cases o
      | ol ys => exact ho ⟨j, _, e, rfl, e3⟩
      | io ys => exact ho ⟨j, _, e, rfl, e3⟩
      | bl ys => obtain ⟨b, ws, e4, hb4, _⟩ := y; rw [e3] at e4; cases e4; exact hb4 hb
    | plc j =>
      have rv : σ[j]? = some (some v) := rv
      unfold asgR at h
      cases e : en1[j]? with
      | none => simp only [e] at h; exact h.elim
      | some z =>
        simp only [e] at h
        cases z with
        | no => exact h.elim
        | io _ => exact h.elim
        | fz t =>
          obtain ⟨y, e1, q⟩ := s1.sl j _ e
          rw [rv] at e1; cases e1
          exact setFz s1 q x1 h
        | ol xs =>
          obtain ⟨G2, s2, x2, q⟩ := s1.freezeS e
          exact setFz s2 (q v rv) (x1.trans x2) h
        | bl xs =>
          have y := s1.sl j _ e
          rw [rv] at y
          refine setS_run (sl := .bl xs) s1 rfl y (fun a ea _ k t n e2 o ow e3 => ?_) G H (Own en σ) x1 (fun _ _ o => by cases o) h
          subst ea
          rcases ow with ow | ow
          · cases ow
          · by_cases hkj : k = j
            · subst hkj; rw [e] at e2; cases e2; cases ow
            · exact s1.sep k j t _ a e2 e ow rfl hkj e3 rv
theorem asgT_red {tg : Tg} {a : E} (hn : ∀ i, tg ≠ .v i) (h : tS K io CT W sg Φ mk F (.asg tg a) D σ H) : tE K io CT W sg Φ a σ H fun x H1 => gT K tg x σ H1 D.nx := by
  obtain ⟨G, en, s, h⟩ := h
  have h : RunS K io CT W G H (Own en σ) ((ev sg Φ a en).st fun r en1 => (toV r en1).st fun t en2 => match asgT tg t en2 with
    | some en3 => .nx en3
    | none => .bad) D := by
    cases tg with
    | v i => exact absurd rfl (hn i)
    | _ => exact h
  refine ⟨G, en, s, ?_⟩
  cases he : ev sg Φ a en with
  | bad => rw [he] at h; exact h
  | ex x e => rw [he] at h; exact fun G' H' c d s' x' => h σ G' H' c d s' x'
  | ok r en1 =>
    rw [he, R.st_ok] at h
    intro G1 H1 s1 x1 v rv
    cases hv : toV r en1 with
    | bad => rw [hv] at h; exact h.elim
    | ex x e =>
      unfold toV at hv
      cases r with
      | fz t => cases hv
      | ol xs => cases hv
      | plc i => simp only at hv; split at hv <;> cases hv
    | ok t en2 =>
      rw [hv, R.st_ok] at h
      obtain ⟨G2, s2, x2, rt⟩ := toV_ok hv s1 x1 rv
      cases ha : asgT tg t en2 with
      | none => simp only [ha] at h; exact h.elim
      | some en3 =>
        simp only [ha] at h
        exact asgT_ok tg ha s2 rt fun σ1 a1 => h σ1 G2 H1 a1.sr (x2.trans a1.ext)
/-- x op= e, of ints -/
def ipOf : P2 → TIp
  | .add => ipI (· + ·)
  | .sub => ipI (· - ·)
  | .mul => fun x y H Q => ∃ i j, x = .int i ∧ y = .int j ∧ mulOk i j ∧ Q (.int (i * j)) H
  | _ => fun _ _ _ _ => False
theorem aug_red {i : Nat} {o : P2} {a : E} (h : tS K io CT W sg Φ mk F (.aug i o a) D σ H) : tAug i (tE K io CT W sg Φ a) (ipOf o) D σ H := by
  obtain ⟨G, en, s, h⟩ := h
  unfold evS at h
  cases e : en[i]? with
  | none => simp only [e] at h; exact h.elim
  | some z =>
    cases z with
    | fz t =>
      cases t with
      | int k =>
        simp only [e] at h
        obtain ⟨x, e1, r⟩ := s.sl i _ e
        cases r
        refine ⟨.int k, e1, G, en, s, ?_⟩
        cases he : ev sg Φ a en with
        | bad => rw [he] at h; exact h
        | ex x e => rw [he] at h; exact fun G' H' c d s' x' => h σ G' H' c d s' x'
        | ok r en1 =>
          rw [he, R.st_ok] at h
          intro G1 H1 s1 x1 v rv
          cases r with
          | fz u =>
            cases u with
            | int j =>
              cases (show VR K G1 v (.int j) from rv)
              simp only at h
              split at h
              · rename_i hao
                cases o <;> try (cases hao; done)
                · exact ⟨k, j, rfl, rfl, setFz s1 (.int _) x1 h⟩
                · exact ⟨k, j, rfl, rfl, setFz s1 (.int _) x1 h⟩
                · by_cases hm : mulOk k j
                  · simp only [ap2, if_pos hm] at h
                    exact ⟨k, j, rfl, rfl, hm, setFz s1 (.int _) x1 h⟩
                  · simp only [ap2, if_neg hm] at h
                    exact h.elim
              · exact h.elim
            | _ => exact h.elim
          | _ => exact h.elim
      | _ => simp only [e] at h; exact h.elim
    | _ => simp only [e] at h; exact h.elim
theorem setix_red {i : Nat} {k a : E} (h : tS K io CT W sg Φ mk F (.setix i k a) D σ H) :
    tE K io CT W sg Φ a σ H fun v H1 => ∃ p, σ[i]? = some (some p) ∧ tE K io CT W sg Φ k σ H1 fun q H2 => rSetL p q v H2 fun H3 => D.nx σ H3 := by
  obtain ⟨G, en, s, h⟩ := h
  unfold evS at h
  refine ⟨G, en, s, ?_⟩
  cases he : ev sg Φ a en with
  | bad => rw [he] at h; exact h
  | ex x e => rw [he] at h; exact fun G' H' c d s' x' => h σ G' H' c d s' x'
  | ok r en1 =>
    rw [he, R.st_ok] at h
    intro G1 H1 s1 x1 v rv
    cases hv : toV r en1 with
    | bad => rw [hv] at h; exact h.elim
    | ex x e =>
      unfold toV at hv
      cases r with
      | fz t => cases hv
      | ol xs => cases hv
      | plc i => simp only at hv; split at hv <;> cases hv
    | ok t en2 =>
      rw [hv, R.st_ok] at h
      obtain ⟨G2, s2, x2, rt⟩ := toV_ok hv s1 x1 rv
      cases ho : ownOf en2 i with
      | none => simp only [ho] at h; exact h.elim
      | some z =>
        simp only [ho] at h
        obtain ⟨b0, xs0⟩ := z
        have eo := ownOf_at ho
        obtain ⟨p, ws, e1, hg, hw, q0⟩ : ∃ (a : Addr) (ws : List V), σ[i]? = some (some (.ref a)) ∧ G2 a = none ∧ H1 a = some (.lst ws) ∧ VRs K G2 ws xs0 := by
          have y := s2.sl i _ eo
          cases b0 <;> exact y
        refine ⟨.ref p, e1, G2, en2, s2, ?_⟩
        cases hk : ev sg Φ k en2 with
        | bad => rw [hk] at h; exact h
        | ex y e => rw [hk] at h; exact fun G' H' c d s' x' => h σ G' H' c d s' (x2.trans x')
        | ok q en3 =>
          rw [hk, R.st_ok] at h
          intro G3 H3 s3 x3 w rw'
          unfold setAt at h
          split at h
          · rename_i j z e3
            obtain ⟨b, xs⟩ := z
            have e4 := ownOf_at e3
            split at h
            · rename_i n hn
              cases (show VR K G3 w (.int j) from rw')
              obtain ⟨p', vs, f1, f2, f3, f4⟩ : ∃ (a : Addr) (ws : List V), σ[i]? = some (some (.ref a)) ∧ G3 a = none ∧ H3 a = some (.lst ws) ∧ VRs K G3 ws xs := by
                have y := s3.sl i _ e4
                cases b <;> exact y
              rw [e1] at f1; cases f1
              have rt3 := rt.mono x3.same
              have nn : ixN vs.length j = some n := by rw [f4.length]; exact hn
              refine ⟨p, vs, j, n, rfl, rfl, f3, nn, ?_⟩
              obtain ⟨w1, w2⟩ := s3.change (s' := mkOwn b (xs.set n t)) (ws := vs.set n v) e4 (by cases b <;> rfl) (by cases b <;> rfl) (by cases b <;> rfl) e1 f3 (by cases b <;> exact ⟨p, _, rfl, f2, upd_same, f4.set rt3 n⟩)
              exact h σ _ _ w1 ((x2.trans x3).trans w2)
            · exact h.elim
          · exact h.elim

theorem boolS {r : R Rs} {f : Bool → Env → SRes} : (r.st fun q en1 => (boolOf q en1).st f) = (r.bind boolOf).st f := by cases r <;> rfl
theorem ite_redS {c : E} {a b : S} (h : tS K io CT W sg Φ mk F (.ite c a b) D σ H) : tT K io CT W sg Φ c σ H fun k H1 => if k = true then tS K io CT W sg Φ mk F a D σ H1 else tS K io CT W sg Φ mk F b D σ H1 := by
  obtain ⟨G, en, s, h⟩ := h
  unfold evS at h
  rw [boolS] at h
  refine ⟨G, en, s, h.st.imp fun k en1 G1 H1 s1 x1 h => ?_⟩
  have h := h G1 s1 x1
  cases k with
  | true => exact iteT ⟨G1, en1, s1, h⟩
  | false => exact iteF ⟨G1, en1, s1, h⟩
theorem while_redS {c : E} {b : S} (h : tS K io CT W sg Φ mk F (.whl c b) D σ H) : tWhile (tT K io CT W sg Φ c) (tS K io CT W sg Φ mk F b) D σ H := by
  obtain ⟨G, en, s, h⟩ := h
  unfold evS at h
  refine ⟨fun m σ' H' => ∃ G en, SR K io G H' σ' en ∧ RunS K io CT W G H' (Own en σ') (whileL (fun en => (ev sg Φ c en).bind boolOf) (evS sg Φ mk F b) m en) D, ⟨F, G, en, s, h⟩, ?_⟩
  rintro m σ1 H1 ⟨G1, en1, s1, h⟩
  cases m with
  | zero => exact h.elim
  | succ m =>
    unfold whileL at h
    refine ⟨G1, en1, s1, h.st.imp fun k en2 G2 H2 s2 x2 h => ?_⟩
    have h := h G2 s2 x2
    cases k with
    | false => exact iteF (h σ1 G2 H2 s2 Ext.refl)
    | true =>
      refine iteT ⟨fun σ' H' => ∃ G en, SR K io G H' σ' en ∧ RunS K io CT W G H' (Own en σ') (whileL (fun en => (ev sg Φ c en).bind boolOf) (evS sg Φ mk F b) m en) D, fun σ' H' h => ⟨m, Nat.lt_succ_self m, h⟩, G2, en2, s2, ?_⟩
      simp only [if_true] at h
      cases e : evS sg Φ mk F b en2 with
      | nx en3 => rw [e] at h; exact fun σ' G' H' s' x' => ⟨G', en3, s', RunS.rebase x' h⟩
      | ct en3 => rw [e] at h; exact fun σ' G' H' s' x' => ⟨G', en3, s', RunS.rebase x' h⟩
      | bk en3 => rw [e] at h; exact h
      | rt r en3 => rw [e] at h; exact h
      | ex y en3 => rw [e] at h; exact h
      | bad => rw [e] at h; exact h
theorem for_redS {tg : Tg} {it : E} {b : S} (h : tS K io CT W sg Φ mk F (.for tg it b) D σ H) : tFor (tI K io CT W sg Φ it) (gT K tg) (tS K io CT W sg Φ mk F b) D σ H := by
  obtain ⟨G, en, s, h⟩ := h
  unfold evS at h
  refine ⟨G, en, s, h.st.imp fun its en1 G1 H1 s1 x1 h hsl J ca jok cok => ?_⟩
  have h := h G1 s1 x1
  -- the walked list stands
  obtain ⟨en2, G2, s2, x2, hca, h⟩ : ∃ en2 G2, SR K io G2 H1 σ en2 ∧ Ext G1 H1 (Own en1 σ) G2 H1 (Own en2 σ) ∧
      (∀ G' H' (O' : Addr → Prop), Ext G2 H1 (Own en2 σ) G' H' O' → Same G' H' → ∀ a, ca = some a → ∃ vs, Rd H' a (.lst vs) ∧ VRs K G' vs its.xs) ∧ RunS K io CT W G1 H1 (Own en1 σ) (forL (asgT tg) (evS sg Φ mk F b) its.xs en2) D := by
    cases hk : its.chk with
    | none =>
      rw [hk] at h
      refine ⟨en1, G1, s1, Ext.refl, fun _ _ _ _ _ a ea => ?_, h⟩
      unfold CaOk at cok
      rw [hk] at cok
      rw [ea] at cok; cases cok
    | some p =>
      obtain ⟨i, z⟩ := p
      rw [hk] at h hsl
      unfold CaOk at cok
      rw [hk] at cok
      obtain ⟨hz, a0, ea0, q⟩ := cok
      have e : en1[i]? = some z := of_decide_eq_true hsl
      have y := s1.sl i z e
      cases z with
      | no => exact h.elim
      | io xs => exact h.elim
      | fz t =>
        cases hz
        obtain ⟨x, e1, r⟩ := y
        rw [q] at e1; cases e1
        obtain ⟨b, vs, e2, h1, h2⟩ := VR.lst_inv r
        cases e2
        refine ⟨en1, G1, s1, Ext.refl, fun G' H' O' xx sm a ea => ?_, h⟩
        rw [ea0] at ea; cases ea
        exact ⟨vs, sameR sm (sameR xx.same h1), h2.mono xx.same⟩
      | bl xs =>
        cases hz
        obtain ⟨b, vs, e1, hb, h1, h2⟩ := y
        rw [q] at e1; cases e1
        refine ⟨en1, G1, s1, Ext.refl, fun G' H' O' xx sm a ea => ?_, h⟩
        rw [ea0] at ea; cases ea
        have no : ¬ Own en1 σ a0 := fun ⟨j, t, w1, w2, w3⟩ => by
          by_cases hj : j = i
          · subst hj; rw [e] at w1; cases w1; cases w2
          · exact s1.sep j i t _ a0 w1 e w2 rfl hj w3 q
        refine ⟨vs, ?_, h2.mono xx.same⟩
        rcases h1 with h1 | ⟨o, h1⟩
        · exact .inl (xx.keep _ _ h1 no)
        · exact .inr ⟨o, xx.keep _ _ h1 no⟩
      | ol xs =>
        cases hz
        obtain ⟨G2, s2, x2, k⟩ := s1.freezeS e
        have r := k _ q
        obtain ⟨b, vs, e2, h1, h2⟩ := VR.lst_inv r
        cases e2
        refine ⟨_, G2, s2, x2, fun G' H' O' xx sm a ea => ?_, h⟩
        rw [ea0] at ea; cases ea
        exact ⟨vs, sameR sm (sameR xx.same h1), h2.mono xx.same⟩
  have h := RunS.rebase x2 h
  have cond : ∀ {G' H' : Hp} {O' : Addr → Prop}, Ext G2 H1 (Own en2 σ) G' H' O' → Same G' H' → (∀ a, ca = some a → ∃ vs, Rd H' a (.lst vs) ∧ VRs K G' vs its.xs) := fun xx sm => hca _ _ _ xx sm
  refine ⟨fun i m σ' H' => m = its.xs.length - i ∧ i ≤ its.xs.length ∧ ∃ G' en', SR K io G' H' σ' en' ∧ Ext G2 H1 (Own en2 σ) G' H' (Own en' σ') ∧ RunS K io CT W G' H' (Own en' σ') (forL (asgT tg) (evS sg Φ mk F b) (its.xs.drop i) en') D,
    ⟨its.xs.length, by simp, Nat.zero_le _, G2, en2, s2, Ext.refl, by rw [List.drop_zero]; exact h⟩, ?_⟩
  rintro i m σ3 H3 ⟨rfl, hi, G3, en3, s3, x3, h⟩
  have sm13 : Same G1 G3 := x2.same.trans x3.same
  by_cases hlt : i < its.xs.length
  · right
    have hget : its.xs[i]? = some its.xs[i] := List.getElem?_eq_getElem hlt
    rw [List.drop_eq_getElem_cons hlt] at h
    generalize its.xs[i] = t at hget h
    unfold forL at h
    obtain ⟨hgo, hy⟩ := jok.go i t G3 H3 sm13 s3.same (cond x3 s3.same) hget
    refine ⟨hgo, fun σ' H' => i + 1 ≤ its.xs.length ∧ ∃ G' en', SR K io G' H' σ' en' ∧ Ext G2 H1 (Own en2 σ) G' H' (Own en' σ') ∧ RunS K io CT W G' H' (Own en' σ') (forL (asgT tg) (evS sg Φ mk F b) (its.xs.drop (i + 1)) en') D,
      fun σ' H' ⟨h1, h2⟩ => ⟨its.xs.length - (i + 1), by omega, rfl, h1, h2⟩, fun y H4 hyl => ?_⟩
    obtain ⟨G4, al, rv⟩ := hy y H4 hyl
    have s4 := s3.al al
    have x4 := s3.extAl al
    cases ha : asgT tg t en3 with
    | none => rw [ha] at h; exact h.elim
    | some en5 =>
      rw [ha] at h
      refine asgT_ok tg ha s4 rv fun σ5 a5 => ?_
      have x5 := x4.trans a5.ext
      refine ⟨G4, en5, a5.sr, ?_⟩
      have h : RunS K io CT W G4 H4 (Own en5 σ5) ((evS sg Φ mk F b en5).turn (forL (asgT tg) (evS sg Φ mk F b) (its.xs.drop (i + 1)))) D := RunS.rebase x5 h
      have x35 := x3.trans x5
      cases e : evS sg Φ mk F b en5 with
      | nx en6 => rw [e] at h; exact fun σ' G' H' s' x' => ⟨hlt, G', en6, s', x35.trans x', RunS.rebase x' h⟩
      | ct en6 => rw [e] at h; exact fun σ' G' H' s' x' => ⟨hlt, G', en6, s', x35.trans x', RunS.rebase x' h⟩
      | bk en6 => rw [e] at h; exact h
      | rt r en6 => rw [e] at h; exact h
      | ex z en6 => rw [e] at h; exact h
      | bad => rw [e] at h; exact h
  · left
    have e : i = its.xs.length := by omega
    subst e
    rw [List.drop_length] at h
    exact ⟨jok.stop _ G3 H3 sm13 s3.same (cond x3 s3.same) (Nat.le_refl _), h σ3 G3 H3 s3 Ext.refl⟩
theorem ret_redS {a : E} (h : tS K io CT W sg Φ mk F (.ret a) D σ H) : tE K io CT W sg Φ a σ H D.rt := by
  obtain ⟨G, en, s, h⟩ := h
  unfold evS at h
  have h0 := h
  refine ⟨G, en, s, ?_⟩
  cases he : ev sg Φ a en with
  | bad => rw [he] at h; exact h
  | ex x e => rw [he] at h; exact fun G' H' c d s' x' => h σ G' H' c d s' x'
  | ok r en1 =>
    rw [he, R.st_ok] at h
    intro G1 H1 s1 x1 v rv
    cases r with
    | fz t => exact h σ G1 H1 v s1 x1 rv
    | ol xs =>
      obtain ⟨p, vs, rfl, hp, hg, h0p, ho, q⟩ := rv
      refine h σ G1 H1 _ s1 x1 ⟨p, vs, rfl, hp, hg, q, .inl h0p, ho, fun e => ?_⟩
      have rio := s1.iok
      unfold IoR at rio
      rw [e] at rio
      obtain ⟨⟨ys, k1⟩, k2, _⟩ := rio
      exact ho ⟨0, _, k1, rfl, k2⟩
    | plc i =>
      have rv : σ[i]? = some (some v) := rv
      unfold retR at h
      cases e : en1[i]? with
      | none => simp only [e] at h; exact h.elim
      | some z =>
        simp only [e] at h
        cases z with
        | no => exact h.elim
        | io _ => exact h.elim
        | bl _ => exact h.elim
        | fz t =>
          obtain ⟨y, e1, q⟩ := s1.sl i _ e
          rw [rv] at e1; cases e1
          exact h σ G1 H1 v s1 x1 q
        | ol xs =>
          obtain ⟨p, vs, e1, hg, hp, q⟩ := s1.sl i _ e
          rw [rv] at e1; cases e1
          obtain ⟨w1, w2, w3⟩ := s1.take e rfl rv
          have nio : io.a ≠ some p := fun ea => by
            have rio := s1.iok
            unfold IoR at rio
            rw [ea] at rio
            obtain ⟨⟨ys, k1⟩, k2, k3⟩ := rio
            by_cases h0 : i = 0
            · subst h0; rw [e] at k1; cases k1
            · exact s1.sep i 0 _ _ p e k1 rfl rfl h0 rv k2
          refine h σ G1 H1 _ w1 (x1.trans w2) ⟨p, vs, rfl, hp, hg, q, ?_, fun z => ?_, nio⟩
          · rcases x1.own p ⟨i, _, e, rfl, rv⟩ with y | y
            · exact .inr y
            · exact .inl y
          · obtain ⟨j, t, y1, y2, y3⟩ := z
            exact w3 p rfl j t y1 (by rw [y2]; rfl) y3
theorem ret0_redS (h : tS K io CT W sg Φ mk F .ret0 D σ H) : D.rt .non H := by
  obtain ⟨G, en, s, h⟩ := h
  unfold evS at h
  exact h σ G H .non s Ext.refl .non
theorem brk_redS (h : tS K io CT W sg Φ mk F .brk D σ H) : D.bk σ H := by
  obtain ⟨G, en, s, h⟩ := h
  unfold evS at h
  exact h σ G H s Ext.refl
theorem cont_redS (h : tS K io CT W sg Φ mk F .cont D σ H) : D.ct σ H := by
  obtain ⟨G, en, s, h⟩ := h
  unfold evS at h
  exact h σ G H s Ext.refl
theorem pass_redS (h : tS K io CT W sg Φ mk F .pass D σ H) : D.nx σ H := by
  obtain ⟨G, en, s, h⟩ := h
  unfold evS at h
  exact h σ G H s Ext.refl
theorem raise_redS {k : Nat} {l : E} (h : tS K io CT W sg Φ mk F (.raise k l) D σ H) : ∃ G en, SR K io G H σ en ∧ Run K io CT W σ G H (Own en σ) (evV sg Φ l en) fun ts en' G' H' =>
      ∃ xx, mk k ts = some xx ∧ ∀ G'' H'' cv d, SR K io G'' H'' σ en' → Ext G' H' (Own en' σ) G'' H'' (Own en' σ) → XR K G'' H'' CT xx cv d → W cv d σ H'' := by
  obtain ⟨G, en, s, h⟩ := h
  unfold evS at h
  refine ⟨G, en, s, h.st.imp fun ts en1 G1 H1 s1 x1 h => ?_⟩
  have h := h G1 s1 x1
  cases hm : mk k ts with
  | none => simp only [hm] at h; exact h.elim
  | some xx =>
    simp only [hm] at h
    exact ⟨xx, rfl, fun G2 H2 cv d s2 x2 xr => h σ G2 H2 cv d s2 x2 xr⟩
end

/-! ### the induction over statements -/
section
variable {c : Cfg} {CT : Nat → Addr} {sg : Nat → Sig} {Φ : Nat → List T → FR} {mk : Nat → List T → Option Exc} {F : Nat}
theorem sw_no {e : Expr} {tg : Expr} {line : Nat} {env : PySem.Env} (h : isComp e = false) : swapsWithSole [tg] e line env = pure false := by
  cases e <;> first | rfl | cases h
theorem sw_none {e : Expr} {line : Nat} {env : PySem.Env} (h : isComp e = false) : swapsWith e none line env = pure false := by
  cases e <;> first | rfl | cases h
theorem sst_name {x : Str} {p : Pos} {e : Expr} {env : PySem.Env} : swappedStores [.Name x p] e env = pure none := by
  cases e <;> rfl
theorem sst_sub {a b : Expr} {p : Pos} {e : Expr} {env : PySem.Env} : swappedStores [.Subscript a b p] e env = pure none := by
  cases e <;> rfl
theorem sst_tup {ts : List Expr} {k : Nat} {p : Pos} {e : Expr} {env : PySem.Env} (h : isTup e = false) : swappedStores [.Tuple ts k p] e env = pure none := by
  cases e <;> first | rfl | cases h
theorem sw_false {elt : Expr} {gs : List Comprehension} {scope : Scope} {pos py : Pos} {y : Str} {l : Nat} {env : PySem.Env} (hk : env.scope.kind = .function)
    (ha : (decide (env.scope.names.lookup y = some .local) && (py.line == pos.line) && !(scope.names.any fun (n, k) => n == y && (k == .local || k == .cell))) = false) : swapsWithSole [.Name y py] (.ListComp elt gs scope pos) l env = pure false := by
  have hb : env.blockKind = .function := by unfold PySem.Env.blockKind; rw [hk]; rfl
  have e : (env.kindOf y == some .local) = decide (env.scope.names.lookup y = some .local) := by
    show (env.scope.names.lookup y == some .local) = _
    cases env.scope.names.lookup y with
    | none => rfl
    | some k => cases k <;> rfl
  show swapsWith (.ListComp elt gs scope pos) (some (.Name y py)) l env = pure false
  unfold swapsWith
  simp only [hb, e, Expr.pos, ha]
  have e2 : (ScopeKind.function == ScopeKind.function) = true := rfl
  rw [e2, Bool.true_and]
  exact congrArg pure ha
theorem loc_of {sc : Scope} {x : Str} (h : locB sc x = true) : L2.Loc sc x := by
  unfold locB at h
  unfold L2.Loc
  split at h
  · exact .inl (by assumption)
  · exact .inr (by assumption)
  · cases h
theorem ip_mul {X : Cx} : PIp X .Mult (ipOf .mul) := by
  intro pins s σ H x y u v Q I rx ry h
  obtain ⟨i, j, rfl, rfl, hm, q⟩ := h
  obtain ⟨t, rfl⟩ := (show ∃ t, u = Value.int i t from rx)
  obtain ⟨t', rfl⟩ := (show ∃ t', v = Value.int j t' from ry)
  exact PyProof.Rows.imul_int ⟨.int (i * j), H, I.tok _, ⟨_, rfl⟩, q⟩ (CMul.ok hm)
theorem ip_rule {X : Cx} {op : Operator} {o : P2} (h : opOf op = some o) (ha : augOk o = true) : PIp X op (ipOf o) := by
  cases op <;> cases h <;> first | exact ip_add | exact ip_sub | exact ip_mul | cases ha
mutual
theorem sS {W : WX} {X : Cx} (g : GoodS c CT sg Φ mk W X) (io : Fx) : ∀ (n : Nat) (sc : Scope) (st : Stmt) (i : S), toS c n sc st = some i → X.env.scope = sc → PS X st (tS X.K io CT W sg Φ mk F i)
  | 0, _, _, _, h, _ => by simp [toS] at h
  | n + 1, sc, st, i, h, hsc => by
    have A := sAll (c := c) (CT := CT) (sg := sg) (Φ := Φ) n
    unfold toS at h
    split at h
    · rename_i e pos
      split at h
      · cases h
      · rename_i hc
        simp only [Option.map_eq_some_iff] at h
        obtain ⟨x, hx, rfl⟩ := h
        exact (ps_expr (A.e sc _ x W X io hx g.g hsc) (sw_none (by simpa using hc))).imp fun D σ H h => expr_redS h
    · rename_i x py e pos
      simp only [Option.bind_eq_some_iff] at h
      obtain ⟨k, hk, h⟩ := h
      have hi := findIx_at hk
      rw [← g.g.N] at hi
      split at h
      · rename_i hl
        have hloc := loc_of hl
        have pg : PG X (.Name x py) (gName k) := pg_name g.g.nd hi (by rw [hsc]; exact hloc) (.inl (g.fn x))
        have plain : ∀ {j : E}, toE c n sc e = some j → swapsWithSole [.Name x py] e pos.line X.env = pure false → PS X (.Assign [.Name x py] e pos) (tS X.K io CT W sg Φ mk F (.asg (.v k) j)) := fun {j} hj hs =>
          (ps_asg (A.e sc _ j W X io hj g.g hsc) pg hs sst_name rfl).imp fun D σ H h => asg_red h
        split at h
        · rename_i elt gg scope epos
          split at h
          · rename_i hb
            simp only [Option.map_eq_some_iff] at h
            obtain ⟨j, hj, rfl⟩ := h
            rcases Bool.or_eq_true_iff.mp hb with hb | hb
            · unfold swapB at hb
              simp only [Bool.and_eq_true, decide_eq_true_eq, Bool.not_eq_true'] at hb
              obtain ⟨⟨hb1, hb2⟩, hb3⟩ := hb
              cases n with
              | zero => simp [toE] at hj
              | succ m =>
                have A := sAll (c := c) (CT := CT) (sg := sg) (Φ := Φ) m
                unfold toE at hj
                split at hj
                all_goals first
                  | (cases hj; done)
                  | (rename_i heq; cases heq; done)
                  | skip
                rename_i elt tg it0 ifs scope epos heq
                cases heq
                simp only [Option.bind_eq_some_iff] at hj
                obtain ⟨it, hit, t, ht, hj⟩ := hj
                split at hj
                · rename_i hbk
                  simp only [Option.bind_eq_some_iff, Option.map_eq_some_iff] at hj
                  obtain ⟨q, hq, x', hx, rfl⟩ := hj
                  obtain ⟨pi, hf⟩ := A.i sc _ _ it W X io hit g.g hsc
                  have own : (tgNames c.N t).map (·.2) = tgSlots t := by
                    unfold tgNames
                    rw [List.map_map]
                    show List.map (fun i => i) (tgSlots t) = _
                    exact List.map_id _
                  have hp := ps_setLc (X := X) (elt := elt) (scope := scope) (pos := epos) (spos := pos) (g := gT X.K t) (tt := tT X.K io CT W0 sg Φ q) (te := tE X.K io CT W0 sg Φ x') g.g.calm g.g.nd hi (by rw [hsc]; exact hb1) (sw_true g.kind (by rw [hsc]; exact hb1) hb2 hb3) pi (blkOk_by (N := X.N) (sc := X.env.scope) (by rw [g.g.N, hsc]; exact hbk))
                    (fun s H C cl fp => sndG (X := X.blk s H scope (compEnvC scope cl C X.env) fp) (c := c) g.g.N g.g.nd g.g.calm (by show L2.relS scope X.env.scope = _; rw [hsc]) (fun x h => h) m _ t ht)
                    (fun s H C cl fp => A.f _ _ q W0 (X.blk s H scope (compEnvC scope cl C X.env) fp) io hq g.g.blk (by show L2.relS scope X.env.scope = _; rw [hsc]))
                    (fun s H C cl fp => A.e _ _ x' W0 (X.blk s H scope (compEnvC scope cl C X.env) fp) io hx g.g.blk (by show L2.relS scope X.env.scope = _; rw [hsc])) hf
                  rw [own] at hp
                  exact hp.imp fun D σ H h => comp_red rfl (asg_red h)
                · cases hj
            · exact plain hj (sw_false g.kind (by rw [hsc]; exact Bool.not_eq_true' _ ▸ hb))
          · cases h
        · split at h
          · cases h
          · rename_i hc
            simp only [Option.map_eq_some_iff] at h
            obtain ⟨j, hj, rfl⟩ := h
            exact plain hj (sw_no (by simpa using hc))
      · cases h
    · rename_i ts k tp e pos
      split at h
      · cases h
      · rename_i hc
        simp only [Bool.or_eq_true, not_or, Bool.not_eq_true] at hc
        simp only [Option.bind_eq_some_iff, Option.map_eq_some_iff] at h
        obtain ⟨t, ht, j, hj, rfl⟩ := h
        have pg := sndG (X := X) (c := c) g.g.N g.g.nd g.g.calm hsc (fun x _ => g.fn x) n _ t ht
        have hn : ∀ i, t ≠ .v i := fun i e => by
          subst e
          cases n with
          | zero => simp [tgOf] at ht
          | succ n => simp [tgOf] at ht
        exact (ps_asg (A.e sc _ j W X io hj g.g hsc) pg (sw_no hc.1) (sst_tup hc.2) rfl).imp fun D σ H h => asgT_red hn h
    · rename_i x px ix ps e pos
      simp only [Option.bind_eq_some_iff] at h
      obtain ⟨k, hk, h⟩ := h
      have hi := findIx_at hk
      rw [← g.g.N] at hi
      split at h
      · rename_i hb
        simp only [Bool.and_eq_true, Bool.not_eq_true'] at hb
        obtain ⟨⟨⟨h1, h2⟩, h3⟩, h4⟩ := hb
        simp only [Option.bind_eq_some_iff, Option.map_eq_some_iff] at h
        obtain ⟨kx, hkx, j, hj, rfl⟩ := h
        have pv : PE X (.Name x px) (tVar k) := pe_var hi (vis_of (by rw [hsc]; exact h1)) (plainN_of h2).1 (plainN_of h2).2
        refine (ps_asg (A.e sc _ j W X io hj g.g hsc) (pg_sub pv (A.e sc _ kx W X io hkx g.g hsc) set_list ?_) (sw_no h4) sst_sub rfl).imp fun D σ H h => setix_red h
        intro v
        cases ix <;> first | rfl | cases h3
      · cases h
    -- x op= e
    · rename_i x px op e pos
      simp only [Option.bind_eq_some_iff] at h
      obtain ⟨k, hk, o, ho, h⟩ := h
      have hi := findIx_at hk
      rw [← g.g.N] at hi
      split at h
      · rename_i hb
        obtain ⟨h1, h2⟩ := Bool.and_eq_true_iff.mp hb
        simp only [Option.map_eq_some_iff] at h
        obtain ⟨j, hj, rfl⟩ := h
        exact (ps_aug g.g.nd hi (by rw [hsc]; exact loc_of h1) (A.e sc _ j W X io hj g.g hsc) (ip_rule ho h2) (.inl (g.fn x))).imp fun D σ H h => aug_red h
      · cases h
    · simp only [Option.bind_eq_some_iff, Option.map_eq_some_iff] at h
      obtain ⟨x, hx, y, hy, z, hz, rfl⟩ := h
      exact (ps_if (A.t sc _ x W X io hx g.g hsc) (sSs g io n sc _ y hy hsc) (sSs g io n sc _ z hz hsc)).imp fun D σ H h => ite_redS h
    · simp only [Option.bind_eq_some_iff, Option.map_eq_some_iff] at h
      obtain ⟨x, hx, y, hy, rfl⟩ := h
      exact (ps_while g.pown (A.t sc _ x W X io hx g.g hsc) (sSs g io n sc _ y hy hsc)).imp fun D σ H h => while_redS h
    · simp only [Option.bind_eq_some_iff, Option.map_eq_some_iff] at h
      obtain ⟨x, hx, t, ht, y, hy, rfl⟩ := h
      obtain ⟨pi, hf⟩ := A.i sc _ _ x W X io hx g.g hsc
      exact (ps_for g.pown g.g.calm pi (sndG (X := X) (c := c) g.g.N g.g.nd g.g.calm hsc (fun x _ => g.fn x) n _ t ht) (sSs g io n sc _ y hy hsc) hf).imp fun D σ H h => for_redS h
    · simp only [Option.map_eq_some_iff] at h
      obtain ⟨x, hx, rfl⟩ := h
      exact (ps_ret (A.e sc _ x W X io hx g.g hsc)).imp fun D σ H h => ret_redS h
    · simp only [Option.some.injEq] at h
      subst h
      exact ps_retN.imp fun D σ H h => ret0_redS h
    · simp only [Option.some.injEq] at h
      subst h
      exact ps_break.imp fun D σ H h => brk_redS h
    · simp only [Option.some.injEq] at h
      subst h
      exact ps_continue.imp fun D σ H h => cont_redS h
    · simp only [Option.some.injEq] at h
      subst h
      exact ps_pass.imp fun D σ H h => pass_redS h
    · rename_i x px e es pos rpos
      split at h
      · rename_i hb
        obtain ⟨h1, h2⟩ := Bool.and_eq_true_iff.mp hb
        simp only [Option.bind_eq_some_iff, Option.map_eq_some_iff] at h
        obtain ⟨k, hk, l, hl, rfl⟩ := h
        obtain ⟨pa, _, ns⟩ := A.l sc _ l W X io hl g.g hsc
        exact (ps_raise g.g.calm g.takes (g.mkc k x (findIx_at hk) (e :: es) l io px pos (by simp) pa ns (gl_of (X := X) (by rw [hsc]; exact h1)))).imp fun D σ H h => raise_redS h
      · cases h
    · cases h
theorem sSs {W : WX} {X : Cx} (g : GoodS c CT sg Φ mk W X) (io : Fx) : ∀ (n : Nat) (sc : Scope) (st : List Stmt) (i : S), toSs c n sc st = some i → X.env.scope = sc → PSs X st (tS X.K io CT W sg Φ mk F i)
  | 0, _, _, _, h, _ => by simp [toSs] at h
  | n + 1, sc, [], i, h, hsc => by
    simp only [toSs, Option.some.injEq] at h
    subst h
    exact pss_nil.imp fun D σ H h => nil_redS h
  | n + 1, sc, s :: r, i, h, hsc => by
    simp only [toSs, Option.bind_eq_some_iff, Option.map_eq_some_iff] at h
    obtain ⟨x, hx, y, hy, rfl⟩ := h
    exact (pss_cons (sS g io n sc s x hx hsc) (sSs g io n sc r y hy hsc)).imp fun D σ H h => cons_redS h
end
end
end Ev

set_option Elab.async false
set_option linter.all false
set_option autoImplicit false
/-! EvJ: a def keeps the promise that its evaluation makes. -/
namespace Ev
open PySem PySem.Spec PyProof.Rows L2

section
variable {K : PySem.W.Frag} {G H : Hp} {a : Option Addr}
theorem ArgR.len {md : List Bool} {vs : List V} {ts : List T} (h : ArgR K G H a md vs ts) : vs.length = md.length ∧ ts.length = md.length := by
  induction h with
  | nil => exact ⟨rfl, rfl⟩
  | val _ _ ih => exact ⟨congrArg Nat.succ ih.1, congrArg Nat.succ ih.2⟩
  | lent _ _ _ _ ih => exact ⟨congrArg Nat.succ ih.1, congrArg Nat.succ ih.2⟩
theorem ArgsR.len {sig : Sig} {vs : List V} {ts : List T} (h : ArgsR K G H sig a vs ts) : vs.length = sig.ar := by
  unfold ArgsR at h
  unfold Sig.ar
  split at h
  · rename_i e
    obtain ⟨c, ws, vs', xs, ts', _, rfl, _, _, _, _, r⟩ := h
    rw [if_pos e, List.length_cons, r.len.1]
  · rename_i e
    rw [if_neg e, h.2.len.1]
    rfl
theorem ArgR.slots {md : List Bool} {vs : List V} {ts : List T} (h : ArgR K G H a md vs ts) (gh : Same G H) (ga : ∀ c, a = some c → G c = none) :
    (slotsOf false md ts).length = vs.length ∧ ∀ (j : Nat) s, (slotsOf false md ts)[j]? = some s → s.own = false ∧ ∃ v, vs[j]? = some v ∧ SlR K H G H (some (some v)) s ∧ (s.lent = true → ∀ c, a = some c → v ≠ .ref c) := by
  induction h with
  | nil => exact ⟨rfl, fun j s e => by simp [slotsOf] at e⟩
  | @val m ms v vs t ts r _ ih =>
    refine ⟨?_, fun j s e => ?_⟩
    · simp only [slotsOf, List.length_cons, ih.1]
    · cases j with
      | succ j =>
        simp only [slotsOf, List.getElem?_cons_succ] at e
        simpa using ih.2 j s e
      | zero =>
        simp only [slotsOf, List.getElem?_cons_zero, Option.some.injEq] at e
        subst e
        split
        · rename_i xs
          obtain ⟨b, ws, rfl, h1, h2⟩ := VR.lst_inv r
          have hb : H b ≠ none := by rcases sameR gh h1 with z | ⟨o, z⟩ <;> rw [z] <;> simp
          refine ⟨rfl, .ref b, rfl, ⟨b, ws, rfl, hb, sameR gh h1, h2⟩, fun _ c1 hc e => ?_⟩
          cases e
          rcases h1 with z | ⟨o, z⟩ <;> rw [ga _ hc] at z <;> cases z
        · exact ⟨rfl, v, rfl, ⟨v, rfl, r⟩, fun z => by cases z⟩
  | @lent ms b ws vs xs ts h1 h2 h3 _ ih =>
    refine ⟨?_, fun j s e => ?_⟩
    · simp only [slotsOf, List.length_cons, ih.1]
    · cases j with
      | succ j =>
        simp only [slotsOf, List.getElem?_cons_succ] at e
        simpa using ih.2 j s e
      | zero =>
        simp only [slotsOf, List.getElem?_cons_zero, Option.some.injEq] at e
        subst e
        have hb : H b ≠ none := by rcases h1 with z | ⟨o, z⟩ <;> rw [z] <;> simp
        exact ⟨rfl, .ref b, rfl, ⟨b, ws, rfl, hb, h1, h3⟩, fun _ c1 hc e => by cases e; exact h2 _ hc rfl⟩
/-- the slots at the entry -/
theorem start_sr {sig : Sig} {vs : List V} {ts : List T} {N : List Str} (h : ArgsR K G H sig a vs ts) (gh : Same G H) (hN : sig.ar ≤ N.length) :
    SR K ⟨a, H⟩ G H (L2.start N vs) (slotsOf sig.io sig.md ts ++ List.replicate (N.length - (slotsOf sig.io sig.md ts).length) .no)
    ∧ ∀ b, Own (slotsOf sig.io sig.md ts ++ List.replicate (N.length - (slotsOf sig.io sig.md ts).length) .no) (L2.start N vs) b → a = some b := by
  have hl := h.len
  -- one shape for both
  have key : ∃ hd : Option (Addr × List T), (slotsOf sig.io sig.md ts).length = vs.length ∧ a = hd.map (·.1) ∧
      (∀ (j : Nat) s, (slotsOf sig.io sig.md ts)[j]? = some s → ∃ v, vs[j]? = some v ∧ SlR K H G H (some (some v)) s ∧ (s.own = true → j = 0 ∧ ∃ c xs, hd = some (c, xs) ∧ v = .ref c ∧ s = .io xs) ∧ (s.lent = true → ∀ c, a = some c → v ≠ .ref c)) ∧
      (∀ c xs, hd = some (c, xs) → (slotsOf sig.io sig.md ts)[0]? = some (.io xs) ∧ vs[0]? = some (.ref c)) := by
    unfold ArgsR at h
    split at h
    · rename_i e
      obtain ⟨c, ws, vs', xs, ts', rfl, rfl, rfl, hg, hh, hv, r⟩ := h
      obtain ⟨k1, k2⟩ := r.slots gh (fun d e => by cases e; exact hg)
      rw [e]
      refine ⟨some (c, xs), ?_, rfl, fun j s e => ?_, fun d ys e => ?_⟩
      · simp only [slotsOf, List.length_cons, k1]
      · cases j with
        | zero =>
          simp only [slotsOf, List.getElem?_cons_zero, Option.some.injEq] at e
          subst e
          exact ⟨.ref c, rfl, ⟨c, ws, rfl, hg, hh, hv⟩, fun _ => ⟨rfl, c, xs, rfl, rfl, rfl⟩, fun z => by cases z⟩
        | succ j =>
          simp only [slotsOf, List.getElem?_cons_succ] at e
          obtain ⟨q0, v, q1, q2, q3⟩ := k2 j s e
          exact ⟨v, by simpa using q1, q2, (fun z => by rw [q0] at z; cases z), q3⟩
      · cases e
        exact ⟨rfl, rfl⟩
    · rename_i e
      obtain ⟨rfl, r⟩ := h
      obtain ⟨k1, k2⟩ := r.slots gh (fun d e => by cases e)
      rw [Bool.not_eq_true] at e
      rw [e]
      refine ⟨none, k1, rfl, fun j s e => ?_, fun d ys e => by cases e⟩
      obtain ⟨q0, v, q1, q2, q3⟩ := k2 j s e
      exact ⟨v, q1, q2, (fun z => by rw [q0] at z; cases z), q3⟩
  obtain ⟨hd, k1, k2, k3, k4⟩ := key
  generalize slotsOf sig.io sig.md ts = sl at k1 k3 k4
  have hle : vs.length ≤ N.length := by omega
  have at1 : ∀ (j : Nat) s, (sl ++ List.replicate (N.length - sl.length) Sl.no)[j]? = some s → (sl[j]? = some s ∧ j < sl.length) ∨ s = .no := fun j s e => by
    by_cases hj : j < sl.length
    · rw [List.getElem?_append_left hj] at e; exact .inl ⟨e, hj⟩
    · rw [List.getElem?_append_right (by omega)] at e
      obtain ⟨_, q⟩ := List.getElem?_eq_some_iff.mp e
      rw [List.getElem_replicate] at q
      exact .inr q.symm
  have atσ : ∀ (j : Nat) v, vs[j]? = some v → (L2.start N vs)[j]? = some (some v) := fun j v e => by
    obtain ⟨hj, _⟩ := List.getElem?_eq_some_iff.mp e
    unfold L2.start
    rw [List.getElem?_append_left (by rw [List.length_map]; exact hj), List.getElem?_map, e]
    rfl
  have ownAt : ∀ (i : Nat) s, (sl ++ List.replicate (N.length - sl.length) Sl.no)[i]? = some s → s.own = true → i = 0 ∧ ∃ c xs, hd = some (c, xs) ∧ (L2.start N vs)[i]? = some (some (.ref c)) ∧ s = .io xs := fun i s e o => by
    rcases at1 i s e with ⟨e1, _⟩ | rfl
    · obtain ⟨v, q1, q2, q3, q4⟩ := k3 i s e1
      obtain ⟨rfl, c, xs, e2, rfl, rfl⟩ := q3 o
      exact ⟨rfl, c, xs, e2, atσ _ _ q1, rfl⟩
    · cases o
  refine ⟨⟨gh, ?_, fun i s e => ?_, fun i j s t b e1 e2 o1 o2 n z1 z2 => ?_, ?_, fun _ h => h⟩, fun b ⟨i, s, e, o, q⟩ => ?_⟩
  · unfold L2.start
    simp only [List.length_append, List.length_map, List.length_replicate]
    omega
  · rcases at1 i s e with ⟨e1, _⟩ | rfl
    · obtain ⟨v, q1, q2, _⟩ := k3 i s e1
      rw [atσ _ _ q1]
      exact q2
    · trivial
  · obtain ⟨rfl, c, xs, e3, z3, rfl⟩ := ownAt i s e1 o1
    rw [z3] at z1; cases z1
    rcases at1 j t e2 with ⟨e4, _⟩ | rfl
    · obtain ⟨v, q1, q2, q3, q4⟩ := k3 j t e4
      rw [atσ _ _ q1] at z2
      cases z2
      cases ho : t.own with
      | true => exact n (q3 ho).1.symm
      | false =>
        rw [ho, Bool.false_or] at o2
        exact q4 o2 b (by rw [k2, e3]; rfl) rfl
    · cases o2
  · unfold IoR
    cases hd with
    | none =>
      subst k2
      show ∀ (i : Nat) (s : Sl), _ → _
      intro i s e
      cases ho : s.isIo with
      | false => rfl
      | true =>
        have : s.own = true := by cases s <;> first | rfl | cases ho
        obtain ⟨_, c, xs, e2, _⟩ := ownAt i s e this
        cases e2
    | some p =>
      obtain ⟨c, xs⟩ := p
      subst k2
      obtain ⟨w1, w2⟩ := k4 c xs rfl
      have hlt : 0 < sl.length := lt_of_get w1
      refine ⟨⟨xs, by rw [List.getElem?_append_left hlt]; exact w1⟩, atσ _ _ w2, fun i ys e => (ownAt i _ e rfl).1⟩
  · obtain ⟨rfl, c, xs, e3, z3, rfl⟩ := ownAt i s e o
    rw [z3] at q; cases q
    rw [k2, e3]; rfl
end

/-- what a module holds of a def -/
structure FnM (P : Program) (w : World) (K : PySem.W.Frag) (mg : Str → Option Value) (base : Heap) (CT : Nat → Addr) (k : Nat) (sig : Sig) (φ : List T → FR) (name : Str) : Prop where
  ex : ∃ (fa : Addr) (fd : FuncData) (ps : List Str), mg name = some (.ref fa) ∧ PySem.W.keepIn K (.ref fa) = true ∧ Binds K fd ps [] ∧ FnOk P w K mg base (L2.CX P w) k fa fd ps (spF K CT sig φ)
/-- what a class's call makes, at every context of the module -/
def MkM (P : Program) (w : World) (K : PySem.W.Frag) (mg : Str → Option Value) (base : Heap) (CT : Nat → Addr) (k : Nat) (f : List T → Option Exc) (x : Str) : Prop :=
  ∀ (X : Cx) (W : WX) (sg : Nat → Sig) (Φ : Nat → List T → FR), X.prog = P → X.w = w → X.K = K → X.mg = mg → X.base = base → X.calm = true → Room k X.A → (∀ σ, PassesAt (L2.CX X.prog X.w) X σ (WE W σ)) →
    ∀ (es : List Expr) (l : E) (io : Fx) (p pos : Pos), es ≠ [] → PA X es (tV X.K io CT W sg Φ l) → (∀ e ∈ es, noStar e = true) → Gl X x →
    PMk X (.Call (.Name x p) es [] pos) (fun σ H Q => ∃ G en, SR X.K io G H σ en ∧ Run X.K io CT W σ G H (Own en σ) (evV sg Φ l en) fun ts en' G' H' =>
      ∃ xx, f ts = some xx ∧ ∀ G'' H'' cv d, SR X.K io G'' H'' σ en' → Ext G' H' (Own en' σ) G'' H'' (Own en' σ) → XR X.K G'' H'' CT xx cv d → Q cv d H'')
/-- a module's facts at a def -/
structure ModM (P : Program) (w : World) (K : PySem.W.Frag) (mg : Str → Option Value) (base : Heap) (c : Cfg) (CT : Nat → Addr) (sg : Nat → Sig) (Φ : Nat → List T → FR) (mk : Nat → List T → Option Exc) (k : Nat) : Prop where
  bn : ∀ x ∈ BN, mg x = none
  cn : ∀ x t, c.CN.lookup x = some t → ∃ v u, mg x = some u ∧ RelV v u ∧ ∀ G, VR K G v t
  fn : ∀ i x, i ∈ c.ok → c.FT[i]? = some x → FnM P w K mg base CT k (sg i) (Φ i) x
  mkc : ∀ i x, c.KT[i]? = some x → MkM P w K mg base CT k (mk i) x
section
variable {P : Program} {w : World} {K : PySem.W.Frag} {mg : Str → Option Value} {base : Heap} {c : Cfg} {CT : Nat → Addr} {sg : Nat → Sig} {Φ : Nat → List T → FR} {mk : Nat → List T → Option Exc} {k : Nat}
theorem goodS {N : List Str} {qual : Str} {sc : Scope} {f : Addr} {cd : Value} {A : Around} {outer : List PySem.Env} {s : Shared} {H : Hp} {E : XK} {ps : List Str} (M : ModM P w K mg base c CT sg Φ mk k) (hN : N = c.N) (S : FnScope N ps sc)
    (r : Room k (A.deeper (envOfC qual sc s.heap.objs.size f cd))) : GoodS c CT sg Φ mk (fun cls d _ H => E cls d H) (cxOf (L2.CX P w) P w K mg base N qual sc f cd A outer s H E) := by
  have tk : Takes (cxOf (L2.CX P w) P w K mg base N qual sc f cd A outer s H E) (fun cls d _ H => E cls d H) := takes_of rfl rfl rfl rfl
  exact
  { g :=
    { nd := S.nd, N := hN, calm := rfl, room := r.mono (Nat.zero_le _), bn := M.bn, cn := M.cn, pass := fun σ => passAt tk σ
      fn := fun i x hi hx => by
        obtain ⟨fa, fd, ps, h1, h2, h3, h4⟩ := (M.fn i x hi hx).ex
        exact ⟨fa, fd, k, ps, h1, h2, h3, h4, r⟩ }
    takes := tk
    pown := passes_of rfl
    fn := fun _ => rfl
    kind := S.kind
    mkc := fun i x hx es l io p pos => M.mkc i x hx _ _ sg Φ rfl rfl rfl rfl rfl rfl r (fun σ => passAt tk σ) es l io p pos }
theorem spF_len {sig : Sig} {φ : List T → FR} {ps : List Str} (hp : ps.length = sig.ar) (vs : List V) (H : Hp) (Q : VK) (E : XK) (h : spF K CT sig φ vs H Q E) : vs.length = ps.length := by
  obtain ⟨G, a, ts, _, h, _⟩ := h
  rw [hp]; exact h.len
/-- the body's reading from the promise -/
theorem body_ok {sig : Sig} {ir : S} {φ : List T → FR} {N : List Str} {W : WX} (hN : sig.ar ≤ N.length)
    (hφ : ∀ ts, φ ts ≠ .bad → ∃ F, evD sg Φ mk F sig ⟨N.length, ir⟩ ts = φ ts) {vs : List V} {H : Hp} {Q : VK} {E : XK} (h : spF K CT sig φ vs H Q E) :
    ∃ a F, tS K ⟨a, H⟩ CT (fun cls d _ H => E cls d H) sg Φ mk F ir { nx := fun _ H' => Q .non H', rt := Q } (L2.start N vs) H := by
  obtain ⟨G, a, ts, gh, har, hq⟩ := h
  have nb : φ ts ≠ .bad := fun e => by rw [e] at hq; exact hq
  obtain ⟨F, hF⟩ := hφ ts nb
  obtain ⟨s0, own0⟩ := start_sr (N := N) har gh hN
  refine ⟨a, F, G, _, s0, ?_⟩
  have aft : ∀ {en : Env} {σ' : L2.St} {G' H' : Hp}, SR K ⟨a, H⟩ G' H' σ' en → Ext G H (Own (slotsOf sig.io sig.md ts ++ List.replicate (N.length - (slotsOf sig.io sig.md ts).length) .no) (L2.start N vs)) G' H' (Own en σ') → Aft1 K G H a G' H' (ioEnd sig en) := fun {en σ' G' H'} s x => by
    have hio : ∀ d, a = some d → ∃ ys, en[(0 : Nat)]? = some (.io ys) ∧ G' d = none ∧ ∃ ws, H' d = some (.lst ws) ∧ VRs K G' ws ys := fun d e => by
      have rio := s.iok
      unfold IoR at rio
      rw [e] at rio
      obtain ⟨⟨ys, k1⟩, k2, _⟩ := rio
      obtain ⟨b, ws, e1, e2, e3, e4⟩ := s.sl 0 _ k1
      rw [k2] at e1; cases e1
      exact ⟨ys, k1, e2, ws, e3, e4⟩
    refine ⟨x.same, s.same, fun b o hb n => x.keep b o hb fun z => n b (own0 b z) rfl, fun b z => ?_, fun d e => ?_⟩
    · rcases x.frz b z with y | y | y
      · exact .inl y
      · exact .inr y
      · obtain ⟨ys, _, e2, _⟩ := hio b (own0 b y)
        exact absurd e2 z
    · obtain ⟨ys, k1, e2, ws, e3, e4⟩ := hio d e
      refine ⟨e2, ws, e3, ?_⟩
      have : sig.io = true := by
        unfold ArgsR at har
        split at har
        · assumption
        · rw [har.1] at e; cases e
      unfold ioEnd
      rw [if_pos this, k1]
      exact e4
  unfold evD at hF
  simp only at hF
  cases e : evS sg Φ mk F ir (slotsOf sig.io sig.md ts ++ List.replicate (N.length - (slotsOf sig.io sig.md ts).length) .no) with
  | nx en =>
    simp only [e] at hF
    rw [← hF] at hq
    exact fun σ' G' H' s x => hq G' H' .non (aft s x) .non
  | rt r en =>
    simp only [e] at hF
    rw [← hF] at hq
    refine fun σ' G' H' v s x rr => hq G' H' v (aft s x) ?_
    cases r with
    | fz t => exact rr
    | plc i => exact rr.elim
    | ol xs =>
      obtain ⟨p, ws, rfl, h1, h2, h3, h4, h5, h6⟩ := rr
      refine ⟨p, ws, rfl, ?_, h2, h1, h3⟩
      rcases h4 with h4 | h4
      · exact h4
      · exact absurd (own0 p h4) h6
  | bk en => simp only [e] at hF; exact absurd hF.symm nb
  | ct en => simp only [e] at hF; exact absurd hF.symm nb
  | bad => simp only [e] at hF; exact absurd hF.symm nb
  | ex y en =>
    simp only [e] at hF
    rw [← hF] at hq
    exact fun σ' G' H' cv d s x xr => hq G' H' cv d (aft s x) xr
/-- A DEF by its evaluation -/
theorem def_ok {x qual : Str} {params : Arguments} {body : List Stmt} {sc : Scope} {dvs : List V} {kws : List (Str × V)} {f : Addr} {fd : FuncData} {ps : List Str} {sig : Sig} {ir : S} {n : Nat} {φ : List T → FR}
    (Fn : FunD K x qual params body sc dvs kws f fd) (S : FnScope c.N ps sc) (M : ModM P w K mg base c CT sg Φ mk k) (hp : ps.length = sig.ar) (hir : toSs c n sc body = some ir)
    (hφ : ∀ ts, φ ts ≠ .bad → ∃ F, evD sg Φ mk F sig ⟨c.N.length, ir⟩ ts = φ ts) : FnOk P w K mg base (L2.CX P w) (k + 1) f fd ps (spF K CT sig φ) := by
  refine Fn.ok S (spF_len hp) fun cdv A outer s H vs Q E hr h => ?_
  have hN : sig.ar ≤ c.N.length := by
    have := congrArg List.length S.pre
    rw [List.length_take] at this
    omega
  obtain ⟨a, F, hb⟩ := body_ok (sg := sg) (Φ := Φ) (mk := mk) (W := fun cls d _ H => E cls d H) (N := c.N) hN hφ h
  exact ⟨_, sSs (goodS M rfl S hr) ⟨a, H⟩ n sc body ir hir rfl, hb⟩
end
end Ev

set_option Elab.async false
set_option linter.all false
set_option autoImplicit false
set_option maxRecDepth 100000
set_option maxHeartbeats 4000000
/-! EvX: own exceptions whose __init__ says super().__init__('text') and keeps its arguments. -/
namespace Ev
open PySem PySem.Spec PyProof.Rows L2 NdefX

/-- ValueError.__init__ bound to the object, called -/
theorem call_mw {prog : Program} {w : World} {A : Around} {E : Value → Shared → Prop} {h : Heap} {g : Array GenState} {d : Drawn} {t : Nat} {os : OsState} {nm q : Str} {C N u e t0 : Addr} {bs bm : List Value} {hdct : Bool} {sn : List Str} {sub : List Value} {ab : Bool} {col : Option Bool}
    {dd : Option Addr} {k0 k1 k2 k3 k5 : Option Value} {rest : List Value} {Q : Value → Shared → Prop} (hC : h.get? C = some (excClassObj nm q C N bs bm hdct sn sub ab col dd k0 k1 k2 k3 k5 "ValueError.__new__")) (he : h.get? e = some ({ cls := .ref C, dict := none, data := .fields #[.ref t0, .none, .none, .none, .bool false, .none] } : Obj))
    (hu : h.get? u = some (PySem.W.kxs_mw "ValueError.__init__" e)) (hrest : rest.length ≤ sizeLine)
    (hq : ∀ h' t1, (∀ b o, b ≠ e → h.get? b = some o → h'.get? b = some o) → h'.get? e = some ({ cls := .ref C, dict := none, data := .fields #[.ref t1, .none, .none, .none, .bool false, .none] } : Obj) → Q .none ⟨h', g, d, t, os⟩) :
    wpAny (model prog w) A (call (.ref u) rest) Q E ⟨h, g, d, t, os⟩ := by
  have FB := F.excBase_ValueError
  refine wpAny_call (codeAny_of_tree ?_)
  show wpAny _ A.in1 (callAny (.ref u) ⟨rest, []⟩) _ _ _
  simp only [callAny]
  refine wpAny_bind (wpAny_load hu ?_)
  simp only [PySem.W.kxs_mw, show (Value.type "method-wrapper" == Value.type "method" || Value.type "method-wrapper" == Value.type "builtin_function_or_method" || Value.type "method-wrapper" == Value.type "method-wrapper") = true by decide, if_true]
  refine PySem.W.KFB.if_so (by decide) ?_
  refine wpAny_bind (PySem.W.check_bound_init FB.toExcCallFacts hC he rfl ?_)
  refine wpAny_bind (wpAny_pure (wpAny_pure ?_))
  refine ⟨plainId_quiet FB.init.plain _, codeAny_builtin FB.initEntry ?_⟩
  rw [Around.under_plainId FB.init.plain _]
  exact PySem.W.exc_init_tree (cls := .ref C) (t0 := t0) (dv := none) (c2 := .none) (c3 := .none) (b4 := .bool false) he hrest fun h' a b _ => hq h' _ a b

theorem ev_mth1 {o e : Expr} {m : Str} {env : PySem.Env} {p2 p4 : Pos} (hl : (p2.endLine == p4.line) = true) (he : noStar e = true) : eval (.Call (.Attribute o m p2) [e] [] p4) env = (do
      let ov ← attributeBase o m env (eval o env)
      standAt p2.atName
      let (f, first) ← holding [ov] (getMethod ov m (do return (← importBound o env).getD true))
      callWith p4 f first (backTo p4 (starEach [e] env)) []) := by
  have hs : starEach [e] env = [(false, eval e env)] := by cases e <;> first | rfl | cases he
  rw [arm_eval_Call]
  refine congrArg _ (funext fun ov => congrArg _ (funext fun _ => ?_))
  unfold methodCall
  have form : methodCallForm ([e].length + ([] : List Keyword).length) (backTo p4 (starEach [e] env)) (backToKw p4 (keywordEach [] env)) = true := by rw [hs]; rfl
  rw [form]
  unfold calleeOf methodCallPos
  rw [hl]
  simp only [Bool.not_true, Bool.false_or, if_true, pure_bind]
  rfl
/-- what the written part says of the class at C, for super() -/
structure SupC (K : PySem.W.Frag) (P : Program) (mg : Str → Option Value) (C f cda cc : Addr) (fd : FuncData) : Prop where
  ox : OexC K C
  fn : ∃ oc od osl, K.lookup f = some ⟨oc, od, .func fd, osl⟩
  fil : ∃ ccl cdd vs ccs file tf, K.lookup cda = some ⟨ccl, cdd, .fields vs, ccs⟩ ∧ vs[2]? = some (.str file tf) ∧ ((P.main.file : Str) == file) = true
  cel : ∃ cl cld csl, K.lookup cc = some ⟨cl, cld, .cell (some (.ref C)), csl⟩
  sub : PySem.W.mroIn K C (.ref C) = some true
  sup : mg "super" = none
  top : (P.main.scope.names.lookup ("super" : Str)).isSome = false
  opq : PySem.W.nsIn K PySem.cStatics "thirdparty.any" = some none
  ini : PySem.W.ks_superIn K C C "__init__" = some (some (.builtin "ValueError.__init__"))
  ve : PySem.W.subIn K (.ref C) (.type "ValueError") = some true

section
variable {X : Cx} {pins : List (Addr × Obj)} {σ : L2.St} {H : Hp} {s : Shared} {C f cda cc a : Addr} {q : Str} {sc : Scope} {body : List Stmt} {self : Str} {ar : Arg} {fd : FuncData} {E : Value → Shared → Prop} {Q : Flow → Shared → Prop} {p0 p1 p2 p3 p4 p5 : Pos} {msg : Str} {j : Nat}
theorem super_stmt (T : SupC X.K X.prog X.mg C f cda cc fd) (I : Inv X [] σ H s) (ea : H a = some (exo a C none)) (henv : X.env = PySem.W.envX q sc X.env.locals f (.ref cda) [("__class__", cc)]) (i : Nat) (hi : X.N[i]? = some ar.arg) (hσ : σ[i]? = some (some (.ref a)))
    (hp : (fd.params.posonlyargs ++ fd.params.args).head? = some ar) (hks : sc.names.lookup ("super" : Str) = some .globalImplicit) (hkc : sc.names.lookup ("__class__" : Str) = some .free) (hka : sc.names.lookup ar.arg = some .local) (hk : sc.kind = .function)
    (hline : (p2.endLine == p4.line) = true) (hq : ∀ s', Inv X [] σ H s' → Q .next s') : _root_.PySem.wpAt (model X.prog X.w) X.A (.func body X.env) (exec (.Expr (.Call (.Attribute (.Call (.Name "super" p0) [] [] p1) "__init__" p2) [.Constant (.str msg) j p3] [] p4) p5) X.env) Q E s := by
  obtain ⟨oc, od, osl, lf⟩ := T.fn
  obtain ⟨ccl, cdd, vs, ccs, file, tf, lcd, hvs, hfile⟩ := T.fil
  obtain ⟨cl, cld, csl, lcc⟩ := T.cel
  obtain ⟨nm, q', N, bs, bm, sn, sub, ab, col, dd, k0, k1, k2, k3, k5, hC, hbm⟩ := T.ox.cls
  have hcl : PySem.W.clsIn X.K C = some { name := nm, bases := bs, mro := .ref C :: bm, ns := N, qualname := q', hasDict := true, slotNames := sn, subclasses := sub, abstract := ab, collection := col, hasDel := false } := by unfold PySem.W.clsIn; rw [hC] <;> rfl
  have KI := I.kIn
  obtain ⟨m, hn, hl⟩ := I.loc
  have hx : m ar.arg = some (.ref a) := by
    have kd : X.env.kindOf ar.arg = some .local := by rw [henv]; exact hka
    obtain ⟨u, ru, lk⟩ := hl i ar.arg _ hi hσ (.inl (by rw [henv]; exact hka))
    obtain rfl : u = Value.ref a := ru
    rcases lk with ⟨_, z⟩ | ⟨z, _⟩
    · exact z
    · rw [kd] at z; rcases z with z | z <;> cases z
  have ks' : X.env.kindOf "super" = some .globalImplicit := by rw [henv]; exact hks
  have kc' : X.env.kindOf "__class__" = some .free := by rw [henv]; exact hkc
  have ka' : X.env.kindOf ar.arg = some .local := by rw [henv]; exact hka
  have kk' : X.env.scope.kind = .function := I.ok.kind
  obtain ⟨t1, ho⟩ := exo_at I.hok ea
  have haC : a ≠ C := fun z => by
    rw [z, KI _ _ hC] at ho
    cases ho
  refine PySem.ks_wpAt_Expr_any ?_ I.quiet rfl
  refine PySem.ks_wpAt_MethodCall ?_ (ev_mth1 hline rfl)
  refine PySem.ks_wpAt_super_base ks' kc' (by decide) (by rw [henv]) (KI _ _ lf) rfl hp (by rw [henv]) (KI _ _ lcd) rfl hvs hfile T.top ?_
  obtain ⟨hp0, g, d, tk, os⟩ := s
  have hoC : hp0.get? C = some (excClassObj nm q' C N bs bm true sn sub ab col dd k0 k1 k2 k3 k5 "ValueError.__new__") := KI _ _ hC
  obtain ⟨mb, hb1, hb2⟩ := I.mod.blt
  refine PySem.W.ks_loadName_global kk' ks' (Calls.loadGlobal_builtin (by rw [I.ok.glob]; exact I.mod.glob.keeps I.bk) T.sup (by rw [I.ok.blt]; exact hb1.keeps I.bk) ((hb2 "super" (by decide)).trans (show bootBuiltins "super" = some (.type "super") by kernel_rfl)) ⟨rfl, ?_⟩)
  refine wpAny_loadName_free kk' kc' (c := cc) (v := .ref C) (by rw [henv]; rfl) ⟨_, KI _ _ lcc, rfl⟩ ?_
  refine wpAny_loadName_local kk' ka' hn hx ?_
  refine PySem.ks_wpAny_isType_cls hoC rfl ⟨rfl, ?_⟩
  refine PySem.ks_wpAny_call_super hoC rfl ho rfl (fun c e => by cases e) (PySem.W.looks_mroIn KI T.sub) (fun h1 e1 kp1 => ?_)
  have K1 : X.K.In h1 := fun b o z => kp1 b o (KI b o z)
  have I1 : Inv X [] σ H ⟨h1, g, d, tk, os⟩ := I.kept (h' := h1) (t' := tk) kp1
  have ini := T.ini
  unfold PySem.W.ks_superIn at ini
  rw [hcl] at ini
  have hI : PySem.W.Looks (model X.prog X.w) h1 (isInstance (.ref a) (.type "ValueError")) true := (PySem.W.InstAt.type (ox := { cls := .ref C, dict := none, data := .fields #[.ref t1, .none, .none, .none, .bool false, .none] }) (od := none) ⟨kp1 _ _ ho, rfl, rfl, trivial⟩).andThen (PySem.W.looks_subIn K1 T.ve)
  refine PySem.W.kxs_getMethod PySem.W.kxs_ValueError e1 (PySem.W.looks_opaque K1 T.opq) (l₀ := .ref C :: bm) ((PySem.W.looks_clsIn K1 hcl).andThen .now) rfl K1 ini hI haC (by decide) ?_
  have kp2 : ∀ b o, h1.get? b = some o → (h1.push (PySem.W.kxs_mw "ValueError.__init__" a)).get? b = some o := fun b o z => Heap.get?_push_of_some _ z
  have I2 : Inv X [] σ H ⟨h1.push (PySem.W.kxs_mw "ValueError.__init__" a), g, d, tk + 1, os⟩ := I1.kept (t' := tk + 1) kp2
  have hu : (h1.push (PySem.W.kxs_mw "ValueError.__init__" a)).get? h1.objs.size = some (PySem.W.kxs_mw "ValueError.__init__" a) := Heap.get?_push_size _ rfl
  refine PySem.W.kxs_callWith (i := "ValueError.__init__") (x := a) (by rfl) ?_
  show wpAny _ _ (evalArgs _ true ((false, eval (.Constant (.str msg) j p3) X.env) :: []) []) _ _ _
  refine Calls.evalArgs_plain (Calls.spliced_cons (Calls.Constant_str (Calls.spliced_nil ⟨hu, ?_⟩)))
  have I3 := I2.tok (tk + 1 + 1)
  refine call_mw (I3.kIn _ _ hC) (kp2 _ _ (kp1 _ _ ho)) hu (by rw [sizeLine_eq]; simp) fun h' t2 k hx => ?_
  have J := I3.write (t' := tk + 1 + 1) (x := a) (e := a) (o := exo a C none) (by rw [ea]; exact True.intro) (.inl rfl) k ⟨_, hx⟩ (exo_ok hx)
  have eu : upd H a (exo a C none) = H := by
    funext b
    by_cases hb : b = a
    · rw [hb, upd_same, ea]
    · rw [upd_ne hb]
  rw [eu] at J
  exact hq _ J
end
/-! ### the __init__ -/
def iniA (N : List Str) (self : Str) : List Stmt → Option (List (Str × Nat))
  | [] => some []
  | .Assign [.Attribute (.Name o _) f _] (.Name x _) _ :: r => if o = self then (findIx N x).bind fun i => (iniA N self r).map ((f, i) :: ·) else none
  | _ => none
def iniB (N : List Str) (self : Str) : List Stmt → Option (List (Str × Nat))
  | .Expr (.Call (.Attribute (.Call (.Name s _) [] [] _) i p2) [.Constant (.str _) _ _] [] p4) _ :: r => if s = "super" ∧ i = "__init__" ∧ (p2.endLine == p4.line) = true then iniA N self r else none
  | _ => none
def tRest (K : PySem.W.Frag) : List (Str × Nat) → TS
  | [] => fun D σ H => D.nx σ H
  | (f, i) :: r => fun D σ H => tOst K f (tVar 0) (tVar i) { D with nx := tRest K r D } σ H
def fsOf (l : List (Str × Nat)) (vs : List V) : List (Str × V) := (l.map fun p => (p.1, vs.getD p.2 .non)).reverse
theorem rest_ok {X : Cx} {self : Str} {N : List Str} (hN : X.N = N) (h0 : N[0]? = some self) (par : ∀ x ∈ N, x ∈ N → X.env.scope.names.lookup x = some .local ∨ x = "__class__") (hs : self ≠ "__class__") (pl : ∀ x ∈ N, plainN x = true) :
    ∀ (rest : List Stmt) (l : List (Str × Nat)), iniA N self rest = some l → (∀ p ∈ l, N[p.2]? ≠ some ("__class__" : Str)) → PSs X rest (tRest X.K l)
  | [], l, h, _ => by
    simp only [iniA, Option.some.injEq] at h
    subst h
    exact pss_nil.imp fun D σ H h => h
  | st :: r, l, h, hl => by
    unfold iniA at h
    split at h
    · rename_i heq
      cases heq
    · rename_i o p1 f p2 x p3 p4 r' heq
      cases heq
      split at h
      · rename_i ho
        subst ho
        simp only [Option.bind_eq_some_iff, Option.map_eq_some_iff] at h
        obtain ⟨i, hi, l', hl', rfl⟩ := h
        have ei := findIx_at hi
        have nx : x ≠ "__class__" := fun e => hl (f, i) (List.mem_cons_self ..) (by rw [ei, e])
        have mx : x ∈ N := List.mem_of_getElem? ei
        have mo : o ∈ N := List.mem_of_getElem? h0
        have vx : Vis X.env.scope x := .inl ((par x mx mx).resolve_right nx)
        have vo : Vis X.env.scope o := .inl ((par o mo mo).resolve_right hs)
        refine (pss_cons (ps_ost (pe_var (by rw [hN]; exact h0) vo (plainN_of (pl o mo)).1 (plainN_of (pl o mo)).2) (pe_var (by rw [hN]; exact ei) vx (plainN_of (pl x mx)).1 (plainN_of (pl x mx)).2)) (rest_ok hN h0 par hs pl r l' hl' fun p hp => hl p (List.mem_cons_of_mem _ hp))).imp fun D σ H h => ?_
        exact h
      · cases h
    · cases h
theorem tRest_more {K : PySem.W.Frag} {C a dx : Addr} {σ : L2.St} {vs : List V} (T : OexC K C) (h0 : σ[(0 : Nat)]? = some (some (.ref a))) (hv : ∀ (i : Nat) (v : V), vs[i]? = some v → σ[i]? = some (some v)) :
    ∀ (l : List (Str × Nat)) (H : Hp) (fs : List (Str × V)) (D : Ends), (∀ p ∈ l, p.2 < vs.length ∧ PySem.W.findIn K (.ref C) p.1 = some none) → H a = some (exo a C (some dx)) → H dx = some (exd dx fs) → fs.length + l.length ≤ 900 → dx ≠ a →
      (∀ H', (∀ b, b ≠ dx → H' b = H b) → H' dx = some (exd dx (fsOf l vs ++ fs)) → D.nx σ H') → tRest K l D σ H
  | [], H, fs, D, _, _, hd, _, _, k => k H (fun _ _ => rfl) hd
  | (f, i) :: r, H, fs, D, hl, ha, hd, hz, hda, k => by
    obtain ⟨hi, hf⟩ := hl (f, i) (List.mem_cons_self ..)
    have ev : vs[i]? = some vs[i] := List.getElem?_eq_getElem hi
    refine ⟨vs[i], hv i _ ev, .ref a, h0, a, C, rfl, T, hf, .inr ⟨dx, fs, ha, hd, by simp at hz; omega, ?_⟩⟩
    refine tRest_more T h0 hv r _ ((f, vs[i]) :: fs) D (fun p hp => hl p (List.mem_cons_of_mem _ hp)) (by rw [upd_ne (Ne.symm hda)]; exact ha) upd_same (by simp at hz ⊢; omega) hda fun H' e1 e2 => k H' (fun b nb => by rw [e1 b nb, upd_ne nb]) ?_
    rw [e2]
    congr 1
    unfold fsOf
    have eg : vs.getD i .non = vs[i] := by rw [List.getD_eq_getElem?_getD, ev]; rfl
    rw [List.map_cons, List.reverse_cons, List.append_assoc, eg]
    rfl
/-- what C(..)'s own __init__ does -/
def spI (C : Addr) (n : Nat) (l : List (Str × Nat)) : Sp := fun vs H Q _ => ∃ (a : Addr) (ws : List V), vs = .ref a :: ws ∧ vs.length = n ∧ H a = some (exo a C none) ∧
  ∀ dx H', H dx = none → dx ≠ a → (∀ b, b ≠ a → b ≠ dx → H' b = H b) → H' a = some (exo a C (some dx)) → H' dx = some (exd dx (fsOf l vs)) → Q .non H'
theorem tRest_new {K : PySem.W.Frag} {C a : Addr} {σ : L2.St} {vs : List V} (T : OexC K C) (h0 : σ[(0 : Nat)]? = some (some (.ref a))) (hv : ∀ (i : Nat) (v : V), vs[i]? = some v → σ[i]? = some (some v)) {l : List (Str × Nat)} {H : Hp} {D : Ends} (hne : l ≠ []) (hz : l.length ≤ 900)
    (hl : ∀ p ∈ l, p.2 < vs.length ∧ PySem.W.findIn K (.ref C) p.1 = some none) (ha : H a = some (exo a C none))
    (k : ∀ dx H', H dx = none → dx ≠ a → (∀ b, b ≠ a → b ≠ dx → H' b = H b) → H' a = some (exo a C (some dx)) → H' dx = some (exd dx (fsOf l vs)) → D.nx σ H') : tRest K l D σ H := by
  cases l with
  | nil => exact absurd rfl hne
  | cons p r =>
    obtain ⟨f, i⟩ := p
    obtain ⟨hi, hf⟩ := hl (f, i) (List.mem_cons_self ..)
    have ev : vs[i]? = some vs[i] := List.getElem?_eq_getElem hi
    refine ⟨vs[i], hv i _ ev, .ref a, h0, a, C, rfl, T, hf, .inl ⟨ha, fun dx nd nda => ?_⟩⟩
    refine tRest_more T h0 hv r _ [(f, vs[i])] D (fun p hp => hl p (List.mem_cons_of_mem _ hp)) upd_same (by rw [upd_ne nda]; exact upd_same) (by simp at hz ⊢; omega) nda fun H' e1 e2 => k dx H' nd nda (fun b n1 n2 => by rw [e1 b n2, upd_ne n1, upd_ne n2]) (by rw [e1 a (Ne.symm nda)]; exact upd_same) ?_
    rw [e2]
    congr 1
    unfold fsOf
    have eg : vs.getD i .non = vs[i] := by rw [List.getD_eq_getElem?_getD, ev]; rfl
    rw [List.map_cons, List.reverse_cons, eg]
section
variable {P : Program} {w : World} {K : PySem.W.Frag} {mg : Str → Option Value} {base : Heap}
/-- C's __init__ keeps its promise -/
theorem init_ok {CX : CXT} {C f cda cc : Addr} {name qual : Str} {params : Arguments} {body : List Stmt} {sc : Scope} {kV doc pm ct : Value} {an : Option Addr} {ps : List Str} {ar : Arg} {l : List (Str × Nat)} {k : Nat}
    (T : SupC K P mg C f cda cc (PySem.W.fnX name qual params body sc [("__class__", cc)] .none kV doc pm an (.ref cda) ct)) (hcd : PySem.W.codeIn K (.ref cda) qual = true)
    (S : NScope (ps ++ [("__class__" : Str)]) ps ["__class__"] sc) (hp : (params.posonlyargs ++ params.args).head? = some ar) (h0 : ps[0]? = some ar.arg) (hks : sc.names.lookup ("super" : Str) = some .globalImplicit)
    (pl : ∀ x ∈ ps, plainN x = true) (hb : iniB (ps ++ [("__class__" : Str)]) ar.arg body = some l) (hne : l ≠ []) (hz : l.length ≤ 900) (hl : ∀ p ∈ l, p.2 < ps.length ∧ PySem.W.findIn K (.ref C) p.1 = some none) :
    FnOk P w K mg base CX (k + 1) f (PySem.W.fnX name qual params body sc [("__class__", cc)] .none kV doc pm an (.ref cda) ct) ps (spI C ps.length l) := by
  refine ⟨fun vs H Q E h => by obtain ⟨a, ws, rfl, e, _⟩ := h; exact e, fun A outer s H args us vs Q E hr e0 hbd r hsp => ?_⟩
  obtain ⟨a, ws, rfl, hlen, ha, hq⟩ := hsp
  have KX : K.In s.heap := e0.mod.kin.keeps fun b o e => (e0.bs b o e).1
  have lim : s.heap.NoLimit := e0.mod.nolimit.keeps fun b o e => (e0.bs b o e).1
  obtain ⟨oc, od, osl, lf⟩ := T.fn
  obtain ⟨cl, cld, csl, lcc⟩ := T.cel
  refine codeAny_call_function hr.depth (KX _ _ lf) rfl S.co S.gen rfl (PySem.W.codeRec_of KX hcd) (hbd _ _ _ _ ?_)
  refine wpAny_newFunctionEnv S.nocell (fun ⟨n, _⟩ hy => S.par n (List.of_mem_zip hy).1) (fun h₁ hns hsb => ⟨lim.fresh _ hsb, ?_⟩) S.kind
  let F : NF := ⟨name, qual, params, body, sc, [("__class__", cc)], cda⟩
  show codeAny _ _ (.func F.body (envF F f s.heap.objs.size)) _ _
  refine PySem.ks_codeAny_funcAt ?_
  have kp : ∀ b o, s.heap.get? b = some o → h₁.get? b = some o := fun b o e => hsb.extBut b o (Nat.ne_of_lt (Heap.lt_size e)) (Heap.get?_push_of_some _ e)
  have inb : base.get? cc = some ⟨cl, cld, .cell (some (.ref C)), csl⟩ := e0.mod.kin _ _ lcc
  have CA : CellsAt F.cl ["__class__"] [(none : Option V)] s.heap H := by
    have one : ∀ {y c}, ([("__class__", cc)] : List (Str × Addr)).lookup y = some c → c = cc ∧ y = "__class__" := fun {y c} e => by
      by_cases hy : y = "__class__"
      · subst hy; simp [List.lookup] at e; exact ⟨e.symm, rfl⟩
      · have : (y == ("__class__" : Str)) = false := by simpa using hy
        simp [List.lookup, this] at e
    refine ⟨rfl, fun y c e => ?_, fun x y c e1 e2 => (one e1).2.trans (one e2).2.symm, fun i y e => ?_⟩
    · obtain ⟨rfl, _⟩ := one e
      exact ⟨(e0.bs _ _ inb).2, _, _, KX _ _ lcc, rfl⟩
    · cases i with
      | zero =>
        simp at e
        subst e
        exact ⟨cc, by simp [F, List.lookup], fun v hv => by simp at hv⟩
      | succ i => simp at e
  have I : Inv (ncx CX P w K mg base (ps ++ [("__class__" : Str)]) F f A outer s H E) [] (startF (ps ++ [("__class__" : Str)]) (.ref a :: ws) [none]) H { s with heap := h₁, toks := s.toks + (ps.zip us).length } := inv_startN S hr.hd e0 hlen r CA hns kp
  have hσ : ∀ (i : Nat) (v : V), (V.ref a :: ws)[i]? = some v → (startF (ps ++ [("__class__" : Str)]) (.ref a :: ws) [none])[i]? = some (some v) := fun i v e => by
    unfold startF
    rw [List.getElem?_append_left (by rw [List.length_map]; exact lt_of_get e), List.getElem?_map, e]
    rfl
  have hN0 : (ps ++ [("__class__" : Str)])[0]? = some ar.arg := by
    rw [List.getElem?_append_left (lt_of_get h0)]; exact h0
  have ncls : ∀ x ∈ ps, x ≠ "__class__" := fun x hx e => by
    have nd := S.nd
    rw [List.nodup_append] at nd
    exact nd.2.2 x hx "__class__" (by simp) e
  -- the body
  unfold iniB at hb
  split at hb
  · rename_i s1 q0 q1 i1 q2 m1 j1 q3 q4 q5 r'
    split at hb
    · rename_i hc
      obtain ⟨rfl, rfl, hline⟩ := hc
      have fin : ∀ {σ' : L2.St} {H' : Hp} {s' : Shared} {v : V} {u : Value}, Inv (ncx CX P w K mg base (ps ++ [("__class__" : Str)]) F f A outer s H E) [] σ' H' s' → L2.RelV v u → Q v H' → CE outer P w H s Q u s' :=
        fun {σ' H' s' v u} J rv q => ⟨v, H', J.os, J.bare, J.base, J.hok, rv, q⟩
      refine PySem.ks_wpAt_execs_cons ?_
      refine super_stmt (X := ncx CX P w K mg base (ps ++ [("__class__" : Str)]) F f A outer s H E) T I ha rfl 0 hN0 (hσ 0 _ rfl) hp hks (S.frk _ (by simp)) (S.par _ (List.mem_of_getElem? h0)) S.kind hline fun s' J => ?_
      have cl0 : ∀ p ∈ l, (ps ++ [("__class__" : Str)])[p.2]? ≠ some ("__class__" : Str) := fun p hp e => by
        have hlt := (hl p hp).1
        rw [List.getElem?_append_left hlt] at e
        exact ncls _ (List.mem_of_getElem? e) rfl
      have R := rest_ok (X := ncx CX P w K mg base (ps ++ [("__class__" : Str)]) F f A outer s H E) (self := ar.arg) rfl hN0 (fun x hx _ => by
          rcases List.mem_append.mp hx with hx | hx
          · exact .inl (S.par x hx)
          · simp at hx; exact .inr hx) (ncls _ (List.mem_of_getElem? h0)) (fun x hx => by
          rcases List.mem_append.mp hx with hx | hx
          · exact pl x hx
          · simp at hx; subst hx; decide) r' l hb cl0
      refine PySem.wpAt_of_wpAny (wpAny_mono (R.run [] s' _ H { nx := fun _ H' => Q .non H', rt := Q } J ?_) (fun fl s2 hs => ?_) fun e s2 hs => hs)
      · exact tRest_new T.ox (hσ 0 _ rfl) hσ hne hz (fun p hp => ⟨by rw [hlen]; exact (hl p hp).1, (hl p hp).2⟩) ha fun dx H' a1 a2 a3 a4 a5 => hq dx H' a1 a2 a3 a4 a5
      · cases fl with
        | ret u =>
          obtain ⟨v, σ', H', J, rv, q⟩ := hs
          exact fin J rv q
        | next =>
          obtain ⟨σ', H', J, q⟩ := hs
          exact fin (v := V.non) (u := Value.none) J rfl q
        | brk =>
          obtain ⟨_, _, _, q⟩ := hs
          exact False.elim q
        | cont =>
          obtain ⟨_, _, _, q⟩ := hs
          exact False.elim q
    · cases hb
  · cases hb
end
end Ev

set_option Elab.async false
set_option linter.all false
set_option autoImplicit false
set_option maxRecDepth 100000
set_option maxHeartbeats 4000000
/-! EvY: making own exceptions; the head's facts. -/
namespace Ev
open PySem PySem.Spec PyProof.Rows L2 NdefX

/-- what C(..) makes: n parameters (self too), the fields l -/
def mkO (cls n : Nat) (l : List (Str × Nat)) (ts : List T) : Option Exc := if ts.length + 1 = n then some ⟨cls, (l.map fun p => (p.1, ts.getD (p.2 - 1) .non)).reverse⟩ else none
theorem lookup_cons' {α : Type} (f g : Str) (y : α) (fs : List (Str × α)) : ((f, y) :: fs).lookup g = if g = f then some y else fs.lookup g := by
  by_cases h : g = f
  · subst h
    simp [List.lookup]
  · have e : (g == f) = false := by simpa using h
    rw [if_neg h]
    simp [List.lookup, e]
theorem look_rel {K : PySem.W.Frag} {G : Hp} {ws : List V} {ts : List T} {a : V} (h : VRs K G ws ts) : ∀ (L : List (Str × Nat)), (∀ p ∈ L, 1 ≤ p.2 ∧ p.2 < ws.length + 1) → ∀ f t, (L.map fun p => (p.1, ts.getD (p.2 - 1) T.non)).lookup f = some t →
    ∃ v, (L.map fun p => (p.1, (a :: ws).getD p.2 V.non)).lookup f = some v ∧ VR K G v t
  | [], _, f, t, e => by simp at e
  | (g, i) :: r, hl, f, t, e => by
    rw [List.map_cons, lookup_cons'] at e
    rw [List.map_cons, lookup_cons']
    by_cases hf : f = g
    · rw [if_pos hf] at e ⊢
      obtain ⟨h1, h2⟩ := hl (g, i) (List.mem_cons_self ..)
      obtain ⟨j, rfl⟩ : ∃ j, i = j + 1 := ⟨i - 1, by omega⟩
      have hj : j < ts.length := by rw [← h.length]; omega
      have e2 : t = ts[j] := by
        have := Option.some.inj e
        rw [← this, Nat.add_sub_cancel, List.getD_eq_getElem?_getD, List.getElem?_eq_getElem hj]; rfl
      obtain ⟨v, h3, h4⟩ := h.get (List.getElem?_eq_getElem hj)
      refine ⟨v, ?_, e2 ▸ h4⟩
      rw [List.getD_eq_getElem?_getD, List.getElem?_cons_succ, h3]; rfl
    · rw [if_neg hf] at e ⊢
      exact look_rel h r (fun p hp => hl p (List.mem_cons_of_mem _ hp)) f t e
section
variable {P : Program} {w : World} {K : PySem.W.Frag} {mg : Str → Option Value} {base : Heap} {CT : Nat → Addr}
theorem mk_ok {C f : Addr} {fd : FuncData} {ps : List Str} {l : List (Str × Nat)} {k cls : Nat} {x : Str} (T : OexC K C) (iC : PySem.W.findIn K (.ref C) "__init__" = some (some (.ref f))) (tI : PySem.W.typeIn K (.ref f) = some (.type "function"))
    (F : FnOk P w K mg base (L2.CX P w) k f fd ps (spI C ps.length l)) (hb : Binds K fd ps []) (hm : mg x = some (.ref C)) (hC : CT cls = C) (hl : ∀ p ∈ l, 1 ≤ p.2 ∧ p.2 < ps.length) (hps : ps.length ≤ 1000) (hdb : (x == ("__debug__" : Str)) = false) :
    MkM P w K mg base CT (k + 1) (mkO cls ps.length l) x := by
  intro X W sg Φ hP hw hK hmg hbs hc hr hpass es l' io p pos hne ha hns hg pins s σ H Q I h
  subst hP hw hK hmg hbs
  match es, hne with
  | e :: r, _ =>
    refine pmk_oex (CX := L2.CX X.prog X.w) T iC tI F hr hb .nil passL hg hm ha hdb (star_cons (hns e (List.mem_cons_self ..))) (star_plain fun e he => hns e (List.mem_cons_of_mem _ he)) pins s σ H Q I ?_
    obtain ⟨G, en, sr, h⟩ := h
    refine ⟨G, en, sr, h.imp fun ts en1 G1 H1 s1 x1 h vs rvs => ?_⟩
    obtain ⟨xx, hx, h⟩ := h
    unfold mkO at hx
    split at hx
    · rename_i hlen
      cases hx
      have hvl := rvs.length
      refine ⟨by omega, fun a na => ⟨a, vs ++ [], rfl, by simp; omega, upd_same, fun dx H2 nd nda e1 e2 e3 => ?_⟩⟩
      have n1 : H1 dx = none := by rw [upd_ne nda] at nd; exact nd
      refine ⟨rfl, dx, _, e2, e3, n1, ?_⟩
      have old : ∀ b, b ≠ a → b ≠ dx → (upd (del H2 a) dx (.xd (fsOf l (.ref a :: (vs ++ []))))) b = H1 b := fun b q1 q2 => by
        rw [upd_ne q2, del_ne q1, e1 b q1 q2, upd_ne q1]
      have al : Al G1 H1 G1 (upd (del H2 a) dx (.xd (fsOf l (.ref a :: (vs ++ []))))) := by
        have sameH : Same H1 (upd (del H2 a) dx (.xd (fsOf l (.ref a :: (vs ++ []))))) := fun b o q => by rw [old b (ne_of_none q na) (ne_of_none q n1)]; exact q
        exact ⟨Same.refl _, sameH, s1.same.trans sameH, fun b z => .inl z⟩
      refine h G1 _ (.ref C) (some dx) (s1.al al) (s1.extAl al) ⟨by rw [hC], dx, _, rfl, upd_same, fun f t ht => ?_⟩
      rw [List.append_nil]
      unfold fsOf
      rw [← List.map_reverse] at ht ⊢
      exact look_rel (rvs.mono al.same) l.reverse (fun p hp => by
        have := hl p (List.mem_reverse.mp hp)
        exact ⟨this.1, by omega⟩) f t ht
    · cases hx
end

/-! ### the head's facts of such a class -/
structure XD where
  name : Str
  ps : List Str
  qual : Str
  params : Arguments
  body : List Stmt
  scope : Scope
  ar : Arg
  fl : List (Str × Nat)
abbrev FnZ : Type := Option (Str × Str × Arguments × FuncBody × Scope × Addr × Addr)
def initAd (K : PySem.W.Frag) (d : XD) : Addr := He.ma K (He.ga K d.name) "__init__"
def fnZ (K : PySem.W.Frag) (d : XD) : FnZ := match K.lookup (initAd K d) with
  | some ⟨_, _, .func fd, _⟩ => some (fd.name, fd.qualname, fd.params, fd.body, fd.scope, fd.globals, fd.builtins)
  | _ => none
def XD.val (d : XD) : FnZ := some ("__init__", d.qual, d.params, .stmts d.body, d.scope, mainGlobals, builtinsNs)
/-- the class object -/
def oexB (K : PySem.W.Frag) (C : Addr) : Bool := (match K.lookup C with
    | some ⟨.type t, _, .cls cd, sl⟩ => decide (t = "type") && ((match cd.mro with
        | .ref C' :: bm => decide (C' = C) && PySem.HandSPX.refsVE bm
        | _ => false) && (cd.hasDict && (!cd.hasDel && (match sl.toList with
        | [_, _, _, _, some (.builtin n), _] => decide (n = "ValueError.__new__")
        | _ => false))))
    | _ => false) &&
  (He.eqO (PySem.W.findIn K (.ref C) "__setattr__") (some (some (.builtin "object.__setattr__"))) && (decide (PySem.W.subIn K (.ref C) (.type "BaseException") = some true) && (decide (PySem.W.typeIn K (.ref C) = some (.type "type")) && PySem.W.keepIn K (.ref C))))
theorem oexB_ok {K : PySem.W.Frag} {C : Addr} (h : oexB K C = true) : OexC K C := by
  unfold oexB at h
  simp only [Bool.and_eq_true, decide_eq_true_eq] at h
  obtain ⟨h1, h2, h3, h4, h5⟩ := h
  refine ⟨?_, He.eqO_ok h2, h3, h4, h5⟩
  split at h1
  · rename_i t dd cd sl hK
    simp only [Bool.and_eq_true, decide_eq_true_eq, Bool.not_eq_true'] at h1
    obtain ⟨rfl, h6, h7, h8, h9⟩ := h1
    obtain ⟨nm, bs, mro, ns, qn, hd, sn, sb, ab, col, dl⟩ := cd
    dsimp only at h6 h7 h8
    subst h7 h8
    split at h6
    · rename_i C' bm
      simp only [Bool.and_eq_true, decide_eq_true_eq] at h6
      obtain ⟨rfl, h6⟩ := h6
      split at h9
      · rename_i k0 k1 k2 k3 n k5 hs
        simp only [decide_eq_true_eq] at h9
        subst h9
        have es : sl = #[k0, k1, k2, k3, some (.builtin "ValueError.__new__"), k5] := by
          rw [← Array.toArray_toList (xs := sl), hs]
        subst es
        exact ⟨_, _, _, _, _, _, _, _, _, _, _, _, _, _, _, hK, h6⟩
      · cases h9
    · cases h6
  · cases h1
def supB (K : PySem.W.Frag) (file : Str) (d : XD) : Bool :=
  let C := He.ga K d.name
  let f := initAd K d
  (match K.lookup f with
  | some ⟨_, _, .func fd, _⟩ => (match fd.closure, fd.code, fd.defaults with
    | [(n, cc)], .ref cda, .none => decide (n = "__class__") && ((match K.lookup cc with
        | some ⟨_, _, .cell (some (.ref D)), _⟩ => decide (D = C)
        | _ => false) && ((match K.lookup cda with
        | some ⟨_, _, .fields vs, _⟩ => (match (vs[2]? : Option Value) with
          | some (.str fl _) => file == fl
          | _ => false)
        | _ => false) && PySem.W.codeIn K (.ref cda) d.qual))
    | _, _, _ => false)
  | _ => false) && (oexB K C && (He.eqO (PySem.W.nsIn K mainGlobals d.name) (some (some (.ref C))) && (He.eqO (PySem.W.findIn K (.ref C) "__init__") (some (some (.ref f))) && (decide (PySem.W.typeIn K (.ref f) = some (.type "function")) &&
    (decide (PySem.W.mroIn K C (.ref C) = some true) && (He.eqO (PySem.W.nsIn K mainGlobals "super") (some none) && (He.eqO (PySem.W.nsIn K PySem.cStatics "thirdparty.any") (some none) &&
    (He.eqO (PySem.W.ks_superIn K C C "__init__") (some (some (.builtin "ValueError.__init__"))) && (decide (PySem.W.subIn K (.ref C) (.type "ValueError") = some true) && d.fl.all fun p => He.eqO (PySem.W.findIn K (.ref C) p.1) (some none))))))))))
/-- what the text says of it -/
def XD.ok (d : XD) : Bool := nscB (d.ps ++ [("__class__" : Str)]) d.ps [("__class__" : Str)] d.scope && (decide ((d.params.posonlyargs ++ d.params.args).head?.map (·.arg) = some d.ar.arg) && (decide (d.ps[0]? = some d.ar.arg) && (decide (d.scope.names.lookup ("super" : Str) = some .globalImplicit) && (d.ps.all plainN &&
  (decide (iniB (d.ps ++ [("__class__" : Str)]) d.ar.arg d.body = some d.fl) && (!d.fl.isEmpty && (decide (d.fl.length ≤ 900) && (decide (d.ps.length ≤ 1000) && (d.fl.all (fun p => decide (1 ≤ p.2 ∧ p.2 < d.ps.length)) && !(d.name == ("__debug__" : Str)))))))))))
theorem head_arg {l : List Arg} {ar : Str} (h : l.head?.map (·.arg) = some ar) : ∃ a, l.head? = some a ∧ a.arg = ar := by
  cases l with
  | nil => cases h
  | cons a r => exact ⟨a, rfl, Option.some.inj h⟩
section
variable {P : Program} {w : World} {K : PySem.W.Frag} {mg : Str → Option Value} {base : Heap} {CT : Nat → Addr} {h : Heap}
/-- A CLASS of the program, by the head's facts: what its call makes -/
theorem XD.mkM {d : XD} {cls : Nat} (X : K.In h) (G : h.Ns mainGlobals mg) (ok : d.ok = true) (e : fnZ K d = d.val) (c : supB K P.main.file d = true) (hC : CT cls = He.ga K d.name) (top : (P.main.scope.names.lookup ("super" : Str)).isSome = false)
    (hb : ∀ (n : Str) (cl : List (Str × Addr)) (kV doc pm : Value) (an : Option Addr) (cdv ct : Value) (us : List Value), us.length = d.ps.length → bindArgs (PySem.W.fnX n d.qual d.params d.body d.scope cl .none kV doc pm an cdv ct) ⟨us, []⟩ = pure (d.ps.zip us)) :
    MkM P w K mg base CT 2 (mkO cls d.ps.length d.fl) d.name := by
  unfold XD.ok at ok
  simp only [Bool.and_eq_true, decide_eq_true_eq, Bool.not_eq_true', List.all_eq_true] at ok
  obtain ⟨o1, o2, o3, o4, o5, o6, o7, o8, o9, o10, o11⟩ := ok
  obtain ⟨ar, o2, oa⟩ := head_arg o2
  rw [← oa] at o3 o6
  unfold supB at c
  simp only [Bool.and_eq_true, decide_eq_true_eq, List.all_eq_true] at c
  obtain ⟨c1, c2, c3, c4, c5, c6, c7, c8, c9, c10, c11⟩ := c
  have ox := oexB_ok c2
  unfold fnZ at e
  split at c1
  · rename_i oc od fd osl lk
    rw [lk] at e
    obtain ⟨n1, n2, n3, n4, n5, n6, n7, n8, n9, n10, n11, n12, n13, n14, n15⟩ := fd
    have e2 : (some (n1, n2, n3, n4, n5, n6, n15) : FnZ) = some (("__init__" : Str), d.qual, d.params, FuncBody.stmts d.body, d.scope, mainGlobals, builtinsNs) := e
    simp only [Option.some.injEq, Prod.mk.injEq] at e2
    obtain ⟨h1, h2, h3, h4, h5, h6, h7⟩ := e2
    subst h1 h2 h3 h4 h5 h6 h7
    split at c1
    · rename_i n cc cda q1 q2 q3
      dsimp only at q1 q2 q3
      subst q1 q2 q3
      simp only [Bool.and_eq_true, decide_eq_true_eq] at c1
      obtain ⟨rfl, b1, b2, b3⟩ := c1
      split at b1
      · rename_i cl cld D csl lcc
        simp only [decide_eq_true_eq] at b1
        subst b1
        split at b2
        · rename_i ccl cdd vs ccs lcd
          split at b2
          · rename_i file tf hvs
            have SP : SupC K P mg (He.ga K d.name) (initAd K d) cda cc (PySem.W.fnX "__init__" d.qual d.params d.body d.scope [("__class__", cc)] .none n9 n10 n11 n12 (.ref cda) n14) :=
              { ox := ox, fn := ⟨_, _, _, lk⟩, fil := ⟨_, _, _, _, _, _, lcd, hvs, b2⟩, cel := ⟨_, _, _, lcc⟩, sub := c6, sup := PySem.W.mg_none_of X G (He.eqO_ok c7), top := top, opq := He.eqO_ok c8, ini := He.eqO_ok c9, ve := c10 }
            have F := init_ok (w := w) (base := base) (CX := L2.CX P w) (k := 0) SP b3 (nscope_by o1) o2 o3 o4 o5 o6 (by intro z; rw [z] at o7; cases o7) o8 (fun p hp => ⟨by have := o10 p hp; exact this.2, He.eqO_ok (c11 p hp)⟩)
            exact mk_ok (cls := cls) ox (He.eqO_ok c4) c5 F (.all fun us hl => hb _ _ _ _ _ _ _ _ us hl) (PySem.W.mg_of X G (He.eqO_ok c3)) hC o10 o9 o11
          · cases b2
        · cases b2
      · cases b1
    · cases c1
  · cases c1
end
/-! ### the Hook -/
abbrev AlZ : Type := He.AlD × (Bool × List FnZ)
def obsZ (fa : List He.Fa) (fn : List He.DefD) (xs : List XD) (file : Str) (K : PySem.W.Frag) : AlZ := (He.obsD fa fn K, xs.all (fun d => supB K file d && xfB K (He.ga K d.name)), xs.map fun d => fnZ K d)
def valZ (fn : List He.DefD) (xs : List XD) : AlZ := (He.valD fn, true, xs.map XD.val)
def isLst (o : Obj) : Bool := match o.cls with
  | .type n => n == ("list" : Str)
  | _ => false
def noL (g : Addr → Option Obj) (a : Addr) : Option Obj := match g a with
  | some o => if isLst o then none else some o
  | none => none
theorem noL_at {g : Addr → Option Obj} {a : Addr} {o : Obj} (h : noL g a = some o) : g a = some o ∧ isLst o = false := by
  unfold noL at h
  split at h
  · rename_i o' e
    cases hl : isLst o' with
    | true => rw [hl] at h; cases h
    | false => rw [hl] at h; cases h; exact ⟨e, hl⟩
  · cases h
def frZ (n : Nat) (g : Addr → Option Obj) : PySem.W.Frag := He.frG (noL g) (PySem.cStatics :: He.asD g n)
theorem frZ_in {n : Nat} {h : Heap} : (frZ n h.get?).In h := fun _ _ e => (noL_at (He.frG_at _ e)).1
theorem frZ_nol {n : Nat} {g : Addr → Option Obj} {a : Addr} {o : Obj} (e : (frZ n g).lookup a = some o) : isLst o = false := (noL_at (He.frG_at _ e)).2
structure SaysZ (fa : List He.Fa) (fn : List He.DefD) (xs : List XD) (file : Str) (K : PySem.W.Frag) : Prop where
  d : He.SaysD fa fn K
  sup : ∀ d ∈ xs, supB K file d = true
  fz : ∀ d ∈ xs, fnZ K d = d.val
  xf : ∀ d ∈ xs, XfC K (He.ga K d.name)
theorem saysZ_of {fa : List He.Fa} {fn : List He.DefD} {xs : List XD} {file : Str} {K : PySem.W.Frag} (e : obsZ fa fn xs file K = valZ fn xs) : SaysZ fa fn xs file K := by
  have e1 : He.obsD fa fn K = He.valD fn := congrArg (fun z : AlZ => z.1) e
  have e2 : xs.all (fun d => supB K file d && xfB K (He.ga K d.name)) = true := congrArg (fun z : AlZ => z.2.1) e
  have e3 : (xs.map fun d => fnZ K d) = xs.map XD.val := congrArg (fun z : AlZ => z.2.2) e
  exact ⟨e1, fun d hd => (Bool.and_eq_true_iff.mp (List.all_eq_true.mp e2 d hd)).1, fun d hd => List.map_inj_left.mp e3 d hd, fun d hd => xfB_ok (Bool.and_eq_true_iff.mp (List.all_eq_true.mp e2 d hd)).2⟩
def hookZ (n : Nat) (fa : List He.Fa) (fn : List He.DefD) (xs : List XD) (file : Str) : PySem.W.Hook where
  α := AlZ
  obs := fun s => obsZ fa fn xs file (frZ n s.heap.get?)
  val := fun _ => valZ fn xs
  says := fun _ h => ∃ K : PySem.W.Frag, K.In h ∧ SaysZ fa fn xs file K ∧ ∀ a o, K.lookup a = some o → isLst o = false
  of := fun _ _ e => ⟨_, frZ_in, saysZ_of e, fun _ _ z => frZ_nol z⟩
  keeps := fun _ _ _ ⟨K, hK, c⟩ k => ⟨K, PySem.W.Frag.In.keeps hK k, c⟩
def obZ (n : Nat) (fa : List He.Fa) (fn : List He.DefD) (xs : List XD) (file : Str) (s : PySem.W.SharedT) : AlZ := obsZ fa fn xs file (frZ n (HandSHeadRun.getT s))
theorem obZ_eq (n : Nat) (fa : List He.Fa) (fn : List He.DefD) (xs : List XD) (file : Str) (s : PySem.W.SharedT) : obZ n fa fn xs file s = (hookZ n fa fn xs file).obs s.abs := by
  have e : HandSHeadRun.getT s = s.abs.heap.get? := funext (HandSHeadRun.getT_eq s)
  unfold obZ hookZ
  rw [e]
theorem SaysD.mem {fa : List He.Fa} {fn : List He.DefD} {K : PySem.W.Frag} (c : He.SaysD fa fn K) {f : He.Fa} (h : f ∈ fa) : f.ok K = true := by
  obtain ⟨i, hi, e⟩ := List.mem_iff_getElem.mp h
  exact c.fact i (f := f) (by rw [List.getElem?_eq_getElem hi, e])
end Ev

set_option Elab.async false
set_option linter.all false
set_option autoImplicit false
set_option maxRecDepth 100000
set_option maxHeartbeats 4000000
/-! EvT: defs of the shape try: .. except C as error: return isinstance(error, D) and error.f == n; return False. -/
namespace Ev
open PySem PySem.Spec PyProof.Rows L2

/-- isinstance(x, c), c the very class of x -/
theorem isIn_same {prog : Program} {w : World} {A : Around} {E : Value → Shared → Prop} {s : Shared} {x t : Value} {Q : Value → Shared → Prop} (LT : ∀ M, PySem.W.Looks M s.heap (typeOf x) t) (hx : x ≠ .builtin "__main__.__loader__#opaque") (h : ∀ tk, Q (.bool true) { s with toks := tk }) :
    wpAny (model prog w) A (call (.builtin "isinstance") [x, t]) Q E s := by
  obtain ⟨hp, g, d, tk, os⟩ := s
  refine call_isinstance (S := fun A R s => (∀ M, PySem.W.Looks M s.heap (typeOf x) t) ∧ ∀ tk, R (.ok (.ret (.bool true))) { s with toks := tk }) (fun prog' w' A' R s' hs => isinstance_outer ?_ hx) ⟨LT, h⟩
  obtain ⟨L, hq⟩ := hs
  obtain ⟨h0, g', d', tt, os'⟩ := s'
  unfold Builtin.«isinstance.nested»
  refine wpAny_bind ((L _).at ?_)
  have q : (t == t) = true := by simp
  rw [if_pos q]
  exact wpAny_bind (wpAny_rule (wpAny_pure (hq tt)))
/-- isinstance(error, D), in the suite that holds it -/
def rIsS (a : Addr) (cls : Value) : List V → Hp → VK → Prop := fun xs H Q => ∃ c, xs = [.ref a, c] ∧ (∀ u, RelV c u → u = cls) ∧ Q (.bl true) H
theorem call_isS {X : Cx} {a : Addr} {oe : Obj} {cls : Value} {d : Option Addr} {pn : List (Addr × Obj)} (hz : Zc cls d oe) : CallR (X.suite a ((a, oe) :: pn)) (.builtin "isinstance") (rIsS a cls) := by
  intro pins s σ H xs us Q I r h
  obtain ⟨c, rfl, hc, q⟩ := h
  cases r with
  | cons rx rr =>
    cases rr with
    | cons rt rr =>
      cases rr
      cases rx
      have ec := hc _ rt
      obtain ⟨hget, _⟩ := I.pin (a, oe) (List.mem_append.mpr (.inl List.mem_cons_self))
      have LT : ∀ M, PySem.W.Looks M s.heap (typeOf (.ref a)) cls := fun M => hz.1 ▸ (PySem.W.Looks.ld hget).andThen .now
      subst ec
      exact isIn_same LT (fun z => nomatch z) fun tk => ⟨.bl true, H, I.kept (t' := tk) fun _ _ z => z, rfl, q⟩
/-! ### the text -/
structure Rf where
  body : S
  cx : Str
  nm : Str
  i : Nat
  dx : Str
  f : Str
  rhs : E
def rfR (c : Cfg) (sc : Scope) : Expr → Option E
  | .Constant (.int k) _ _ => some (.lit (.int k))
  | .Name y _ => if visB sc y && plainN y then (findIx c.N y).map .var else none
  | _ => none
def rfB (c : Cfg) (n : Nat) (sc : Scope) : List Stmt → Option Rf
  | [.Try b [.ExceptHandler (some (.Name cx _)) (some nm) [.Return (some (.BoolOp .And [.Call (.Name is _) [.Name n1 _, .Name dx _] [] _, .Compare (.Attribute (.Name n2 _) f _) [.Eq] [rhs] _] _)) _] _] [] [] _, .Return (some (.Constant (.bool false) _ _)) _] =>
    if is = "isinstance" ∧ n1 = nm ∧ n2 = nm ∧ sc.names.lookup nm = some .local ∧ glB sc "isinstance" = true ∧ glB sc cx = true ∧ glB sc dx = true ∧ plainN cx = true ∧ plainN dx = true ∧ plainN nm = true ∧ behindInMarks .Eq rhs = false then
      (toSs c n sc b).bind fun ib => (findIx c.N nm).bind fun i => (rfR c sc rhs).map fun r => ⟨ib, cx, nm, i, dx, f, r⟩
    else none
  | _ => none
def rvO (en : Env) : E → Option T
  | .lit t => some t
  | .var j => match en[j]? with
    | some (.fz t) => some t
    | _ => none
  | _ => none
section
variable (sg : Nat → Sig) (Φ : Nat → List T → FR) (mk : Nat → List T → Option Exc) (F : Nat)
/-- what such a def gives: sb the classes that the clause takes, D the one that isinstance asks for -/
def evRf (sb : Nat → Bool) (D : Nat) (sig : Sig) (ns : Nat) (r : Rf) (ts : List T) : FR :=
  let s0 := slotsOf sig.io sig.md ts
  match evS sg Φ mk F r.body (s0 ++ List.replicate (ns - s0.length) .no) with
  | .nx en => .ok (.fz (.bl false)) (ioEnd sig en)
  | .ex x en => if sb x.cls = true ∧ x.cls = D ∧ r.i < en.length then match x.fs.lookup r.f, rvO (en.set r.i .no) r.rhs with
      | some (.int a), some (.int b) => .ok (.fz (.bl (decide (a = b)))) (ioEnd sig en)
      | _, _ => .bad else .bad
  | _ => .bad
end
theorem aft_of {K : PySem.W.Frag} {G H G' H' : Hp} {a : Option Addr} {sig : Sig} {vs : List V} {ts : List T} {N : List Str} {σ' : L2.St} {en : Env} (har : ArgsR K G H sig a vs ts)
    (own0 : ∀ b, Own (slotsOf sig.io sig.md ts ++ List.replicate (N.length - (slotsOf sig.io sig.md ts).length) .no) (L2.start N vs) b → a = some b) (s : SR K ⟨a, H⟩ G' H' σ' en)
    (x : Ext G H (Own (slotsOf sig.io sig.md ts ++ List.replicate (N.length - (slotsOf sig.io sig.md ts).length) .no) (L2.start N vs)) G' H' (Own en σ')) : Aft1 K G H a G' H' (ioEnd sig en) := by
  have hio : ∀ d, a = some d → ∃ ys, en[(0 : Nat)]? = some (.io ys) ∧ G' d = none ∧ ∃ ws, H' d = some (.lst ws) ∧ VRs K G' ws ys := fun d e => by
    have rio := s.iok
    unfold IoR at rio
    rw [e] at rio
    obtain ⟨⟨ys, k1⟩, k2, _⟩ := rio
    obtain ⟨b, ws, e1, e2, e3, e4⟩ := s.sl 0 _ k1
    rw [k2] at e1; cases e1
    exact ⟨ys, k1, e2, ws, e3, e4⟩
  refine ⟨x.same, s.same, fun b o hb n => x.keep b o hb fun z => n b (own0 b z) rfl, fun b z => ?_, fun d e => ?_⟩
  · rcases x.frz b z with y | y | y
    · exact .inl y
    · exact .inr y
    · obtain ⟨ys, _, e2, _⟩ := hio b (own0 b y)
      exact absurd e2 z
  · obtain ⟨ys, k1, e2, ws, e3, e4⟩ := hio d e
    refine ⟨e2, ws, e3, ?_⟩
    have : sig.io = true := by
      unfold ArgsR at har
      split at har
      · assumption
      · rw [har.1] at e; cases e
    unfold ioEnd
    rw [if_pos this, k1]
    exact e4
def rfT : E → TE
  | .lit (.int k) => tC (.int k)
  | .var j => tVar j
  | _ => fun _ _ _ => False
section
variable {P : Program} {w : World} {K : PySem.W.Frag} {mg : Str → Option Value} {base : Heap} {c : Cfg} {CT : Nat → Addr} {sg : Nat → Sig} {Φ : Nat → List T → FR} {mk : Nat → List T → Option Exc} {k : Nat}
theorem goodTr {N : List Str} {qual : Str} {sc : Scope} {f : Addr} {cd : Value} {A : Around} {outer : List PySem.Env} {s : Shared} {H : Hp} {E : XK} {ps : List Str} (M : ModM P w K mg base c CT sg Φ mk k) (hN : N = c.N) (S : FnScope N ps sc)
    (r : Room k (A.deeper (envOfC qual sc s.heap.objs.size f cd))) {W : WX} {pn : List (Addr × Obj)} {xe : Value → Shared → Prop} (tk : Takes ((cxOf (L2.CX P w) P w K mg base N qual sc f cd A outer s H E).tr pn xe) W)
    (po : PassesOwn (model P w) (A.deeper (envOfC qual sc s.heap.objs.size f cd)) (envOfC qual sc s.heap.objs.size f cd) xe) : GoodS c CT sg Φ mk W ((cxOf (L2.CX P w) P w K mg base N qual sc f cd A outer s H E).tr pn xe) :=
  { g :=
    { nd := S.nd, N := hN, calm := rfl, room := r.mono (Nat.zero_le _), bn := M.bn, cn := M.cn, pass := fun σ => passAt tk σ
      fn := fun i x hi hx => by
        obtain ⟨fa, fd, ps, h1, h2, h3, h4⟩ := (M.fn i x hi hx).ex
        exact ⟨fa, fd, k, ps, h1, h2, h3, h4, r⟩ }
    takes := tk
    pown := po
    fn := fun _ => rfl
    kind := S.kind
    mkc := fun i x hx es l io p pos => M.mkc i x hx _ _ sg Φ rfl rfl rfl rfl rfl rfl r (fun σ => passAt tk σ) es l io p pos }
/-- A DEF of that shape by its evaluation -/
theorem rf_ok {x qual : Str} {params : Arguments} {body : List Stmt} {sc : Scope} {dvs : List V} {kws : List (Str × V)} {f : Addr} {fd : FuncData} {ps : List Str} {sig : Sig} {r : Rf} {n : Nat} {φ : List T → FR} {sb : Nat → Bool} {D : Nat} {cv : Value}
    (Fn : FunD K x qual params body sc dvs kws f fd) (S : FnScope c.N ps sc) (M : ModM P w K mg base c CT sg Φ mk k) (hp : ps.length = sig.ar) (hir : rfB c n sc body = some r)
    (hcx : mg r.cx = some cv) (hexm : ∀ q, sb q = true → PySem.W.exmOne K (.ref (CT q)) cv = some true) (hD : mg r.dx = some (.ref (CT D))) (his : mg "isinstance" = none) (xf : XfC K (CT D)) (hno : PySem.W.findIn K (.ref (CT D)) r.f = some none)
    (hφ : ∀ ts, φ ts ≠ .bad → ∃ F, evRf sg Φ mk F sb D sig c.N.length r ts = φ ts) : FnOk P w K mg base (L2.CX P w) (k + 1) f fd ps (spF K CT sig φ) := by
  refine Fn.ok S (spF_len hp) fun cdv A outer s H vs Q E hr h => ?_
  have hN : sig.ar ≤ c.N.length := by
    have := congrArg List.length S.pre
    rw [List.length_take] at this
    omega
  obtain ⟨G, a, ts, gh, har, hq⟩ := h
  have nb : φ ts ≠ .bad := fun e => by rw [e] at hq; exact hq
  obtain ⟨F, hF⟩ := hφ ts nb
  obtain ⟨s0, own0⟩ := start_sr (N := c.N) har gh hN
  unfold rfB at hir
  split at hir
  · rename_i b cx p1 nm is p2 n1 p3 dx p4 p5 n2 p6 fl p7 rhs p8 p9 p10 p11 p12 j p13 p14
    split at hir
    · rename_i hc
      obtain ⟨rfl, rfl, rfl, h1, h2, h3, h4, h5, h6, h7, h8⟩ := hc
      simp only [Option.bind_eq_some_iff, Option.map_eq_some_iff] at hir
      obtain ⟨ib, hib, i, hi, rh, hrh, rfl⟩ := hir
      have hi := findIx_at hi
      dsimp only at hcx hD hno hF
      have tk : Takes (cxOf (L2.CX P w) P w K mg base c.N qual sc f cdv A outer s H E) (fun cls d _ H => E cls d H) := takes_of rfl rfl rfl rfl
      refine ⟨_, pss_cons (ps_try_as (X := cxOf (L2.CX P w) P w K mg base c.N qual sc f cdv A outer s H E) (Wout := fun cls d _ H => E cls d H) (c := cv)
          (tb := fun W => tS K ⟨a, H⟩ CT W sg Φ mk F ib) (ts := fun a cls d => tRet (tAndV (tCB (rIsS a cls) (tCons (tVar i) (tCons (tC (.ref (CT D))) tNil))) (tOp rEq (tXf a cls d (CT D) fl (tVar i)) (rfT rh))))
          rfl rfl S.nd hi h1 ⟨gl_of h3, (plainN_of h5).1, .inl hcx⟩ tk (fun W pn xe tk po => sSs (goodTr M rfl S hr tk po) ⟨a, H⟩ n sc b ib hib rfl) (fun a oe cls d pn hz hf => ?_)) (pss_one (ps_ret pe_bl)), ?_⟩
      · refine pss_one (ps_ret (pe_and (pe_callB (call_isS hz) (gl_of h2) his (show bootBuiltins "isinstance" = some (.builtin "isinstance") by decide +kernel) (pa_cons (pe_var hi (.inl h1) (plainN_of h7).1 (plainN_of h7).2) (pa_cons (pe_glob (gl_of h4) hD rfl (plainN_of h6).1) pa_nil)))
          (pe_one (pe_cmpR op_eq (pe_xf xf hno hz hf (pe_var hi (.inl h1) (plainN_of h7).1 (plainN_of h7).2)) ?_ h8))))
        unfold rfR at hrh
        split at hrh
        · simp only [Option.some.injEq] at hrh
          subst hrh
          exact pe_int
        · rename_i y p
          split at hrh
          · rename_i hv
            simp only [Bool.and_eq_true] at hv
            simp only [Option.map_eq_some_iff] at hrh
            obtain ⟨q, hq', rfl⟩ := hrh
            exact pe_var (findIx_at hq') (vis_of hv.1) (plainN_of hv.2).1 (plainN_of hv.2).2
          · cases hrh
        · cases hrh
      · refine ⟨G, _, s0, ?_⟩
        unfold evRf at hF
        simp only at hF
        cases e : evS sg Φ mk F ib (slotsOf sig.io sig.md ts ++ List.replicate (c.N.length - (slotsOf sig.io sig.md ts).length) .no) with
        | nx en =>
          simp only [e] at hF
          rw [← hF] at hq
          exact fun σ' G' H' s x => hq G' H' (.bl false) (aft_of har own0 s x) (.bl false)
        | rt r en => simp only [e] at hF; exact absurd hF.symm nb
        | bk en => simp only [e] at hF; exact absurd hF.symm nb
        | ct en => simp only [e] at hF; exact absurd hF.symm nb
        | bad => simp only [e] at hF; exact absurd hF.symm nb
        | ex y en =>
          simp only [e] at hF
          by_cases hy : sb y.cls = true ∧ y.cls = D ∧ i < en.length
          · rw [if_pos hy] at hF
            obtain ⟨hy1, hy2, hy3⟩ := hy
            split at hF
            · rename_i u v hu hv
              rw [← hF] at hq
              intro σ' G' H' cls d s' x' xr
              obtain ⟨rfl, dd, fs, rfl, hdd, hfs⟩ := xr
              obtain ⟨v1, hv1, rv1⟩ := hfs _ _ hu
              cases rv1
              refine ⟨true, hexm _ hy1, fun _ a' na => ?_, fun z => by cases z⟩
              have hlen : i < σ'.length := by rw [← s'.len]; exact hy3
              have hset : (σ'.set i (some (.ref a')))[i]? = some (some (.ref a')) := List.getElem?_set_self hlen
              refine ⟨.ref a', hset, .ref (CT D), rfl, fun z rz => ?_, true, rfl, iteT ⟨.ref a', hset, rfl, by rw [hy2], dd, fs, .int u, rfl, hdd, hv1, ?_⟩⟩
              · rw [hy2]; exact rz
              · have fin : rEq (.int u) (.int v) H' fun z H3 => Q z H3 := by
                  have ed : decide (V.int u = V.int v) = decide (u = v) := by simp
                  refine ⟨rfl, ?_⟩
                  rw [ed]
                  exact hq G' H' _ (aft_of har own0 s' x') (.bl _)
                cases rh with
                | lit t =>
                  simp only [rvO, Option.some.injEq] at hv
                  subst hv
                  exact fin
                | var j =>
                  simp only [rvO] at hv
                  split at hv
                  · rename_i t0 hj
                    cases hv
                    rcases get_set hj with ⟨_, z⟩ | ⟨nj, hj⟩
                    · cases z
                    · obtain ⟨z, e1, rz⟩ := s'.sl j _ hj
                      cases rz
                      exact ⟨.int v, by rw [List.getElem?_set_ne (Ne.symm nj)]; exact e1, fin⟩
                  · cases hv
                | _ => simp [rvO] at hv
            · exact absurd hF.symm nb
          · rw [if_neg hy] at hF
            exact absurd hF.symm nb
    · cases hir
  · cases hir
end
end Ev

set_option Elab.async false
set_option linter.all false
set_option autoImplicit false
/-! EvZ: equations to evaluate with (the slots are written out). -/
namespace Ev
open PySem
theorem nr {α : Sort _} {a b : α} (h : a = b) : a = b := h
section
variable {α β : Type} {a : α} {en : Env} {x : Exc} {f : α → Env → R β} {g : α → Env → SRes} {h : Env → SRes} {r : Rs}
theorem ob_some {α β : Type} {a : α} {f : α → Option β} : (some a).bind f = f a := nr rfl
theorem om_some {α β : Type} {a : α} {f : α → β} : (some a).map f = some (f a) := nr rfl
theorem b_ok : (R.ok a en).bind f = f a en := nr rfl
theorem b_ex : (R.ex x en : R α).bind f = .ex x en := nr rfl
theorem st_ok : (R.ok a en).st g = g a en := nr rfl
theorem st_ex : (R.ex x en : R α).st g = .ex x en := nr rfl
theorem sq_nx : (SRes.nx en).seq h = h en := nr rfl
theorem sq_rt : (SRes.rt r en).seq h = .rt r en := nr rfl
theorem sq_bk : (SRes.bk en).seq h = .bk en := nr rfl
theorem sq_ct : (SRes.ct en).seq h = .ct en := nr rfl
theorem sq_ex : (SRes.ex x en).seq h = .ex x en := nr rfl
theorem tu_nx : (SRes.nx en).turn h = h en := nr rfl
theorem tu_rt : (SRes.rt r en).turn h = .rt r en := nr rfl
theorem tu_bk : (SRes.bk en).turn h = .nx en := nr rfl
theorem tu_ct : (SRes.ct en).turn h = h en := nr rfl
theorem tu_ex : (SRes.ex x en).turn h = .ex x en := nr rfl
end
def varR (i : Nat) (o : Option Sl) (en : Env) : R Rs := match o with
  | some (.fz t) => .ok (.fz t) en
  | some .no => .bad
  | none => .bad
  | some _ => .ok (.plc i) en
section
variable {sg : Nat → Sig} {Φ : Nat → List T → FR} {mk : Nat → List T → Option Exc} {F : Nat} {s : Sl} {en : Env} {i : Nat} {t : T} {xs : List T}
theorem varR_fz : varR i (some (.fz t)) en = .ok (.fz t) en := nr rfl
theorem varR_ol : varR i (some (.ol xs)) en = .ok (.plc i) en := nr rfl
theorem varR_bl : varR i (some (.bl xs)) en = .ok (.plc i) en := nr rfl
theorem varR_io : varR i (some (.io xs)) en = .ok (.plc i) en := nr rfl
theorem v_var : ev sg Φ (.var i) (s :: en) = varR i ((s :: en)[i]?) (s :: en) := nr rfl
theorem v_lit : ev sg Φ (.lit t) (s :: en) = .ok (.fz t) (s :: en) := nr rfl
def tupK (ts : List T) (en1 : Env) : R Rs := if ts.length ≤ sizeLine then .ok (.fz (.tup ts)) en1 else .bad
def lstK (ts : List T) (en1 : Env) : R Rs := if ts.length ≤ sizeLine then .ok (.ol ts) en1 else .bad
theorem v_tup {l : E} : ev sg Φ (.tup l) (s :: en) = (evV sg Φ l (s :: en)).bind tupK := nr rfl
theorem v_lst {l : E} : ev sg Φ (.lst l) (s :: en) = (evV sg Φ l (s :: en)).bind lstK := nr rfl
theorem tupK_ok {ts : List T} (h : ts.length ≤ sizeLine) : tupK ts en = .ok (.fz (.tup ts)) en := if_pos h
theorem lstK_ok {ts : List T} (h : ts.length ≤ sizeLine) : lstK ts en = .ok (.ol ts) en := if_pos h
theorem tupK_0 : tupK [] en = .ok (.fz (.tup [])) en := tupK_ok (Nat.zero_le _)
theorem tupK_1 {a : T} : tupK [a] en = .ok (.fz (.tup [a])) en := tupK_ok (show 1 ≤ sizeLine by decide)
theorem tupK_2 {a b : T} : tupK [a, b] en = .ok (.fz (.tup [a, b])) en := tupK_ok (show 2 ≤ sizeLine by decide)
theorem tupK_3 {a b c : T} : tupK [a, b, c] en = .ok (.fz (.tup [a, b, c])) en := tupK_ok (show 3 ≤ sizeLine by decide)
theorem lstK_0 : lstK [] en = .ok (.ol []) en := lstK_ok (Nat.zero_le _)
theorem lstK_1 {a : T} : lstK [a] en = .ok (.ol [a]) en := lstK_ok (show 1 ≤ sizeLine by decide)
theorem lstK_2 {a b : T} : lstK [a, b] en = .ok (.ol [a, b]) en := lstK_ok (show 2 ≤ sizeLine by decide)
theorem lstK_3 {a b c : T} : lstK [a, b, c] en = .ok (.ol [a, b, c]) en := lstK_ok (show 3 ≤ sizeLine by decide)
def p1K (o : P1) (r : Rs) (en1 : Env) : R Rs := liftO ((con en1 r).bind (ap1 o)) en1
theorem v_p1 {o : P1} {a : E} : ev sg Φ (.p1 o a) (s :: en) = (ev sg Φ a (s :: en)).bind (p1K o) := nr rfl
theorem p1K_eq {o : P1} {r : Rs} : p1K o r (s :: en) = liftO ((con (s :: en) r).bind (ap1 o)) (s :: en) := nr rfl
def p2K (o : P2) (r : Rs) (r' : Rs) (en2 : Env) : R Rs := liftO ((con en2 (settle r)).bind fun x => (con en2 (settle r')).bind fun y => ap2 o x y) en2
theorem v_p2 {o : P2} {a b : E} : ev sg Φ (.p2 o a b) (s :: en) = (ev sg Φ a (s :: en)).bind fun r en1 => (ev sg Φ b en1).bind (p2K o r) := nr rfl
theorem p2K_eq {o : P2} {r r' : Rs} : p2K o r r' (s :: en) = liftO ((con (s :: en) (settle r)).bind fun x => (con (s :: en) (settle r')).bind fun y => ap2 o x y) (s :: en) := nr rfl
theorem v_and {a b : E} : ev sg Φ (.and a b) (s :: en) = (ev sg Φ a (s :: en)).bind fun r en1 => (boolOf r en1).bind fun k en1 => if k then ev sg Φ b en1 else .ok (.fz (.bl false)) en1 := nr rfl
theorem v_or {a b : E} : ev sg Φ (.or a b) (s :: en) = (ev sg Φ a (s :: en)).bind fun r en1 => (boolOf r en1).bind fun k en1 => if k then .ok (.fz (.bl true)) en1 else ev sg Φ b en1 := nr rfl
theorem v_not {a : E} : ev sg Φ (.not a) (s :: en) = (ev sg Φ a (s :: en)).bind fun r en1 => (boolOf r en1).bind fun k en1 => .ok (.fz (.bl (!k))) en1 := nr rfl
theorem v_ite {c a b : E} : ev sg Φ (.ite c a b) (s :: en) = (ev sg Φ c (s :: en)).bind fun r en1 => (boolOf r en1).bind fun k en1 => if k then ev sg Φ a en1 else ev sg Φ b en1 := nr rfl
theorem v_call {f : Nat} {l : E} : ev sg Φ (.call f l) (s :: en) = (evA sg Φ l (s :: en)).bind fun rs en1 => callF sg Φ f rs en1 := nr rfl
def mthO (m : Mt) (i : Nat) (ts : List T) (en1 : Env) (q : Option (Bool × List T)) : R Rs := match q with
  | none => .bad
  | some q => (liftO (apM m q.2 ts) en1).bind fun p en1 => .ok (.fz p.1) (en1.set i (mkOwn q.1 p.2))
def mthK (m : Mt) (i : Nat) (ts : List T) (en1 : Env) : R Rs := mthO m i ts en1 (ownOf en1 i)
def mth0 (o : Option (Bool × List T)) (r : R Rs) : R Rs := match o with
  | none => .bad
  | some _ => r
theorem v_mth {m : Mt} {l : E} : ev sg Φ (.mth m i l) (s :: en) = mth0 (ownOf (s :: en) i) ((evV sg Φ l (s :: en)).bind (mthK m i)) := by
  rw [ev.eq_13] <;> rfl
theorem mth0_some {q : Bool × List T} {r : R Rs} : mth0 (some q) r = r := nr rfl
theorem mthK_eq {m : Mt} {ts : List T} : mthK m i ts (s :: en) = mthO m i ts (s :: en) (ownOf (s :: en) i) := nr rfl
theorem mthO_some {m : Mt} {ts : List T} {q : Bool × List T} : mthO m i ts (s :: en) (some q) = (liftO (apM m q.2 ts) (s :: en)).bind fun p en1 => .ok (.fz p.1) (en1.set i (mkOwn q.1 p.2)) := nr rfl
def ownO (o : Option Sl) : Option (Bool × List T) := match o with
  | some (.ol xs) => some (false, xs)
  | some (.io xs) => some (true, xs)
  | _ => none
theorem own_eq : ownOf (s :: en) i = ownO ((s :: en)[i]?) := nr rfl
theorem ownO_ol : ownO (some (.ol xs)) = some (false, xs) := nr rfl
theorem ownO_io : ownO (some (.io xs)) = some (true, xs) := nr rfl
theorem mkOwn_t : mkOwn true xs = .io xs := nr rfl
theorem mkOwn_f : mkOwn false xs = .ol xs := nr rfl
theorem v_sl {a lo hi : E} : ev sg Φ (.sl a lo hi) (s :: en) = (ev sg Φ a (s :: en)).bind fun r en1 => (ev sg Φ lo en1).bind fun l en2 => (optI l en2).bind fun l en2 => (ev sg Φ hi en2).bind fun h en3 => (optI h en3).bind fun h en3 =>
      liftO ((con en3 (settle r)).bind fun x => apSl x l h) en3 := nr rfl
/-- a comprehension's turn -/
def compK (sg : Nat → Sig) (Φ : Nat → List T → FR) (elt : E) (tg : Tg) (cs : E) (x : T) (e : Env) : R (Option T) := match asgT tg x e with
  | some e1 => (ev sg Φ cs e1).bind fun r e2 => (boolOf r e2).bind fun k e2 => if k then (ev sg Φ elt e2).bind fun r e3 => (toV r e3).bind fun t e4 => .ok (some t) e4 else .ok none e2
  | none => .bad
def compT (sg : Nat → Sig) (Φ : Nat → List T → FR) (elt : E) (cs : E) (e : Option Env) : R (Option T) := match e with
  | some e1 => (ev sg Φ cs e1).bind fun r e2 => (boolOf r e2).bind fun k e2 => if k then (ev sg Φ elt e2).bind fun r e3 => (toV r e3).bind fun t e4 => .ok (some t) e4 else .ok none e2
  | none => .bad
theorem compK_eq {elt : E} {tg : Tg} {cs : E} {x : T} : compK sg Φ elt tg cs x (s :: en) = compT sg Φ elt cs (asgT tg x (s :: en)) := nr rfl
theorem compT_some {elt : E} {cs : E} : compT sg Φ elt cs (some (s :: en)) = (ev sg Φ cs (s :: en)).bind fun r e2 => (boolOf r e2).bind fun k e2 => if k then (ev sg Φ elt e2).bind fun r e3 => (toV r e3).bind fun t e4 => .ok (some t) e4 else .ok none e2 := nr rfl
def compE (sg : Nat → Sig) (Φ : Nat → List T → FR) (elt : E) (tg : Tg) (cs : E) (own : List Nat) (its : Its) (en1 : Env) : R Rs :=
  if own.all (hidable en1) then ((compL (compK sg Φ elt tg cs) its.chk own its.xs [] en1).fin own en1).bind fun ts en2 => .ok (.ol ts) en2 else .bad
theorem v_comp {elt it cs : E} {tg : Tg} {own : List Nat} : ev sg Φ (.comp elt tg it cs own) (s :: en) = (evI sg Φ it (s :: en)).bind (compE sg Φ elt tg cs own) := nr rfl
theorem compE_eq {elt cs : E} {tg : Tg} {own : List Nat} {its : Its} (h : own.all (hidable (s :: en)) = true) : compE sg Φ elt tg cs own its (s :: en) = ((compL (compK sg Φ elt tg cs) its.chk own its.xs [] (s :: en)).fin own (s :: en)).bind fun ts en2 => .ok (.ol ts) en2 := if_pos h
def compC (step : T → Env → R (Option T)) (chk : Option (Nat × Sl)) (own : List Nat) (r acc : List T) (o : Option T) (en1 : Env) : R (List T) := match o with
        | none => compL step chk own r acc en1
        | some y => if acc.length < sizeLine then compL step chk own r (acc ++ [y]) en1 else .bad
theorem comp_nil {step : T → Env → R (Option T)} {own : List Nat} {acc : List T} : compL step none own [] acc en = .ok acc en := nr rfl
theorem comp_cons {step : T → Env → R (Option T)} {own : List Nat} {x : T} {r acc : List T} : compL step none own (x :: r) acc en = (step x (wipeE own en)).bind (compC step none own r acc) := nr rfl
theorem comp_nilC {step : T → Env → R (Option T)} {chk : Option (Nat × Sl)} {own : List Nat} {acc : List T} (h : slotIs en chk = true) : compL step chk own [] acc en = .ok acc en := if_pos h
theorem comp_consC {step : T → Env → R (Option T)} {chk : Option (Nat × Sl)} {own : List Nat} {x : T} {r acc : List T} (h : slotIs en chk = true) : compL step chk own (x :: r) acc en = (step x (wipeE own en)).bind (compC step chk own r acc) := if_pos h
theorem compC_none {step : T → Env → R (Option T)} {chk : Option (Nat × Sl)} {own : List Nat} {r acc : List T} : compC step chk own r acc none en = compL step chk own r acc en := nr rfl
theorem compC_some {step : T → Env → R (Option T)} {chk : Option (Nat × Sl)} {own : List Nat} {r acc : List T} {y : T} (h : acc.length < sizeLine) : compC step chk own r acc (some y) en = compL step chk own r (acc ++ [y]) en := if_pos h
theorem wipe_nil : wipeE [] en = en := nr rfl
theorem wipe_cons {own : List Nat} : wipeE (i :: own) en = (wipeE own en).set i .no := nr rfl
theorem rest_nil {e : Env} : restE en [] e = e := nr rfl
theorem rest_cons {own : List Nat} {e : Env} : restE en (i :: own) e = (restE en own e).set i (en.getD i .no) := nr rfl
theorem fin_ok {α : Type} {own : List Nat} {a : α} {e : Env} : R.fin own en (.ok a e) = .ok a (restE en own e) := nr rfl
theorem con_fz : con en (.fz t) = some t := nr rfl
theorem con_ol : con en (.ol xs) = some (.lst xs) := nr rfl
def slCon (o : Option Sl) : Option T := match o with
  | some s => s.con
  | none => none
theorem con_plc : con (s :: en) (.plc i) = slCon ((s :: en)[i]?) := nr rfl
theorem slCon_some {z : Sl} : slCon (some z) = z.con := nr rfl
theorem scon_fz : (Sl.fz t).con = some t := nr rfl
theorem scon_ol : (Sl.ol xs).con = some (.lst xs) := nr rfl
theorem scon_bl : (Sl.bl xs).con = some (.lst xs) := nr rfl
theorem scon_io : (Sl.io xs).con = some (.lst xs) := nr rfl
theorem set_fz : settle (.fz t) = .fz t := nr rfl
theorem set_plc : settle (.plc i) = .plc i := nr rfl
theorem set_ol : settle (.ol xs) = .fz (.lst xs) := nr rfl
theorem lift_some {α : Type} {a : α} : liftO (some a) en = .ok a en := nr rfl
theorem bool_bl {b : Bool} : boolOf (.fz (.bl b)) en = .ok b en := nr rfl
theorem opt_int {k : Int} : optI (.fz (.int k)) en = .ok (some k) en := nr rfl
theorem opt_non : optI (.fz .non) en = .ok none en := nr rfl
theorem toV_fz : toV (.fz t) en = .ok t en := nr rfl
theorem toV_ol : toV (.ol xs) en = .ok (.lst xs) en := nr rfl
def toVO (i : Nat) (o : Option Sl) (en : Env) : R T := match o with
  | some (.ol xs) => .ok (.lst xs) (en.set i (.fz (.lst xs)))
  | some (.fz t) => .ok t en
  | _ => .bad
theorem toV_plc : toV (.plc i) (s :: en) = toVO i ((s :: en)[i]?) (s :: en) := nr rfl
theorem toVO_ol : toVO i (some (.ol xs)) (s :: en) = .ok (.lst xs) ((s :: en).set i (.fz (.lst xs))) := nr rfl
theorem V_nil : evV sg Φ .nil (s :: en) = .ok [] (s :: en) := nr rfl
theorem V_cons {a r : E} : evV sg Φ (.cons a r) (s :: en) = (ev sg Φ a (s :: en)).bind fun q en1 => (toV q en1).bind fun t en1 => (evV sg Φ r en1).bind fun ts en2 => .ok (t :: ts) en2 := nr rfl
theorem A_nil : evA sg Φ .nil (s :: en) = .ok [] (s :: en) := nr rfl
theorem A_cons {a r : E} : evA sg Φ (.cons a r) (s :: en) = (ev sg Φ a (s :: en)).bind fun q en1 => (evA sg Φ r en1).bind fun ts en2 => .ok (settle q :: ts) en2 := nr rfl
/-- what is walked -/
def itK (r : Rs) (en1 : Env) : R Its := match r with
    | .plc i => match en1[i]? with
      | some s => match s.con with
        | some (.lst xs) => .ok ⟨xs, some (i, s)⟩ en1
        | _ => .bad
      | none => .bad
    | _ => match con en1 r with
      | some (.lst xs) => .ok ⟨xs, none⟩ en1
      | some (.tup xs) => .ok ⟨xs, none⟩ en1
      | _ => .bad
theorem I_it1 {a : E} : evI sg Φ (.it1 a) (s :: en) = (ev sg Φ a (s :: en)).bind itK := nr rfl
theorem itK_tup : itK (.fz (.tup xs)) (s :: en) = .ok ⟨xs, none⟩ (s :: en) := nr rfl
theorem itK_lst : itK (.fz (.lst xs)) (s :: en) = .ok ⟨xs, none⟩ (s :: en) := nr rfl
theorem itK_ol : itK (.ol xs) (s :: en) = .ok ⟨xs, none⟩ (s :: en) := nr rfl
def itS (i : Nat) (o : Option Sl) (en1 : Env) : R Its := match o with
      | some s => match s.con with
        | some (.lst xs) => .ok ⟨xs, some (i, s)⟩ en1
        | _ => .bad
      | none => .bad
theorem itK_plc : itK (.plc i) (s :: en) = itS i ((s :: en)[i]?) (s :: en) := nr rfl
theorem itS_ol : itS i (some (.ol xs)) en = .ok ⟨xs, some (i, .ol xs)⟩ en := nr rfl
theorem itS_bl : itS i (some (.bl xs)) en = .ok ⟨xs, some (i, .bl xs)⟩ en := nr rfl
def rg1 (r : Rs) (en1 : Env) : R Its := match r with
    | .fz (.int j) => if inBig j then .ok ⟨rangeI 0 j.toNat, none⟩ en1 else .bad
    | _ => .bad
theorem I_rng1 {b : E} : evI sg Φ (.rng1 b) (s :: en) = (ev sg Φ b (s :: en)).bind rg1 := nr rfl
theorem rg1_ok {j : Int} (h : inBig j = true) : rg1 (.fz (.int j)) en = .ok ⟨rangeI 0 j.toNat, none⟩ en := if_pos h
def rg2 (r r' : Rs) (en2 : Env) : R Its := match r, r' with
    | .fz (.int i), .fz (.int j) => if inBig i && inBig j then .ok ⟨rangeI i (j - i).toNat, none⟩ en2 else .bad
    | _, _ => .bad
theorem I_rng2 {a b : E} : evI sg Φ (.rng2 a b) (s :: en) = (ev sg Φ a (s :: en)).bind fun r en1 => (ev sg Φ b en1).bind (rg2 r) := nr rfl
theorem rg2_ok {i j : Int} (h : inBig i = true) (h' : inBig j = true) : rg2 (.fz (.int i)) (.fz (.int j)) en = .ok ⟨rangeI i (j - i).toNat, none⟩ en := if_pos (by rw [h, h']; rfl)
def rg3 (r r' r'' : Rs) (en3 : Env) : R Its := match r, r', r'' with
    | .fz (.int i), .fz (.int j), .fz (.int k) => (liftO (rng3 i j k) en3).bind fun xs en3 => .ok ⟨xs, none⟩ en3
    | _, _, _ => .bad
theorem I_rng3 {a b c : E} : evI sg Φ (.rng3 a b c) (s :: en) = (ev sg Φ a (s :: en)).bind fun r en1 => (ev sg Φ b en1).bind fun r' en2 => (ev sg Φ c en2).bind (rg3 r r') := nr rfl
theorem rg3_dn {i j : Int} (h : inBig i = true) (h' : inBig j = true) : rg3 (.fz (.int i)) (.fz (.int j)) (.fz (.int (-1))) en = .ok ⟨(List.range (i - j).toNat).map fun (k : Nat) => T.int (i - (k : Int)), none⟩ en := by
  show (liftO (rng3 i j (-1)) en).bind _ = _
  unfold rng3
  rw [h, h']
  rfl
/-! statements -/
theorem S_nil : evS sg Φ mk F .nil (s :: en) = .nx (s :: en) := nr rfl
theorem S_cons {a r : S} : evS sg Φ mk F (.cons a r) (s :: en) = (evS sg Φ mk F a (s :: en)).seq (evS sg Φ mk F r) := nr rfl
def nxK {α : Type} (_ : α) (en1 : Env) : SRes := .nx en1
theorem S_expr {e : E} : evS sg Φ mk F (.expr e) (s :: en) = (ev sg Φ e (s :: en)).st nxK := nr rfl
theorem nxK_eq {α : Type} {a : α} : nxK a en = .nx en := nr rfl
theorem S_asg {e : E} : evS sg Φ mk F (.asg (.v i) e) (s :: en) = (ev sg Φ e (s :: en)).st (asgR i) := nr rfl
def asgO (o : Option Env) : SRes := match o with
  | some en3 => .nx en3
  | none => .bad
theorem S_asgT {l : Tg} {e : E} : evS sg Φ mk F (.asg (.tp l) e) (s :: en) = (ev sg Φ e (s :: en)).st fun r en1 => (toV r en1).st fun t en2 => asgO (asgT (.tp l) t en2) := nr rfl
theorem asgO_some : asgO (some en) = .nx en := nr rfl
def augK (i : Nat) (o : P2) (x : Int) (r : Rs) (en1 : Env) : SRes := match r with
      | .fz (.int y) => if augOk o then match ap2 o (.int x) (.int y) with
        | some (.fz t) => setS i (.fz t) en1
        | _ => .bad else .bad
      | _ => .bad
def augO (sg : Nat → Sig) (Φ : Nat → List T → FR) (i : Nat) (p : P2) (e : E) (en : Env) (o : Option Sl) : SRes := match o with
  | some (.fz (.int x)) => (ev sg Φ e en).st (augK i p x)
  | _ => .bad
theorem S_aug {o : P2} {e : E} : evS sg Φ mk F (.aug i o e) (s :: en) = augO sg Φ i o e (s :: en) ((s :: en)[i]?) := by
  rw [evS.eq_def] <;> rfl
theorem augO_int {p : P2} {e : E} {x : Int} : augO sg Φ i p e (s :: en) (some (.fz (.int x))) = (ev sg Φ e (s :: en)).st (augK i p x) := nr rfl
theorem augK_add {x y : Int} : augK i .add x (.fz (.int y)) (s :: en) = setS i (.fz (.int (x + y))) (s :: en) := nr rfl
def setK (sg : Nat → Sig) (Φ : Nat → List T → FR) (i : Nat) (k : E) (t : T) (en1 : Env) : SRes := match ownOf en1 i with
      | none => .bad
      | some _ => (ev sg Φ k en1).st fun q en2 => setAt i q t en2
def setO (o : Option (Bool × List T)) (r : SRes) : SRes := match o with
      | none => .bad
      | some _ => r
theorem S_setix {k e : E} : evS sg Φ mk F (.setix i k e) (s :: en) = (ev sg Φ e (s :: en)).st fun r en1 => (toV r en1).st (setK sg Φ i k) := nr rfl
theorem setK_eq {k : E} : setK sg Φ i k t (s :: en) = setO (ownOf (s :: en) i) ((ev sg Φ k (s :: en)).st fun q en2 => setAt i q t en2) := by
  unfold setK setO
  cases ownOf (s :: en) i <;> rfl
theorem setO_some {q : Bool × List T} {r : SRes} : setO (some q) r = r := nr rfl
def setA (i : Nat) (j : Int) (t : T) (en : Env) (o : Option (Bool × List T)) : SRes := match o with
  | some q => match L2.ixN q.2.length j with
    | some n => .nx (en.set i (mkOwn q.1 (q.2.set n t)))
    | none => .bad
  | none => .bad
theorem setAt_eq {j : Int} : setAt i (.fz (.int j)) t (s :: en) = setA i j t (s :: en) (ownOf (s :: en) i) := by
  unfold setAt setA
  cases ownOf (s :: en) i <;> rfl
theorem setA_0 {x : T} {b : Bool} : setA i 0 t (s :: en) (some (b, x :: xs)) = .nx ((s :: en).set i (mkOwn b (t :: xs))) := by
  have h : L2.ixN (x :: xs).length 0 = some 0 := by
    unfold L2.ixN
    simp
  unfold setA
  simp only [h]
  rfl
theorem S_ite {c : E} {a b : S} : evS sg Φ mk F (.ite c a b) (s :: en) = (ev sg Φ c (s :: en)).st fun r en1 => (boolOf r en1).st fun k en1 => if k then evS sg Φ mk F a en1 else evS sg Φ mk F b en1 := nr rfl
theorem S_whl {c : E} {b : S} : evS sg Φ mk F (.whl c b) (s :: en) = whileL (fun en => (ev sg Φ c en).bind boolOf) (evS sg Φ mk F b) F (s :: en) := nr rfl
def forO (tg : Tg) (b : Env → SRes) (xs : List T) (o : Option Env) : SRes := match o with
  | some en2 => forL (asgT tg) b xs en2
  | none => .bad
theorem S_for {tg : Tg} {it : E} {b : S} : evS sg Φ mk F (.for tg it b) (s :: en) = (evI sg Φ it (s :: en)).st fun its en1 => forO tg (evS sg Φ mk F b) its.xs (lockS en1 its.chk) := nr rfl
theorem forO_some {tg : Tg} {b : Env → SRes} : forO tg b xs (some en) = forL (asgT tg) b xs en := nr rfl
theorem lock_none : lockS en none = some en := nr rfl
theorem lock_ol : lockS en (some (i, .ol xs)) = some (en.set i (.fz (.lst xs))) := nr rfl
theorem lock_bl : lockS en (some (i, .bl xs)) = some en := nr rfl
theorem S_ret {e : E} : evS sg Φ mk F (.ret e) (s :: en) = (ev sg Φ e (s :: en)).st retR := nr rfl
theorem S_ret0 : evS sg Φ mk F .ret0 (s :: en) = .rt (.fz .non) (s :: en) := nr rfl
theorem S_brk : evS sg Φ mk F .brk (s :: en) = .bk (s :: en) := nr rfl
theorem S_cont : evS sg Φ mk F .cont (s :: en) = .ct (s :: en) := nr rfl
theorem S_pass : evS sg Φ mk F .pass (s :: en) = .nx (s :: en) := nr rfl
def raiK (o : Option Exc) (en1 : Env) : SRes := match o with
    | some x => .ex x en1
    | none => .bad
theorem S_raise {c : Nat} {l : E} : evS sg Φ mk F (.raise c l) (s :: en) = (evV sg Φ l (s :: en)).st fun ts en1 => raiK (mk c ts) en1 := nr rfl
theorem raiK_some {x : Exc} : raiK (some x) en = .ex x en := nr rfl
def setSO (i : Nat) (z : Sl) (en : Env) (o : Option Sl) : SRes := match o with
  | some (.io _) => .bad
  | some _ => .nx (en.set i z)
  | none => .bad
theorem setS_eq {z : Sl} : setS i z (s :: en) = setSO i z (s :: en) ((s :: en)[i]?) := nr rfl
theorem setSO_no {z : Sl} : setSO i z en (some .no) = .nx (en.set i z) := nr rfl
theorem setSO_fz {z : Sl} : setSO i z en (some (.fz t)) = .nx (en.set i z) := nr rfl
theorem setSO_ol {z : Sl} : setSO i z en (some (.ol xs)) = .nx (en.set i z) := nr rfl
theorem setSO_bl {z : Sl} : setSO i z en (some (.bl xs)) = .nx (en.set i z) := nr rfl
theorem asgR_fz : asgR i (.fz t) en = setS i (.fz t) en := nr rfl
theorem asgR_ol : asgR i (.ol xs) en = setS i (.ol xs) en := nr rfl
def asgP (i j : Nat) (en : Env) (o : Option Sl) : SRes := match o with
    | some (.ol xs) => setS i (.fz (.lst xs)) (en.set j (.fz (.lst xs)))
    | some (.fz t) => setS i (.fz t) en
    | some (.bl xs) => setS i (.bl xs) en
    | _ => .bad
theorem asgR_plc {j : Nat} : asgR i (.plc j) (s :: en) = asgP i j (s :: en) ((s :: en)[j]?) := nr rfl
theorem asgP_ol {j : Nat} : asgP i j en (some (.ol xs)) = setS i (.fz (.lst xs)) (en.set j (.fz (.lst xs))) := nr rfl
theorem asgP_bl {j : Nat} : asgP i j en (some (.bl xs)) = setS i (.bl xs) en := nr rfl
theorem retR_fz : retR (.fz t) en = .rt (.fz t) en := nr rfl
theorem retR_ol : retR (.ol xs) en = .rt (.ol xs) en := nr rfl
def retP (i : Nat) (en : Env) (o : Option Sl) : SRes := match o with
    | some (.ol xs) => .rt (.ol xs) (en.set i .no)
    | some (.fz t) => .rt (.fz t) en
    | _ => .bad
theorem retR_plc : retR (.plc i) (s :: en) = retP i (s :: en) ((s :: en)[i]?) := nr rfl
theorem retP_ol : retP i en (some (.ol xs)) = .rt (.ol xs) (en.set i .no) := nr rfl
theorem asg_v {t : T} : asgT (.v i) t (s :: en) = asg1 i t (s :: en) := by rw [asgT]
def asg1O (i : Nat) (t : T) (en : Env) (o : Option Sl) : Option Env := match o with
  | some (.io _) => none
  | some _ => some (en.set i (.fz t))
  | none => none
theorem asg1_eq {t : T} : asg1 i t (s :: en) = asg1O i t (s :: en) ((s :: en)[i]?) := nr rfl
theorem asg1O_no {t : T} : asg1O i t en (some .no) = some (en.set i (.fz t)) := nr rfl
theorem asg1O_fz {t u : T} : asg1O i t en (some (.fz u)) = some (en.set i (.fz t)) := nr rfl
theorem asg1O_ol {t : T} : asg1O i t en (some (.ol xs)) = some (en.set i (.fz t)) := nr rfl
theorem asg_tp {l : Tg} : asgT (.tp l) (.tup xs) (s :: en) = asgTs l xs (s :: en) := by rw [asgT]
theorem ag_nil : asgTs .nil [] (s :: en) = some (s :: en) := by rw [asgTs]
theorem ag_cons {a r : Tg} : asgTs (.cons a r) (t :: xs) (s :: en) = (asgT a t (s :: en)).bind fun en1 => asgTs r xs en1 := by rw [asgTs]
/-! calls -/
def argT (md : Bool) (ms : List Bool) (rs : List Rs) (i : Nat) (en : Env) (o : Option Sl) : R (List T) := match o with
      | some (.ol xs) => if md then (argsC ms rs en).bind fun ts en1 => .ok (.lst xs :: ts) en1 else (argsC ms rs (en.set i (.fz (.lst xs)))).bind fun ts en1 => .ok (.lst xs :: ts) en1
      | some (.bl xs) => if md then (argsC ms rs en).bind fun ts en1 => .ok (.lst xs :: ts) en1 else .bad
      | some (.fz t) => (argsC ms rs en).bind fun ts en1 => .ok (t :: ts) en1
      | _ => .bad
theorem arg_nil : argsC [] [] (s :: en) = .ok [] (s :: en) := by rw [argsC]
theorem arg_fz {m : Bool} {ms : List Bool} {rs : List Rs} : argsC (m :: ms) (.fz t :: rs) (s :: en) = (argsC ms rs (s :: en)).bind fun ts en1 => .ok (t :: ts) en1 := by rw [argsC]
theorem arg_plc {m : Bool} {ms : List Bool} {rs : List Rs} : argsC (m :: ms) (.plc i :: rs) (s :: en) = argT m ms rs i (s :: en) ((s :: en)[i]?) := by
  rw [argsC]; rfl
theorem argT_ol {ms : List Bool} {rs : List Rs} : argT true ms rs i (s :: en) (some (.ol xs)) = (argsC ms rs (s :: en)).bind fun ts en1 => .ok (.lst xs :: ts) en1 := nr rfl
theorem argT_bl {ms : List Bool} {rs : List Rs} : argT true ms rs i (s :: en) (some (.bl xs)) = (argsC ms rs (s :: en)).bind fun ts en1 => .ok (.lst xs :: ts) en1 := nr rfl
theorem argT_olf {ms : List Bool} {rs : List Rs} : argT false ms rs i (s :: en) (some (.ol xs)) = (argsC ms rs ((s :: en).set i (.fz (.lst xs)))).bind fun ts en1 => .ok (.lst xs :: ts) en1 := nr rfl
def calR (en1 : Env) (r : FR) : R Rs := match r with
      | .ok r _ => .ok r en1
      | .ex x _ => .ex x en1
      | .bad => .bad
def calI (i : Nat) (b : Bool) (en1 : Env) (r : FR) : R Rs := match r with
          | .ok r io' => .ok r (en1.set i (if b then .io io' else .ol io'))
          | .ex x io' => .ex x (en1.set i (if b then .io io' else .ol io'))
          | .bad => .bad
theorem calR_ok {r : Rs} {io : List T} : calR en (.ok r io) = .ok r en := nr rfl
theorem calR_ex {x : Exc} {io : List T} : calR en (.ex x io) = .ex x en := nr rfl
theorem calI_t {r : Rs} {io : List T} : calI i true en (.ok r io) = .ok r (en.set i (.io io)) := nr rfl
theorem calI_f {r : Rs} {io : List T} : calI i false en (.ok r io) = .ok r (en.set i (.ol io)) := nr rfl
theorem call_plain {f : Nat} {rs : List Rs} {np : Nat} {md : List Bool} (h : sg f = ⟨np, false, md⟩) : callF sg Φ f rs (s :: en) = (argsC md rs (s :: en)).bind fun ts en1 => calR en1 (Φ f ts) := by
  unfold callF
  rw [h]
  rfl
def calO (Φ : Nat → List T → FR) (f : Nat) (md : List Bool) (rs : List Rs) (en : Env) (o : Option (Nat × List T × Bool)) : R Rs := match o with
      | some (i, xs, b) => (argsC md rs (en.set i .no)).bind fun ts en1 => calI i b en1 (Φ f (.lst xs :: ts))
      | none => .bad
theorem call_io {f : Nat} {r : Rs} {rs : List Rs} {np : Nat} {md : List Bool} (h : sg f = ⟨np, true, md⟩) : callF sg Φ f (r :: rs) (s :: en) = calO Φ f md rs (s :: en) (ioOf (s :: en) r) := by
  unfold callF calO
  rw [h, if_pos (show (⟨np, true, md⟩ : Sig).io = true from rfl)]
  cases h : ioOf (s :: en) r with
  | none => simp only [h]
  | some p => obtain ⟨i, xs, b⟩ := p; simp only [h]; rfl
theorem calO_some {f : Nat} {md : List Bool} {rs : List Rs} {b : Bool} : calO Φ f md rs (s :: en) (some (i, xs, b)) = (argsC md rs ((s :: en).set i .no)).bind fun ts en1 => calI i b en1 (Φ f (.lst xs :: ts)) := nr rfl
def ioO (i : Nat) (o : Option Sl) : Option (Nat × List T × Bool) := match o with
    | some (.ol xs) => some (i, xs, false)
    | some (.io xs) => some (i, xs, true)
    | _ => none
theorem io_plc : ioOf (s :: en) (.plc i) = ioO i ((s :: en)[i]?) := nr rfl
theorem ioO_ol : ioO i (some (.ol xs)) = some (i, xs, false) := nr rfl
theorem ioO_io : ioO i (some (.io xs)) = some (i, xs, true) := nr rfl
/-! loops -/
theorem for_nil {g : T → Env → Option Env} {b : Env → SRes} : forL g b [] en = .nx en := nr rfl
def forC (b : Env → SRes) (k : Env → SRes) (o : Option Env) : SRes := match o with
  | some en1 => (b en1).turn k
  | none => .bad
theorem for_cons {g : T → Env → Option Env} {b : Env → SRes} {x : T} : forL g b (x :: xs) en = forC b (forL g b xs) (g x en) := nr rfl
theorem forC_some {b k : Env → SRes} : forC b k (some en) = (b en).turn k := nr rfl
/-! the end -/
def endF (sig : Sig) (r : SRes) : FR := match r with
  | .nx en => .ok (.fz .non) (ioEnd sig en)
  | .rt r en => .ok r (ioEnd sig en)
  | .ex x en => .ex x (ioEnd sig en)
  | _ => .bad
theorem evD_eq {sig : Sig} {d : Def} {ts : List T} : evD sg Φ mk F sig d ts = endF sig (evS sg Φ mk F d.body (slotsOf sig.io sig.md ts ++ List.replicate (d.ns - (slotsOf sig.io sig.md ts).length) .no)) := nr rfl
theorem endF_rt {sig : Sig} {r : Rs} : endF sig (.rt r en) = .ok r (ioEnd sig en) := nr rfl
theorem endF_nx {sig : Sig} : endF sig (.nx en) = .ok (.fz .non) (ioEnd sig en) := nr rfl
theorem endF_ex {sig : Sig} {x : Exc} : endF sig (.ex x en) = .ex x (ioEnd sig en) := nr rfl
theorem io_f {np : Nat} {md : List Bool} : ioEnd ⟨np, false, md⟩ en = [] := nr rfl
theorem io_t {np : Nat} {md : List Bool} : ioEnd ⟨np, true, md⟩ (.io xs :: en) = xs := nr rfl
theorem sl_io {md : List Bool} {ts : List T} : slotsOf true md (.lst xs :: ts) = .io xs :: slotsOf false md ts := nr rfl
theorem sl_f {ms : List Bool} {ts : List T} : slotsOf false (false :: ms) (t :: ts) = .fz t :: slotsOf false ms ts := nr rfl
theorem sl_tl {ms : List Bool} {ts : List T} : slotsOf false (true :: ms) (.lst xs :: ts) = .bl xs :: slotsOf false ms ts := nr rfl
theorem sl_nil : slotsOf false [] [] = [] := nr rfl
end
/-! operations -/
section
variable {i j : Int} {xs ys : List T} {b c : Bool} {a t : T} {str : Str}
theorem o_len_t : ap1 .len (.tup xs) = some (.fz (.int xs.length)) := nr rfl
theorem o_len_l : ap1 .len (.lst xs) = some (.fz (.int xs.length)) := nr rfl
theorem o_tuple_t : ap1 .tuple (.tup xs) = some (.fz (.tup xs)) := nr rfl
theorem o_tuple_l : ap1 .tuple (.lst xs) = some (.fz (.tup xs)) := nr rfl
theorem o_list_t : ap1 .list (.tup xs) = some (.ol xs) := nr rfl
theorem o_list_l : ap1 .list (.lst xs) = some (.ol xs) := nr rfl
theorem o_int : ap1 .int (.int i) = some (.fz (.int i)) := nr rfl
theorem o_neg : ap1 .neg (.int i) = some (.fz (.int (-i))) := nr rfl
theorem o_sum {ns : List Int} : ap1 .sum (.lst (ns.map T.int)) = some (.fz (.int ns.sum)) := by show (ints? _).map _ = _; rw [ints?_map]; rfl
theorem o_any {ns : List Bool} : ap1 .any (.lst (ns.map T.bl)) = some (.fz (.bl (ns.any id))) := by show (bools? _).map _ = _; rw [bools?_map]; rfl
theorem o_all {ns : List Bool} : ap1 .all (.lst (ns.map T.bl)) = some (.fz (.bl (ns.all id))) := by show (bools? _).map _ = _; rw [bools?_map]; rfl
theorem o_max {n : Int} {ns : List Int} : ap1 .max (.lst (T.int n :: ns.map T.int)) = some (.fz (.int (maxI (n :: ns)))) := by show (ints? _).map _ = _; rw [ints?_map]; rfl
theorem o_isN : ap1 .isN t = some (.fz (.bl (decide (t = .non)))) := nr rfl
theorem o_notN : ap1 .notN t = some (.fz (.bl (!decide (t = .non)))) := nr rfl
theorem o_add : ap2 .add (.int i) (.int j) = some (.fz (.int (i + j))) := nr rfl
theorem o_sub : ap2 .sub (.int i) (.int j) = some (.fz (.int (i - j))) := nr rfl
theorem o_mul (h : mulOk i j) : ap2 .mul (.int i) (.int j) = some (.fz (.int (i * j))) := if_pos h
theorem o_fdiv (h : divOk j) : ap2 .fdiv (.int i) (.int j) = some (.fz (.int (i.fdiv j))) := if_pos h
theorem o_mod (h : j ≠ 0) : ap2 .mod (.int i) (.int j) = some (.fz (.int (i.fmod j))) := if_pos h
theorem o_shl (h : shlOk i j) : ap2 .shl (.int i) (.int j) = some (.fz (.int (i * 2 ^ j.toNat))) := if_pos h
theorem o_band : ap2 .band (.int i) (.int j) = some (.fz (.int (Builtin.bitAnd i j))) := nr rfl
theorem o_bor : ap2 .bor (.int i) (.int j) = some (.fz (.int (Builtin.bitOr i j))) := nr rfl
theorem o_lt : ap2 .lt (.int i) (.int j) = some (.fz (.bl (decide (i < j)))) := nr rfl
theorem o_le : ap2 .le (.int i) (.int j) = some (.fz (.bl (decide (i ≤ j)))) := nr rfl
theorem o_gt : ap2 .gt (.int i) (.int j) = some (.fz (.bl (decide (j < i)))) := nr rfl
theorem o_ge : ap2 .ge (.int i) (.int j) = some (.fz (.bl (decide (j ≤ i)))) := nr rfl
theorem eqOk_int : eqOk (.int i) (.int j) := ⟨rfl, rfl⟩
theorem o_eqT (h : eqOk a t) : ap2 .eq a t = some (.fz (.bl (PyData.eqv a.pd t.pd))) := if_pos h
theorem o_neT (h : eqOk a t) : ap2 .ne a t = some (.fz (.bl (!PyData.eqv a.pd t.pd))) := if_pos h
theorem o_eq : ap2 .eq (.int i) (.int j) = some (.fz (.bl (decide (i = j)))) := (o_eqT (a := .int i) (t := .int j) eqOk_int).trans rfl
theorem o_ne : ap2 .ne (.int i) (.int j) = some (.fz (.bl (!decide (i = j)))) := (o_neT (a := .int i) (t := .int j) eqOk_int).trans rfl
theorem o_addT (h : xs.length + ys.length ≤ sizeLine) : ap2 .add (.tup xs) (.tup ys) = some (.fz (.tup (xs ++ ys))) := if_pos h
theorem o_addL (h : xs.length + ys.length ≤ sizeLine) : ap2 .add (.lst xs) (.lst ys) = some (.ol (xs ++ ys)) := if_pos h
theorem o_ixT : ap2 .ix (.tup xs) (.int i) = (L2.atI xs i).map .fz := nr rfl
theorem o_ixL : ap2 .ix (.lst xs) (.int i) = (L2.atI xs i).map .fz := nr rfl
theorem at_0 {x : T} : L2.atI (x :: xs) 0 = some x := L2.atI_nat (j := 0) rfl
theorem at_1 {x y : T} : L2.atI (x :: y :: xs) 1 = some y := L2.atI_nat (j := 1) rfl
theorem m_append (h : xs.length < sizeLine) : apM .append xs [t] = some (.non, xs ++ [t]) := if_pos h
theorem m_pop {x : T} : apM .pop (xs ++ [x]) [] = some (x, xs) := by
  show ((xs ++ [x])[(xs ++ [x]).length - 1]?).map _ = _
  simp
theorem m_pop0 {x : T} : apM .popAt (x :: xs) [.int 0] = some (x, xs) := nr rfl
end
end Ev

set_option Elab.async false
set_option linter.all false
set_option autoImplicit false
/-! EvW: weaker rooms. -/
namespace Ev
open PySem PySem.Spec PyProof.Rows L2
section
variable {P : Program} {w : World} {K : PySem.W.Frag} {mg : Str → Option Value} {base : Heap} {CT : Nat → Addr}
theorem MkM.mono {j k : Nat} {f : List T → Option Exc} {x : Str} (h : MkM P w K mg base CT j f x) (hk : j ≤ k) : MkM P w K mg base CT k f x :=
  fun X W sg Φ a b c d e g r p => h X W sg Φ a b c d e g (r.mono hk) p
theorem FnM.mono {j k : Nat} {sig : Sig} {φ : List T → FR} {x : Str} (h : FnM P w K mg base CT j sig φ x) (hk : j ≤ k) : FnM P w K mg base CT k sig φ x := by
  obtain ⟨fa, fd, ps, h1, h2, h3, h4⟩ := h.ex
  exact ⟨fa, fd, ps, h1, h2, h3, h4.mono hk⟩
variable {c : Cfg} {sg : Nat → Sig} {Φ : Nat → List T → FR} {mk : Nat → List T → Option Exc}
/-- a def of the module, by its evaluation -/
theorem FnM.of_def {x qual : Str} {params : Arguments} {body : List Stmt} {sc : Scope} {kws : List (Str × V)} {f : Addr} {fd : FuncData} {ps : List Str} {sig : Sig} {ir : S} {n k : Nat} {φ : List T → FR}
    (Fn : FunD K x qual params body sc [] kws f fd) (hm : mg x = some (.ref f)) (S : FnScope c.N ps sc) (M : ModM P w K mg base c CT sg Φ mk k) (hp : ps.length = sig.ar) (hir : toSs c n sc body = some ir)
    (hφ : ∀ ts, φ ts ≠ .bad → ∃ F, evD sg Φ mk F sig ⟨c.N.length, ir⟩ ts = φ ts)
    (hb : ∀ (kV doc pm : Value) (an : Option Addr) (cdv ct : Value) (us : List Value), us.length = ps.length → bindArgs (PySem.W.fnOf x qual params body sc .none kV doc pm an cdv ct) ⟨us, []⟩ = pure (ps.zip us)) : FnM P w K mg base CT (k + 1) sig φ x :=
  ⟨f, fd, ps, hm, Fn.kp, Fn.bindsN hb, def_ok Fn S M hp hir hφ⟩
end
end Ev

set_option Elab.async false
set_option linter.all false
set_option autoImplicit false
set_option maxHeartbeats 2000000
/-! EvV: the end of a law over a head's facts, for a law whose calls may raise. -/
namespace Ev
open PySem PySem.Spec PyProof.Rows L2
/-- what the head gives of the law: its frame, its function, its promise -/
def LawF (p : Program) (n k : Nat) (x : Str) (w : World) (mg : Str → Option Value) (fa : Addr) (h : Heap) : Prop :=
  ∃ (K : PySem.W.Frag) (fd : FuncData) (sp : Sp), K.In h ∧ (∀ (s : Shared) (u : Value), BindsTo s fd ⟨[u], []⟩ [(x, u)]) ∧
    (∀ (H : Hp) (a : Addr) (ns : List Int), ns.length ≤ n → SqL K H a (ns.map V.int) →
      sp [.ref a] H (fun v _ => v = .bl true) fun _ _ _ => False) ∧
    ∀ base : Heap, K.In base → base.Ns mainGlobals mg →
      FnOk p w K mg base (L2.CX p w) k fa fd [x] sp
theorem cx_none {p : Program} {w : World} {H : Hp} {s s' : Shared} {e : Value} (z : L2.CX p w [] H s (fun _ _ _ => False) e s') : False := by
  obtain ⟨_, _, _, _, _, _, _, _, _, _, _, _, q⟩ := z
  exact q
theorem walk_end {l : PySem.W.OpenLaw} {n k : Nat} {q : Program} {loose : List Str} {XP : (Str → Option Value) → Heap → Prop} {YP : World → Heap → Prop} {d : DefRec} {x : Str}
    (hn : l.most = some n) (hn2 : n ≤ sizeLine) (hdf : d.params.defaults = []) (hr : Room k callerA)
    (F : ∀ (w : World) (mg : Str → Option Value) (fa : Addr) (h : Heap), YP w h → h.Ns mainGlobals mg → mg d.name = some (.ref fa) → LawF l.prog n k x w mg fa h) :
    PySem.W.WalkO q loose XP YP l.row.toRowW d [] (fun f vs => PySem.call f vs) := by
  apply Att.attach_call hn hdf
  intro w s₀ s₁ mg mb fa o pm cd doc a vs ns G Y ho hd hcd hmg hobj hints hlen hg
  have hF := F w mg fa s₁.heap Y G.T.g hmg
  obtain ⟨K, fd, sp, KX, hb, hsp, hF⟩ := hF
  refine law_call (CX := L2.CX l.prog w) KX G.T.g G.T.b G.T.builtins G.T.nolimit hg hobj hints ?_ hr hF hb ?_ ?_
  · exact Nat.le_trans hlen hn2
  · exact fun H _ hS => hsp H a ns hlen hS
  · exact fun H e s' z => cx_none z
end Ev

set_option Elab.async false
set_option linter.all false
set_option autoImplicit false
set_option maxRecDepth 100000
set_option maxHeartbeats 0
namespace K73
open PySem PySem.Spec PyProof.Rows Ev
def FT : List Str := ["parted_pairs", "undominated", "first_cover", "least_tests", "parted_from", "lesson", "hardest", "_law_mixed", "_law_purse", "_law_take", "_law_row", "_law_sets", "_law_parts_all", "_law_fewest", "_law_refused", "law"]
def KT : List Str := ["TooMany"]
def CN : List (Str × T) := [("MOST_THINGS", .int 8)]
def topS (i : Nat) : Stmt := PySem.Challenge.pw_columnwright_k73_tests_and_lessons.main.body.getD i (.Pass ⟨0, 0, 0, 0⟩)
/-! parted_pairs -/
abbrev st_parted_pairs : Stmt := topS 5
def d_parted_pairs : He.DefD := ⟨("parted_pairs", none), "parted_pairs", "parted_pairs", L2.defArgs st_parted_pairs, L2.defBody st_parted_pairs, L2.defScope st_parted_pairs, [], []⟩
def N_parted_pairs : List Str := ["values", "lot", "number", "first", "second"]
def c_parted_pairs : Cfg := ⟨N_parted_pairs, FT, [], CN, []⟩
def ir_parted_pairs : S := (.cons (.asg (.v 1) (.lit (.int 0))) (.cons (.asg (.v 2) (.lit (.int 0))) (.cons (.for (.v 3) (.rng1 (.p1 .len (.var 0))) (.cons (.for (.v 4) (.rng2 (.p2 .add (.var 3) (.lit (.int 1))) (.p1 .len (.var 0))) (.cons (.ite (.p2 .ne (.p2 .ix (.var 0) (.var 3)) (.p2 .ix (.var 0) (.var 4))) (.cons (.aug 1 .add (.p2 .shl (.lit (.int 1)) (.var 2))) .nil) .nil) (.cons (.aug 2 .add (.lit (.int 1))) .nil))) .nil)) (.cons (.ret (.var 1)) .nil))))
theorem sc_parted_pairs : L2.FnScope N_parted_pairs ["values"] (L2.defScope st_parted_pairs) := ⟨rfl, rfl, rfl, by decide +kernel, rfl, by decide +kernel, by decide +kernel⟩
theorem irOk_parted_pairs : toSs c_parted_pairs 60 (L2.defScope st_parted_pairs) (L2.defBody st_parted_pairs) = some ir_parted_pairs := by kernel_rfl
/-! undominated -/
abbrev st_undominated : Stmt := topS 6
def d_undominated : He.DefD := ⟨("undominated", none), "undominated", "undominated", L2.defArgs st_undominated, L2.defBody st_undominated, L2.defScope st_undominated, [], []⟩
def N_undominated : List Str := ["lots", "kept", "number", "other"]
def c_undominated : Cfg := ⟨N_undominated, FT, [], CN, []⟩
def ir_undominated : S := (.cons (.asg (.v 1) (.lst .nil)) (.cons (.for (.v 2) (.rng1 (.p1 .len (.var 0))) (.cons (.ite (.not (.p1 .any (.comp (.p2 .eq (.p2 .band (.p2 .ix (.var 0) (.var 2)) (.p2 .ix (.var 0) (.var 3))) (.p2 .ix (.var 0) (.var 2))) (.v 3) (.it1 (.var 1)) (.lit (.bl true)) [3]))) (.cons (.expr (.mth .append 1 (.cons (.var 2) .nil))) .nil) .nil) .nil)) (.cons (.ret (.var 1)) .nil)))
theorem sc_undominated : L2.FnScope N_undominated ["lots"] (L2.defScope st_undominated) := ⟨rfl, rfl, rfl, by decide +kernel, rfl, by decide +kernel, by decide +kernel⟩
theorem irOk_undominated : toSs c_undominated 60 (L2.defScope st_undominated) (L2.defBody st_undominated) = some ir_undominated := by kernel_rfl
/-! first_cover -/
abbrev st_first_cover : Stmt := topS 7
def d_first_cover : He.DefD := ⟨("first_cover", none), "first_cover", "first_cover", L2.defArgs st_first_cover, L2.defBody st_first_cover, L2.defScope st_first_cover, [], []⟩
def N_first_cover : List Str := ["lots", "kept", "full", "size", "waiting", "numbers", "place", "covered", "further"]
def c_first_cover : Cfg := ⟨N_first_cover, FT, [], CN, []⟩
def ir_first_cover : S := (.cons (.asg (.v 4) (.lst (.cons (.tup (.cons (.tup .nil) (.cons (.lit (.int 0)) (.cons (.lit (.int 0)) .nil)))) .nil))) (.cons (.whl (.p2 .gt (.p1 .len (.var 4)) (.lit (.int 0))) (.cons (.asg (.tp (.cons (.v 5) (.cons (.v 6) (.cons (.v 7) .nil)))) (.mth .pop 4 .nil)) (.cons (.ite (.p2 .eq (.p1 .len (.var 5)) (.var 3)) (.cons (.ite (.p2 .eq (.var 7) (.var 2)) (.cons (.ret (.var 5)) .nil) .nil) (.cons .cont .nil)) .nil) (.cons (.for (.v 8) (.rng3 (.p2 .sub (.p1 .len (.var 1)) (.lit (.int 1))) (.p2 .sub (.var 6) (.lit (.int 1))) (.p1 .neg (.lit (.int 1)))) (.cons (.expr (.mth .append 4 (.cons (.tup (.cons (.p2 .add (.var 5) (.tup (.cons (.p2 .ix (.var 1) (.var 8)) .nil))) (.cons (.p2 .add (.var 8) (.lit (.int 1))) (.cons (.p2 .bor (.var 7) (.p2 .ix (.var 0) (.p2 .ix (.var 1) (.var 8)))) .nil)))) .nil))) .nil)) .nil)))) (.cons (.ret (.lit .non)) .nil)))
theorem sc_first_cover : L2.FnScope N_first_cover ["lots", "kept", "full", "size"] (L2.defScope st_first_cover) := ⟨rfl, rfl, rfl, by decide +kernel, rfl, by decide +kernel, by decide +kernel⟩
theorem irOk_first_cover : toSs c_first_cover 60 (L2.defScope st_first_cover) (L2.defBody st_first_cover) = some ir_first_cover := by kernel_rfl
/-! least_tests -/
abbrev st_least_tests : Stmt := topS 8
def d_least_tests : He.DefD := ⟨("least_tests", none), "least_tests", "least_tests", L2.defArgs st_least_tests, L2.defBody st_least_tests, L2.defScope st_least_tests, [], []⟩
def N_least_tests : List Str := ["asks", "many", "lots", "values", "ledger", "full", "together", "lot", "kept", "size", "numbers"]
def c_least_tests : Cfg := ⟨N_least_tests, FT, [0, 1, 2], CN, KT⟩
def ir_least_tests : S := (.cons (.ite (.p2 .gt (.var 1) (.lit (.int 8))) (.cons (.raise 0 (.cons (.lit (.int 8)) .nil)) .nil) .nil) (.cons (.asg (.v 2) (.comp (.call 0 (.cons (.var 3) .nil)) (.tp (.cons (.v 3) (.cons (.v 4) .nil))) (.it1 (.var 0)) (.lit (.bl true)) [3, 4])) (.cons (.asg (.v 5) (.p2 .sub (.p2 .shl (.lit (.int 1)) (.p2 .fdiv (.p2 .mul (.var 1) (.p2 .sub (.var 1) (.lit (.int 1)))) (.lit (.int 2)))) (.lit (.int 1)))) (.cons (.asg (.v 6) (.lit (.int 0))) (.cons (.for (.v 7) (.it1 (.var 2)) (.cons (.asg (.v 6) (.p2 .bor (.var 6) (.var 7))) .nil)) (.cons (.ite (.p2 .ne (.var 6) (.var 5)) (.cons (.ret (.lit .non)) .nil) .nil) (.cons (.asg (.v 8) (.call 1 (.cons (.var 2) .nil))) (.cons (.for (.v 9) (.rng1 (.p2 .add (.p1 .len (.var 8)) (.lit (.int 1)))) (.cons (.asg (.v 10) (.call 2 (.cons (.var 2) (.cons (.var 8) (.cons (.var 5) (.cons (.var 9) .nil)))))) (.cons (.ite (.p1 .notN (.var 10)) (.cons (.ret (.var 10)) .nil) .nil) .nil))) (.cons (.ret (.lit .non)) .nil)))))))))
theorem sc_least_tests : L2.FnScope N_least_tests ["asks", "many"] (L2.defScope st_least_tests) := ⟨rfl, rfl, rfl, by decide +kernel, rfl, by decide +kernel, by decide +kernel⟩
theorem irOk_least_tests : toSs c_least_tests 60 (L2.defScope st_least_tests) (L2.defBody st_least_tests) = some ir_least_tests := by kernel_rfl
/-! parted_from -/
abbrev st_parted_from : Stmt := topS 10
def d_parted_from : He.DefD := ⟨("parted_from", none), "parted_from", "parted_from", L2.defArgs st_parted_from, L2.defBody st_parted_from, L2.defScope st_parted_from, [], []⟩
def N_parted_from : List Str := ["values", "thing", "other"]
def c_parted_from : Cfg := ⟨N_parted_from, FT, [], CN, []⟩
def ir_parted_from : S := (.cons (.ret (.p1 .sum (.comp (.p2 .shl (.lit (.int 1)) (.var 2)) (.v 2) (.rng1 (.p1 .len (.var 0))) (.p2 .ne (.p2 .ix (.var 0) (.var 2)) (.p2 .ix (.var 0) (.var 1))) [2]))) .nil)
theorem sc_parted_from : L2.FnScope N_parted_from ["values", "thing"] (L2.defScope st_parted_from) := ⟨rfl, rfl, rfl, by decide +kernel, rfl, by decide +kernel, by decide +kernel⟩
theorem irOk_parted_from : toSs c_parted_from 60 (L2.defScope st_parted_from) (L2.defBody st_parted_from) = some ir_parted_from := by kernel_rfl
/-! lesson -/
abbrev st_lesson : Stmt := topS 11
def d_lesson : He.DefD := ⟨("lesson", none), "lesson", "lesson", L2.defArgs st_lesson, L2.defBody st_lesson, L2.defScope st_lesson, [], []⟩
def N_lesson : List Str := ["asks", "many", "thing", "lots", "values", "ledger", "full", "together", "lot", "kept", "size", "numbers"]
def c_lesson : Cfg := ⟨N_lesson, FT, [1, 2, 4], CN, KT⟩
def ir_lesson : S := (.cons (.ite (.p2 .gt (.var 1) (.lit (.int 8))) (.cons (.raise 0 (.cons (.lit (.int 8)) .nil)) .nil) .nil) (.cons (.asg (.v 3) (.comp (.call 4 (.cons (.var 4) (.cons (.var 2) .nil))) (.tp (.cons (.v 4) (.cons (.v 5) .nil))) (.it1 (.var 0)) (.lit (.bl true)) [4, 5])) (.cons (.asg (.v 6) (.p2 .sub (.p2 .sub (.p2 .shl (.lit (.int 1)) (.var 1)) (.lit (.int 1))) (.p2 .shl (.lit (.int 1)) (.var 2)))) (.cons (.asg (.v 7) (.lit (.int 0))) (.cons (.for (.v 8) (.it1 (.var 3)) (.cons (.asg (.v 7) (.p2 .bor (.var 7) (.var 8))) .nil)) (.cons (.ite (.p2 .ne (.var 7) (.var 6)) (.cons (.ret (.lit .non)) .nil) .nil) (.cons (.asg (.v 9) (.call 1 (.cons (.var 3) .nil))) (.cons (.for (.v 10) (.rng1 (.p2 .add (.p1 .len (.var 9)) (.lit (.int 1)))) (.cons (.asg (.v 11) (.call 2 (.cons (.var 3) (.cons (.var 9) (.cons (.var 6) (.cons (.var 10) .nil)))))) (.cons (.ite (.p1 .notN (.var 11)) (.cons (.ret (.var 11)) .nil) .nil) .nil))) (.cons (.ret (.lit .non)) .nil)))))))))
theorem sc_lesson : L2.FnScope N_lesson ["asks", "many", "thing"] (L2.defScope st_lesson) := ⟨rfl, rfl, rfl, by decide +kernel, rfl, by decide +kernel, by decide +kernel⟩
theorem irOk_lesson : toSs c_lesson 60 (L2.defScope st_lesson) (L2.defBody st_lesson) = some ir_lesson := by kernel_rfl
/-! hardest -/
abbrev st_hardest : Stmt := topS 12
def d_hardest : He.DefD := ⟨("hardest", none), "hardest", "hardest", L2.defArgs st_hardest, L2.defBody st_hardest, L2.defScope st_hardest, [], []⟩
def N_hardest : List Str := ["asks", "many", "found", "thing", "numbers"]
def c_hardest : Cfg := ⟨N_hardest, FT, [5], CN, []⟩
def ir_hardest : S := (.cons (.asg (.v 2) (.lit .non)) (.cons (.for (.v 3) (.rng1 (.var 1)) (.cons (.asg (.v 4) (.call 5 (.cons (.var 0) (.cons (.var 1) (.cons (.var 3) .nil))))) (.cons (.ite (.p1 .isN (.var 4)) (.cons (.ret (.lit .non)) .nil) .nil) (.cons (.ite (.or (.p1 .isN (.var 2)) (.p2 .gt (.p1 .len (.var 4)) (.p2 .ix (.var 2) (.lit (.int 1))))) (.cons (.asg (.v 2) (.tup (.cons (.var 3) (.cons (.p1 .len (.var 4)) .nil)))) .nil) .nil) .nil)))) (.cons (.ret (.var 2)) .nil)))
theorem sc_hardest : L2.FnScope N_hardest ["asks", "many"] (L2.defScope st_hardest) := ⟨rfl, rfl, rfl, by decide +kernel, rfl, by decide +kernel, by decide +kernel⟩
theorem irOk_hardest : toSs c_hardest 60 (L2.defScope st_hardest) (L2.defBody st_hardest) = some ir_hardest := by kernel_rfl
/-! _law_mixed -/
abbrev st__law_mixed : Stmt := topS 14
def d__law_mixed : He.DefD := ⟨("_law_mixed", none), "_law_mixed", "_law_mixed", L2.defArgs st__law_mixed, L2.defBody st__law_mixed, L2.defScope st__law_mixed, [], []⟩
def N__law_mixed : List Str := ["number", "place", "told", "seed", "turn"]
def c__law_mixed : Cfg := ⟨N__law_mixed, FT, [], CN, []⟩
def ir__law_mixed : S := (.cons (.asg (.v 2) (.lit (.int 0))) (.cons (.asg (.v 3) (.p2 .mod (.p1 .int (.p2 .add (.p2 .add (.p2 .mul (.var 0) (.lit (.int 7))) (.p2 .mul (.var 1) (.lit (.int 1299709)))) (.lit (.int 1)))) (.lit (.int 2147483647)))) (.cons (.for (.v 4) (.rng1 (.lit (.int 12))) (.cons (.asg (.v 3) (.p2 .mod (.p1 .int (.p2 .add (.p2 .add (.p2 .mul (.var 3) (.lit (.int 48271))) (.p2 .mul (.var 4) (.lit (.int 69621)))) (.lit (.int 12345)))) (.lit (.int 2147483647)))) (.cons (.asg (.v 2) (.p2 .add (.p2 .mul (.var 2) (.lit (.int 2147483647))) (.p2 .mod (.p1 .int (.p2 .add (.p2 .mul (.var 3) (.var 3)) (.p2 .mul (.var 4) (.lit (.int 7))))) (.lit (.int 2147483647))))) .nil))) (.cons (.ret (.var 2)) .nil))))
theorem sc__law_mixed : L2.FnScope N__law_mixed ["number", "place"] (L2.defScope st__law_mixed) := ⟨rfl, rfl, rfl, by decide +kernel, rfl, by decide +kernel, by decide +kernel⟩
theorem irOk__law_mixed : toSs c__law_mixed 60 (L2.defScope st__law_mixed) (L2.defBody st__law_mixed) = some ir__law_mixed := by kernel_rfl
/-! _law_purse -/
abbrev st__law_purse : Stmt := topS 15
def d__law_purse : He.DefD := ⟨("_law_purse", none), "_law_purse", "_law_purse", L2.defArgs st__law_purse, L2.defBody st__law_purse, L2.defScope st__law_purse, [], []⟩
def N__law_purse : List Str := ["script", "purse", "later", "place", "size"]
def c__law_purse : Cfg := ⟨N__law_purse, FT, [7], CN, []⟩
def ir__law_purse : S := (.cons (.asg (.v 1) (.lst .nil)) (.cons (.asg (.v 2) (.lst .nil)) (.cons (.for (.v 3) (.rng1 (.p1 .len (.sl (.var 0) (.lit .non) (.lit (.int 63))))) (.cons (.asg (.v 4) (.ite (.p2 .ge (.p2 .ix (.var 0) (.var 3)) (.lit (.int 0))) (.p2 .ix (.var 0) (.var 3)) (.p1 .neg (.p2 .ix (.var 0) (.var 3))))) (.cons (.ite (.p2 .ge (.var 4) (.lit (.int 1000000000000000000))) (.cons (.expr (.mth .append 1 (.cons (.p2 .fdiv (.var 4) (.lit (.int 2))) .nil))) (.cons (.expr (.mth .append 2 (.cons (.call 7 (.cons (.p2 .mod (.p1 .int (.var 4)) (.lit (.int 1000003))) (.cons (.var 3) .nil))) .nil))) .nil)) (.cons (.expr (.mth .append 1 (.cons (.call 7 (.cons (.p2 .add (.p2 .mul (.lit (.int 2)) (.p2 .mod (.p1 .int (.var 4)) (.lit (.int 1000000007)))) (.ite (.p2 .lt (.p2 .ix (.var 0) (.var 3)) (.lit (.int 0))) (.lit (.int 1)) (.lit (.int 0)))) (.cons (.var 3) .nil))) .nil))) .nil)) .nil))) (.cons (.ret (.ite (.p2 .gt (.p1 .len (.var 1)) (.lit (.int 0))) (.p2 .add (.var 1) (.var 2)) (.lst (.cons (.call 7 (.cons (.lit (.int 0)) (.cons (.lit (.int 99)) .nil))) .nil)))) .nil))))
theorem sc__law_purse : L2.FnScope N__law_purse ["script"] (L2.defScope st__law_purse) := ⟨rfl, rfl, rfl, by decide +kernel, rfl, by decide +kernel, by decide +kernel⟩
theorem irOk__law_purse : toSs c__law_purse 60 (L2.defScope st__law_purse) (L2.defBody st__law_purse) = some ir__law_purse := by kernel_rfl
/-! _law_take -/
abbrev st__law_take : Stmt := topS 16
def d__law_take : He.DefD := ⟨("_law_take", none), "_law_take", "_law_take", L2.defArgs st__law_take, L2.defBody st__law_take, L2.defScope st__law_take, [], []⟩
def N__law_take : List Str := ["purse", "many", "told"]
def c__law_take : Cfg := ⟨N__law_take, FT, [], CN, []⟩
def ir__law_take : S := (.cons (.whl (.and (.p2 .gt (.p1 .len (.var 0)) (.lit (.int 0))) (.p2 .eq (.p2 .ix (.var 0) (.lit (.int 0))) (.lit (.int 0)))) (.cons (.expr (.mth .popAt 0 (.cons (.lit (.int 0)) .nil))) .nil)) (.cons (.ite (.p2 .eq (.p1 .len (.var 0)) (.lit (.int 0))) (.cons (.ret (.lit (.int 0))) .nil) .nil) (.cons (.asg (.v 2) (.p2 .mod (.p1 .int (.p2 .ix (.var 0) (.lit (.int 0)))) (.var 1))) (.cons (.setix 0 (.lit (.int 0)) (.p2 .fdiv (.p2 .ix (.var 0) (.lit (.int 0))) (.var 1))) (.cons (.ret (.var 2)) .nil)))))
theorem sc__law_take : L2.FnScope N__law_take ["purse", "many"] (L2.defScope st__law_take) := ⟨rfl, rfl, rfl, by decide +kernel, rfl, by decide +kernel, by decide +kernel⟩
theorem irOk__law_take : toSs c__law_take 60 (L2.defScope st__law_take) (L2.defBody st__law_take) = some ir__law_take := by kernel_rfl
/-! _law_row -/
abbrev st__law_row : Stmt := topS 17
def d__law_row : He.DefD := ⟨("_law_row", none), "_law_row", "_law_row", L2.defArgs st__law_row, L2.defBody st__law_row, L2.defScope st__law_row, [], []⟩
def N__law_row : List Str := ["purse", "long", "many", "place"]
def c__law_row : Cfg := ⟨N__law_row, FT, [9], CN, []⟩
def ir__law_row : S := (.cons (.ret (.p1 .tuple (.comp (.call 9 (.cons (.var 0) (.cons (.var 2) .nil))) (.v 3) (.rng1 (.var 1)) (.lit (.bl true)) [3]))) .nil)
theorem sc__law_row : L2.FnScope N__law_row ["purse", "long", "many"] (L2.defScope st__law_row) := ⟨rfl, rfl, rfl, by decide +kernel, rfl, by decide +kernel, by decide +kernel⟩
theorem irOk__law_row : toSs c__law_row 60 (L2.defScope st__law_row) (L2.defBody st__law_row) = some ir__law_row := by kernel_rfl
/-! _law_sets -/
abbrev st__law_sets : Stmt := topS 18
def d__law_sets : He.DefD := ⟨("_law_sets", none), "_law_sets", "_law_sets", L2.defArgs st__law_sets, L2.defBody st__law_sets, L2.defScope st__law_sets, [], []⟩
def N__law_sets : List Str := ["many", "size", "rows", "turn", "longer", "row", "low", "number"]
def c__law_sets : Cfg := ⟨N__law_sets, FT, [], CN, []⟩
def ir__law_sets : S := (.cons (.asg (.v 2) (.lst (.cons (.tup .nil) .nil))) (.cons (.for (.v 3) (.rng1 (.var 1)) (.cons (.asg (.v 4) (.lst .nil)) (.cons (.for (.v 5) (.it1 (.var 2)) (.cons (.asg (.v 6) (.ite (.p2 .gt (.p1 .len (.var 5)) (.lit (.int 0))) (.p2 .add (.p2 .ix (.var 5) (.p1 .neg (.lit (.int 1)))) (.lit (.int 1))) (.lit (.int 0)))) (.cons (.asg (.v 4) (.p2 .add (.var 4) (.comp (.p2 .add (.var 5) (.tup (.cons (.var 7) .nil))) (.v 7) (.rng2 (.var 6) (.var 0)) (.lit (.bl true)) [7]))) .nil))) (.cons (.asg (.v 2) (.var 4)) .nil)))) (.cons (.ret (.var 2)) .nil)))
theorem sc__law_sets : L2.FnScope N__law_sets ["many", "size"] (L2.defScope st__law_sets) := ⟨rfl, rfl, rfl, by decide +kernel, rfl, by decide +kernel, by decide +kernel⟩
theorem irOk__law_sets : toSs c__law_sets 60 (L2.defScope st__law_sets) (L2.defBody st__law_sets) = some ir__law_sets := by kernel_rfl
/-! _law_parts_all -/
abbrev st__law_parts_all : Stmt := topS 19
def d__law_parts_all : He.DefD := ⟨("_law_parts_all", none), "_law_parts_all", "_law_parts_all", L2.defArgs st__law_parts_all, L2.defBody st__law_parts_all, L2.defScope st__law_parts_all, [], []⟩
def N__law_parts_all : List Str := ["asks", "numbers", "pairs", "first", "second", "number"]
def c__law_parts_all : Cfg := ⟨N__law_parts_all, FT, [], CN, []⟩
def ir__law_parts_all : S := (.cons (.for (.tp (.cons (.v 3) (.cons (.v 4) .nil))) (.it1 (.var 2)) (.cons (.ite (.not (.p1 .any (.comp (.p2 .ne (.p2 .ix (.p2 .ix (.p2 .ix (.var 0) (.var 5)) (.lit (.int 0))) (.var 3)) (.p2 .ix (.p2 .ix (.p2 .ix (.var 0) (.var 5)) (.lit (.int 0))) (.var 4))) (.v 5) (.it1 (.var 1)) (.lit (.bl true)) [5]))) (.cons (.ret (.lit (.bl false))) .nil) .nil) .nil)) (.cons (.ret (.lit (.bl true))) .nil))
theorem sc__law_parts_all : L2.FnScope N__law_parts_all ["asks", "numbers", "pairs"] (L2.defScope st__law_parts_all) := ⟨rfl, rfl, rfl, by decide +kernel, rfl, by decide +kernel, by decide +kernel⟩
theorem irOk__law_parts_all : toSs c__law_parts_all 60 (L2.defScope st__law_parts_all) (L2.defBody st__law_parts_all) = some ir__law_parts_all := by kernel_rfl
/-! _law_fewest -/
abbrev st__law_fewest : Stmt := topS 20
def d__law_fewest : He.DefD := ⟨("_law_fewest", none), "_law_fewest", "_law_fewest", L2.defArgs st__law_fewest, L2.defBody st__law_fewest, L2.defScope st__law_fewest, [], []⟩
def N__law_fewest : List Str := ["asks", "pairs", "size", "numbers"]
def c__law_fewest : Cfg := ⟨N__law_fewest, FT, [11, 12], CN, []⟩
def ir__law_fewest : S := (.cons (.for (.v 2) (.rng1 (.p2 .add (.p1 .len (.var 0)) (.lit (.int 1)))) (.cons (.for (.v 3) (.it1 (.call 11 (.cons (.p1 .len (.var 0)) (.cons (.var 2) .nil)))) (.cons (.ite (.call 12 (.cons (.var 0) (.cons (.var 3) (.cons (.var 1) .nil)))) (.cons (.ret (.var 3)) .nil) .nil) .nil)) .nil)) (.cons (.ret (.lit .non)) .nil))
theorem sc__law_fewest : L2.FnScope N__law_fewest ["asks", "pairs"] (L2.defScope st__law_fewest) := ⟨rfl, rfl, rfl, by decide +kernel, rfl, by decide +kernel, by decide +kernel⟩
theorem irOk__law_fewest : toSs c__law_fewest 60 (L2.defScope st__law_fewest) (L2.defBody st__law_fewest) = some ir__law_fewest := by kernel_rfl
/-! _law_refused -/
abbrev st__law_refused : Stmt := topS 21
def d__law_refused : He.DefD := ⟨("_law_refused", none), "_law_refused", "_law_refused", L2.defArgs st__law_refused, L2.defBody st__law_refused, L2.defScope st__law_refused, [], []⟩
-- NO: by hand
/-! law -/
abbrev st_law : Stmt := topS 22
def d_law : He.DefD := ⟨("law", none), "law", "law", L2.defArgs st_law, L2.defBody st_law, L2.defScope st_law, [], []⟩
def N_law : List Str := ["script", "purse", "many", "asks", "number", "every", "second", "first", "lessons", "thing", "due", "other", "longest", "row", "wide"]
def c_law : Cfg := ⟨N_law, FT, [3, 5, 6, 8, 9, 10, 13, 14], CN, []⟩
def ir_law : S := (.cons (.asg (.v 1) (.call 8 (.cons (.var 0) .nil))) (.cons (.asg (.v 2) (.p2 .add (.lit (.int 1)) (.call 9 (.cons (.var 1) (.cons (.lit (.int 6)) .nil))))) (.cons (.asg (.v 3) (.lst .nil)) (.cons (.for (.v 4) (.rng1 (.call 9 (.cons (.var 1) (.cons (.lit (.int 8)) .nil)))) (.cons (.expr (.mth .append 3 (.cons (.tup (.cons (.call 10 (.cons (.var 1) (.cons (.var 2) (.cons (.p2 .add (.lit (.int 2)) (.call 9 (.cons (.var 1) (.cons (.lit (.int 2)) .nil)))) .nil)))) (.cons (.tup (.cons (.var 4) .nil)) .nil))) .nil))) .nil)) (.cons (.asg (.v 3) (.p1 .tuple (.var 3))) (.cons (.asg (.v 5) (.lst .nil)) (.cons (.for (.v 6) (.rng1 (.var 2)) (.cons (.asg (.v 5) (.p2 .add (.var 5) (.comp (.tup (.cons (.var 7) (.cons (.var 6) .nil))) (.v 7) (.rng1 (.var 6)) (.lit (.bl true)) [7]))) .nil)) (.cons (.ite (.p2 .ne (.call 3 (.cons (.var 3) (.cons (.var 2) .nil))) (.call 13 (.cons (.var 3) (.cons (.var 5) .nil)))) (.cons (.ret (.lit (.bl false))) .nil) .nil) (.cons (.asg (.v 8) (.lst .nil)) (.cons (.for (.v 9) (.rng1 (.var 2)) (.cons (.asg (.v 10) (.call 13 (.cons (.var 3) (.cons (.comp (.tup (.cons (.var 9) (.cons (.var 11) .nil))) (.v 11) (.rng1 (.var 2)) (.p2 .ne (.var 11) (.var 9)) [11]) .nil)))) (.cons (.ite (.p2 .ne (.call 5 (.cons (.var 3) (.cons (.var 2) (.cons (.var 9) .nil)))) (.var 10)) (.cons (.ret (.lit (.bl false))) .nil) .nil) (.cons (.expr (.mth .append 8 (.cons (.var 10) .nil))) .nil)))) (.cons (.asg (.v 10) (.lit .non)) (.cons (.ite (.p2 .notin (.lit .non) (.var 8)) (.cons (.asg (.v 12) (.p1 .max (.comp (.p1 .len (.var 13)) (.v 13) (.it1 (.var 8)) (.lit (.bl true)) [13]))) (.cons (.asg (.v 10) (.tup (.cons (.p2 .index (.comp (.p1 .len (.var 13)) (.v 13) (.it1 (.var 8)) (.lit (.bl true)) [13]) (.var 12)) (.cons (.var 12) .nil)))) .nil)) .nil) (.cons (.ite (.p2 .ne (.call 6 (.cons (.var 3) (.cons (.var 2) .nil))) (.var 10)) (.cons (.ret (.lit (.bl false))) .nil) .nil) (.cons (.asg (.v 14) (.p1 .tuple (.comp (.tup (.cons (.call 10 (.cons (.var 1) (.cons (.lit (.int 9)) (.cons (.lit (.int 2)) .nil)))) (.cons (.tup (.cons (.var 4) .nil)) .nil))) (.v 4) (.rng1 (.lit (.int 2))) (.lit (.bl true)) [4]))) (.cons (.ret (.call 14 (.cons (.call 9 (.cons (.var 1) (.cons (.lit (.int 10)) .nil))) (.cons (.var 14) .nil)))) .nil)))))))))))))))
theorem sc_law : L2.FnScope N_law ["script"] (L2.defScope st_law) := ⟨rfl, rfl, rfl, by decide +kernel, rfl, by decide +kernel, by decide +kernel⟩
theorem irOk_law : toSs c_law 60 (L2.defScope st_law) (L2.defBody st_law) = some ir_law := by kernel_rfl
end K73

set_option Elab.async false
set_option linter.all false
set_option autoImplicit false
set_option maxRecDepth 100000
set_option maxHeartbeats 0
namespace K73
open PySem PySem.Spec PyProof.Rows Ev
def fnames : List Str := ["parted_pairs", "undominated", "first_cover", "least_tests", "parted_from", "lesson", "hardest", "_law_mixed", "_law_purse", "_law_take", "_law_row", "_law_sets", "_law_parts_all", "_law_fewest", "_law_refused", "law"]
def fa : List He.Fa := (fnames.map He.Fa.glo) ++ (BN.map He.Fa.free) ++ [.free "isinstance", .int "MOST_THINGS" 8, .glo "ColumnError", .exm "TooMany" "ColumnError" true]
def fn : List He.DefD := [d_parted_pairs, d_undominated, d_first_cover, d_least_tests, d_parted_from, d_lesson, d_hardest, d__law_mixed, d__law_purse, d__law_take, d__law_row, d__law_sets, d__law_parts_all, d__law_fewest, d__law_refused, d_law]
def clsBody : Stmt → List Stmt
  | .ClassDef _ _ _ b _ _ _ _ _ _ _ => b
  | _ => []
abbrev st_TooMany : Stmt := (clsBody (topS 3)).getD 0 (.Pass ⟨0, 0, 0, 0⟩)
def x_TooMany : XD := ⟨"TooMany", ["self", "limit"], "TooMany.__init__", L2.defArgs st_TooMany, L2.defBody st_TooMany, L2.defScope st_TooMany, ⟨"self", none, ⟨0, 0, 0, 0⟩⟩, [("limit", 1)]⟩
theorem x_TooMany_ok : x_TooMany.ok = true := by decide +kernel
def file : Str := PySem.Challenge.pw_columnwright_k73_tests_and_lessons.main.file
abbrev R : PySem.W.OpenRow := PySem.W.OpenLaw.row PySem.Challenge.rw_columnwright_k73_tests_and_lessons
abbrev hk : PySem.W.Hook := hookZ 6 fa fn [x_TooMany] file
def ob (s : PySem.W.SharedT) : AlZ := obZ 6 fa fn [x_TooMany] file s
theorem ob_eq (s : PySem.W.SharedT) : ob s = hk.obs s.abs := obZ_eq 6 fa fn [x_TooMany] file s
def loose : List Str := ["MOST_THINGS", "ColumnError", "TooMany", "parted_pairs", "undominated", "first_cover", "least_tests", "parted_from", "lesson", "hardest", "_law_mixed", "_law_purse", "_law_take", "_law_row", "_law_sets", "_law_parts_all", "_law_fewest", "_law_refused"]
theorem run (w : World) : HandSHeadRun.RunEq R (PySem.W.view R.prog [22]) hk ob 3000 loose w := by
  intro os
  kernel_rfl
end K73

set_option Elab.async false
set_option linter.all false
set_option autoImplicit false
set_option maxRecDepth 100000
set_option maxHeartbeats 1000000
namespace K73
open PySem Ev
/-! ### the signatures -/
def sigs : List Sig := [⟨1, false, [false]⟩, ⟨1, false, [true]⟩, ⟨4, false, [true, true, false, false]⟩, ⟨2, false, [false, false]⟩, ⟨2, false, [false, false]⟩, ⟨3, false, [false, false, false]⟩, ⟨2, false, [false, false]⟩,
  ⟨2, false, [false, false]⟩, ⟨1, false, [true]⟩, ⟨2, true, [false]⟩, ⟨3, true, [false, false]⟩, ⟨2, false, [false, false]⟩, ⟨3, false, [false, false, true]⟩, ⟨2, false, [false, true]⟩, ⟨2, false, [false, false]⟩, ⟨1, false, [true]⟩]
def sg (i : Nat) : Sig := sigs.getD i ⟨0, false, []⟩
def mk (i : Nat) : List T → Option Exc := if i = 0 then mkO 0 2 [("limit", 1)] else fun _ => none
def il (ns : List Int) : List T := ns.map T.int
abbrev Tab := Nat → List T → FR
def FU : Nat := 1000000000
section
variable (Φ : Tab)
/-! ### _law_take -/
theorem take_loop (m : Int) : ∀ (k : Nat) (ns : List Int), ns.length < k → ∃ ns', whileL (fun en => (ev sg Φ (.and (.p2 .gt (.p1 .len (.var 0)) (.lit (.int 0))) (.p2 .eq (.p2 .ix (.var 0) (.lit (.int 0))) (.lit (.int 0)))) en).bind boolOf)
    (evS sg Φ mk FU (.cons (.expr (.mth .popAt 0 (.cons (.lit (.int 0)) .nil))) .nil)) k [.io (il ns), .fz (.int m), .no] = .nx [.io (il ns'), .fz (.int m), .no] ∧ ns'.length ≤ ns.length
  | 0, _, h => by omega
  | k + 1, [], _ => ⟨[], by
      unfold whileL
      simp only [List.getElem?_cons_zero, List.getElem?_cons_succ, List.set_cons_zero, List.set_cons_succ, List.getD_cons_zero, List.getD_cons_succ, ob_some, om_some, b_ok, b_ex, st_ok, st_ex, sq_nx, sq_rt, sq_bk, sq_ct, sq_ex, tu_nx, tu_rt, tu_bk, tu_ct, tu_ex, varR_fz, varR_ol, varR_bl, varR_io, v_var, v_lit, v_tup, v_lst, tupK_0, tupK_1, tupK_2, tupK_3, lstK_0, lstK_1, lstK_2, lstK_3, v_p1, p1K_eq, v_p2, p2K_eq, v_and, v_or, v_not, v_ite, v_call, v_mth, mth0_some, mthK_eq, mthO_some, own_eq, ownO_ol, ownO_io, mkOwn_t, mkOwn_f, v_sl, compK_eq, compT_some, v_comp, compC_none, wipe_nil, wipe_cons, rest_nil, rest_cons, fin_ok, con_fz, con_ol, con_plc, slCon_some, scon_fz, scon_ol, scon_bl, scon_io, set_fz, set_plc, set_ol, lift_some, bool_bl, opt_int, opt_non, toV_fz, toV_ol, toV_plc, toVO_ol, V_nil, V_cons, A_nil, A_cons, I_it1, itK_tup, itK_lst, itK_ol, itK_plc, itS_ol, itS_bl, I_rng1, I_rng2, I_rng3, S_nil, S_cons, S_expr, nxK_eq, S_asg, S_asgT, asgO_some, S_aug, augO_int, augK_add, S_setix, setK_eq, setO_some, setAt_eq, setA_0, S_ite, S_for, forO_some, lock_none, lock_ol, lock_bl, S_ret, S_ret0, S_brk, S_cont, S_pass, S_raise, raiK_some, setS_eq, setSO_no, setSO_fz, setSO_ol, setSO_bl, asgR_fz, asgR_ol, asgR_plc, asgP_ol, asgP_bl, retR_fz, retR_ol, retR_plc, retP_ol, asg_v, asg1_eq, asg1O_no, asg1O_fz, asg1O_ol, asg_tp, ag_nil, ag_cons, arg_nil, arg_fz, arg_plc, argT_ol, argT_bl, argT_olf, calR_ok, calR_ex, calI_t, calI_f, calO_some, io_plc, ioO_ol, ioO_io, forC_some, endF_rt, endF_nx, endF_ex, io_f, io_t, sl_io, sl_f, sl_tl, sl_nil, o_len_t, o_len_l, o_tuple_t, o_tuple_l, o_list_t, o_list_l, o_int, o_neg, o_sum, o_any, o_all, o_max, o_isN, o_notN, o_add, o_sub, o_band, o_bor, o_lt, o_le, o_gt, o_ge, o_eq, o_ne, o_ixT, o_ixL, at_0, at_1, m_pop, m_pop0]
      simp [il, List.getElem?_cons_zero, List.getElem?_cons_succ, List.set_cons_zero, List.set_cons_succ, List.getD_cons_zero, List.getD_cons_succ, ob_some, om_some, b_ok, b_ex, st_ok, st_ex, sq_nx, sq_rt, sq_bk, sq_ct, sq_ex, tu_nx, tu_rt, tu_bk, tu_ct, tu_ex, varR_fz, varR_ol, varR_bl, varR_io, v_var, v_lit, v_tup, v_lst, tupK_0, tupK_1, tupK_2, tupK_3, lstK_0, lstK_1, lstK_2, lstK_3, v_p1, p1K_eq, v_p2, p2K_eq, v_and, v_or, v_not, v_ite, v_call, v_mth, mth0_some, mthK_eq, mthO_some, own_eq, ownO_ol, ownO_io, mkOwn_t, mkOwn_f, v_sl, compK_eq, compT_some, v_comp, compC_none, wipe_nil, wipe_cons, rest_nil, rest_cons, fin_ok, con_fz, con_ol, con_plc, slCon_some, scon_fz, scon_ol, scon_bl, scon_io, set_fz, set_plc, set_ol, lift_some, bool_bl, opt_int, opt_non, toV_fz, toV_ol, toV_plc, toVO_ol, V_nil, V_cons, A_nil, A_cons, I_it1, itK_tup, itK_lst, itK_ol, itK_plc, itS_ol, itS_bl, I_rng1, I_rng2, I_rng3, S_nil, S_cons, S_expr, nxK_eq, S_asg, S_asgT, asgO_some, S_aug, augO_int, augK_add, S_setix, setK_eq, setO_some, setAt_eq, setA_0, S_ite, S_for, forO_some, lock_none, lock_ol, lock_bl, S_ret, S_ret0, S_brk, S_cont, S_pass, S_raise, raiK_some, setS_eq, setSO_no, setSO_fz, setSO_ol, setSO_bl, asgR_fz, asgR_ol, asgR_plc, asgP_ol, asgP_bl, retR_fz, retR_ol, retR_plc, retP_ol, asg_v, asg1_eq, asg1O_no, asg1O_fz, asg1O_ol, asg_tp, ag_nil, ag_cons, arg_nil, arg_fz, arg_plc, argT_ol, argT_bl, argT_olf, calR_ok, calR_ex, calI_t, calI_f, calO_some, io_plc, ioO_ol, ioO_io, forC_some, endF_rt, endF_nx, endF_ex, io_f, io_t, sl_io, sl_f, sl_tl, sl_nil, o_len_t, o_len_l, o_tuple_t, o_tuple_l, o_list_t, o_list_l, o_int, o_neg, o_sum, o_any, o_all, o_max, o_isN, o_notN, o_add, o_sub, o_band, o_bor, o_lt, o_le, o_gt, o_ge, o_eq, o_ne, o_ixT, o_ixL, at_0, at_1, m_pop, m_pop0], Nat.le_refl _⟩
  | k + 1, x :: r, h => by
      unfold whileL
      simp only [List.getElem?_cons_zero, List.getElem?_cons_succ, List.set_cons_zero, List.set_cons_succ, List.getD_cons_zero, List.getD_cons_succ, ob_some, om_some, b_ok, b_ex, st_ok, st_ex, sq_nx, sq_rt, sq_bk, sq_ct, sq_ex, tu_nx, tu_rt, tu_bk, tu_ct, tu_ex, varR_fz, varR_ol, varR_bl, varR_io, v_var, v_lit, v_tup, v_lst, tupK_0, tupK_1, tupK_2, tupK_3, lstK_0, lstK_1, lstK_2, lstK_3, v_p1, p1K_eq, v_p2, p2K_eq, v_and, v_or, v_not, v_ite, v_call, v_mth, mth0_some, mthK_eq, mthO_some, own_eq, ownO_ol, ownO_io, mkOwn_t, mkOwn_f, v_sl, compK_eq, compT_some, v_comp, compC_none, wipe_nil, wipe_cons, rest_nil, rest_cons, fin_ok, con_fz, con_ol, con_plc, slCon_some, scon_fz, scon_ol, scon_bl, scon_io, set_fz, set_plc, set_ol, lift_some, bool_bl, opt_int, opt_non, toV_fz, toV_ol, toV_plc, toVO_ol, V_nil, V_cons, A_nil, A_cons, I_it1, itK_tup, itK_lst, itK_ol, itK_plc, itS_ol, itS_bl, I_rng1, I_rng2, I_rng3, S_nil, S_cons, S_expr, nxK_eq, S_asg, S_asgT, asgO_some, S_aug, augO_int, augK_add, S_setix, setK_eq, setO_some, setAt_eq, setA_0, S_ite, S_for, forO_some, lock_none, lock_ol, lock_bl, S_ret, S_ret0, S_brk, S_cont, S_pass, S_raise, raiK_some, setS_eq, setSO_no, setSO_fz, setSO_ol, setSO_bl, asgR_fz, asgR_ol, asgR_plc, asgP_ol, asgP_bl, retR_fz, retR_ol, retR_plc, retP_ol, asg_v, asg1_eq, asg1O_no, asg1O_fz, asg1O_ol, asg_tp, ag_nil, ag_cons, arg_nil, arg_fz, arg_plc, argT_ol, argT_bl, argT_olf, calR_ok, calR_ex, calI_t, calI_f, calO_some, io_plc, ioO_ol, ioO_io, forC_some, endF_rt, endF_nx, endF_ex, io_f, io_t, sl_io, sl_f, sl_tl, sl_nil, o_len_t, o_len_l, o_tuple_t, o_tuple_l, o_list_t, o_list_l, o_int, o_neg, o_sum, o_any, o_all, o_max, o_isN, o_notN, o_add, o_sub, o_band, o_bor, o_lt, o_le, o_gt, o_ge, o_eq, o_ne, o_ixT, o_ixL, at_0, at_1, m_pop, m_pop0, il, List.map_cons]
      by_cases hx : x = 0
      · subst hx
        obtain ⟨ns', e, hl⟩ := take_loop m k r (by simpa using h)
        refine ⟨ns', ?_, by simp; omega⟩
        simp [List.getElem?_cons_zero, List.getElem?_cons_succ, List.set_cons_zero, List.set_cons_succ, List.getD_cons_zero, List.getD_cons_succ, ob_some, om_some, b_ok, b_ex, st_ok, st_ex, sq_nx, sq_rt, sq_bk, sq_ct, sq_ex, tu_nx, tu_rt, tu_bk, tu_ct, tu_ex, varR_fz, varR_ol, varR_bl, varR_io, v_var, v_lit, v_tup, v_lst, tupK_0, tupK_1, tupK_2, tupK_3, lstK_0, lstK_1, lstK_2, lstK_3, v_p1, p1K_eq, v_p2, p2K_eq, v_and, v_or, v_not, v_ite, v_call, v_mth, mth0_some, mthK_eq, mthO_some, own_eq, ownO_ol, ownO_io, mkOwn_t, mkOwn_f, v_sl, compK_eq, compT_some, v_comp, compC_none, wipe_nil, wipe_cons, rest_nil, rest_cons, fin_ok, con_fz, con_ol, con_plc, slCon_some, scon_fz, scon_ol, scon_bl, scon_io, set_fz, set_plc, set_ol, lift_some, bool_bl, opt_int, opt_non, toV_fz, toV_ol, toV_plc, toVO_ol, V_nil, V_cons, A_nil, A_cons, I_it1, itK_tup, itK_lst, itK_ol, itK_plc, itS_ol, itS_bl, I_rng1, I_rng2, I_rng3, S_nil, S_cons, S_expr, nxK_eq, S_asg, S_asgT, asgO_some, S_aug, augO_int, augK_add, S_setix, setK_eq, setO_some, setAt_eq, setA_0, S_ite, S_for, forO_some, lock_none, lock_ol, lock_bl, S_ret, S_ret0, S_brk, S_cont, S_pass, S_raise, raiK_some, setS_eq, setSO_no, setSO_fz, setSO_ol, setSO_bl, asgR_fz, asgR_ol, asgR_plc, asgP_ol, asgP_bl, retR_fz, retR_ol, retR_plc, retP_ol, asg_v, asg1_eq, asg1O_no, asg1O_fz, asg1O_ol, asg_tp, ag_nil, ag_cons, arg_nil, arg_fz, arg_plc, argT_ol, argT_bl, argT_olf, calR_ok, calR_ex, calI_t, calI_f, calO_some, io_plc, ioO_ol, ioO_io, forC_some, endF_rt, endF_nx, endF_ex, io_f, io_t, sl_io, sl_f, sl_tl, sl_nil, o_len_t, o_len_l, o_tuple_t, o_tuple_l, o_list_t, o_list_l, o_int, o_neg, o_sum, o_any, o_all, o_max, o_isN, o_notN, o_add, o_sub, o_band, o_bor, o_lt, o_le, o_gt, o_ge, o_eq, o_ne, o_ixT, o_ixL, at_0, at_1, m_pop, m_pop0]
        exact e
      · refine ⟨x :: r, ?_, Nat.le_refl _⟩
        simp [List.getElem?_cons_zero, List.getElem?_cons_succ, List.set_cons_zero, List.set_cons_succ, List.getD_cons_zero, List.getD_cons_succ, ob_some, om_some, b_ok, b_ex, st_ok, st_ex, sq_nx, sq_rt, sq_bk, sq_ct, sq_ex, tu_nx, tu_rt, tu_bk, tu_ct, tu_ex, varR_fz, varR_ol, varR_bl, varR_io, v_var, v_lit, v_tup, v_lst, tupK_0, tupK_1, tupK_2, tupK_3, lstK_0, lstK_1, lstK_2, lstK_3, v_p1, p1K_eq, v_p2, p2K_eq, v_and, v_or, v_not, v_ite, v_call, v_mth, mth0_some, mthK_eq, mthO_some, own_eq, ownO_ol, ownO_io, mkOwn_t, mkOwn_f, v_sl, compK_eq, compT_some, v_comp, compC_none, wipe_nil, wipe_cons, rest_nil, rest_cons, fin_ok, con_fz, con_ol, con_plc, slCon_some, scon_fz, scon_ol, scon_bl, scon_io, set_fz, set_plc, set_ol, lift_some, bool_bl, opt_int, opt_non, toV_fz, toV_ol, toV_plc, toVO_ol, V_nil, V_cons, A_nil, A_cons, I_it1, itK_tup, itK_lst, itK_ol, itK_plc, itS_ol, itS_bl, I_rng1, I_rng2, I_rng3, S_nil, S_cons, S_expr, nxK_eq, S_asg, S_asgT, asgO_some, S_aug, augO_int, augK_add, S_setix, setK_eq, setO_some, setAt_eq, setA_0, S_ite, S_for, forO_some, lock_none, lock_ol, lock_bl, S_ret, S_ret0, S_brk, S_cont, S_pass, S_raise, raiK_some, setS_eq, setSO_no, setSO_fz, setSO_ol, setSO_bl, asgR_fz, asgR_ol, asgR_plc, asgP_ol, asgP_bl, retR_fz, retR_ol, retR_plc, retP_ol, asg_v, asg1_eq, asg1O_no, asg1O_fz, asg1O_ol, asg_tp, ag_nil, ag_cons, arg_nil, arg_fz, arg_plc, argT_ol, argT_bl, argT_olf, calR_ok, calR_ex, calI_t, calI_f, calO_some, io_plc, ioO_ol, ioO_io, forC_some, endF_rt, endF_nx, endF_ex, io_f, io_t, sl_io, sl_f, sl_tl, sl_nil, o_len_t, o_len_l, o_tuple_t, o_tuple_l, o_list_t, o_list_l, o_int, o_neg, o_sum, o_any, o_all, o_max, o_isN, o_notN, o_add, o_sub, o_band, o_bor, o_lt, o_le, o_gt, o_ge, o_eq, o_ne, o_ixT, o_ixL, at_0, at_1, m_pop, m_pop0, hx]
theorem take_ok (ns : List Int) (m : Int) (hm : 0 < m) (hm2 : m < 1000) (hn : ns.length < 1000000000) : ∃ t ns', evD sg Φ mk FU (sg 9) ⟨3, ir__law_take⟩ [.lst (il ns), .int m] = .ok (.fz (.int t)) (il ns') ∧ 0 ≤ t ∧ t < m ∧ ns'.length ≤ ns.length := by
  rw [evD_eq, show sg 9 = ⟨2, true, [false]⟩ from rfl]
  unfold ir__law_take
  simp only [sl_io, sl_f, sl_nil, List.length_cons, List.length_nil, List.replicate, List.cons_append, List.nil_append]
  simp only [List.getElem?_cons_zero, List.getElem?_cons_succ, List.set_cons_zero, List.set_cons_succ, List.getD_cons_zero, List.getD_cons_succ, ob_some, om_some, b_ok, b_ex, st_ok, st_ex, sq_nx, sq_rt, sq_bk, sq_ct, sq_ex, tu_nx, tu_rt, tu_bk, tu_ct, tu_ex, varR_fz, varR_ol, varR_bl, varR_io, v_var, v_lit, v_tup, v_lst, tupK_0, tupK_1, tupK_2, tupK_3, lstK_0, lstK_1, lstK_2, lstK_3, v_p1, p1K_eq, v_p2, p2K_eq, v_and, v_or, v_not, v_ite, v_call, v_mth, mth0_some, mthK_eq, mthO_some, own_eq, ownO_ol, ownO_io, mkOwn_t, mkOwn_f, v_sl, compK_eq, compT_some, v_comp, compC_none, wipe_nil, wipe_cons, rest_nil, rest_cons, fin_ok, con_fz, con_ol, con_plc, slCon_some, scon_fz, scon_ol, scon_bl, scon_io, set_fz, set_plc, set_ol, lift_some, bool_bl, opt_int, opt_non, toV_fz, toV_ol, toV_plc, toVO_ol, V_nil, V_cons, A_nil, A_cons, I_it1, itK_tup, itK_lst, itK_ol, itK_plc, itS_ol, itS_bl, I_rng1, I_rng2, I_rng3, S_nil, S_cons, S_expr, nxK_eq, S_asg, S_asgT, asgO_some, S_aug, augO_int, augK_add, S_setix, setK_eq, setO_some, setAt_eq, setA_0, S_ite, S_for, forO_some, lock_none, lock_ol, lock_bl, S_ret, S_ret0, S_brk, S_cont, S_pass, S_raise, raiK_some, setS_eq, setSO_no, setSO_fz, setSO_ol, setSO_bl, asgR_fz, asgR_ol, asgR_plc, asgP_ol, asgP_bl, retR_fz, retR_ol, retR_plc, retP_ol, asg_v, asg1_eq, asg1O_no, asg1O_fz, asg1O_ol, asg_tp, ag_nil, ag_cons, arg_nil, arg_fz, arg_plc, argT_ol, argT_bl, argT_olf, calR_ok, calR_ex, calI_t, calI_f, calO_some, io_plc, ioO_ol, ioO_io, forC_some, endF_rt, endF_nx, endF_ex, io_f, io_t, sl_io, sl_f, sl_tl, sl_nil, o_len_t, o_len_l, o_tuple_t, o_tuple_l, o_list_t, o_list_l, o_int, o_neg, o_sum, o_any, o_all, o_max, o_isN, o_notN, o_add, o_sub, o_band, o_bor, o_lt, o_le, o_gt, o_ge, o_eq, o_ne, o_ixT, o_ixL, at_0, at_1, m_pop, m_pop0, S_whl]
  obtain ⟨ns', e, hl⟩ := take_loop Φ m FU ns hn
  rw [e]
  simp only [List.getElem?_cons_zero, List.getElem?_cons_succ, List.set_cons_zero, List.set_cons_succ, List.getD_cons_zero, List.getD_cons_succ, ob_some, om_some, b_ok, b_ex, st_ok, st_ex, sq_nx, sq_rt, sq_bk, sq_ct, sq_ex, tu_nx, tu_rt, tu_bk, tu_ct, tu_ex, varR_fz, varR_ol, varR_bl, varR_io, v_var, v_lit, v_tup, v_lst, tupK_0, tupK_1, tupK_2, tupK_3, lstK_0, lstK_1, lstK_2, lstK_3, v_p1, p1K_eq, v_p2, p2K_eq, v_and, v_or, v_not, v_ite, v_call, v_mth, mth0_some, mthK_eq, mthO_some, own_eq, ownO_ol, ownO_io, mkOwn_t, mkOwn_f, v_sl, compK_eq, compT_some, v_comp, compC_none, wipe_nil, wipe_cons, rest_nil, rest_cons, fin_ok, con_fz, con_ol, con_plc, slCon_some, scon_fz, scon_ol, scon_bl, scon_io, set_fz, set_plc, set_ol, lift_some, bool_bl, opt_int, opt_non, toV_fz, toV_ol, toV_plc, toVO_ol, V_nil, V_cons, A_nil, A_cons, I_it1, itK_tup, itK_lst, itK_ol, itK_plc, itS_ol, itS_bl, I_rng1, I_rng2, I_rng3, S_nil, S_cons, S_expr, nxK_eq, S_asg, S_asgT, asgO_some, S_aug, augO_int, augK_add, S_setix, setK_eq, setO_some, setAt_eq, setA_0, S_ite, S_for, forO_some, lock_none, lock_ol, lock_bl, S_ret, S_ret0, S_brk, S_cont, S_pass, S_raise, raiK_some, setS_eq, setSO_no, setSO_fz, setSO_ol, setSO_bl, asgR_fz, asgR_ol, asgR_plc, asgP_ol, asgP_bl, retR_fz, retR_ol, retR_plc, retP_ol, asg_v, asg1_eq, asg1O_no, asg1O_fz, asg1O_ol, asg_tp, ag_nil, ag_cons, arg_nil, arg_fz, arg_plc, argT_ol, argT_bl, argT_olf, calR_ok, calR_ex, calI_t, calI_f, calO_some, io_plc, ioO_ol, ioO_io, forC_some, endF_rt, endF_nx, endF_ex, io_f, io_t, sl_io, sl_f, sl_tl, sl_nil, o_len_t, o_len_l, o_tuple_t, o_tuple_l, o_list_t, o_list_l, o_int, o_neg, o_sum, o_any, o_all, o_max, o_isN, o_notN, o_add, o_sub, o_band, o_bor, o_lt, o_le, o_gt, o_ge, o_eq, o_ne, o_ixT, o_ixL, at_0, at_1, m_pop, m_pop0]
  cases ns' with
  | nil =>
    refine ⟨0, [], ?_, by omega, hm, Nat.zero_le _⟩
    simp [List.getElem?_cons_zero, List.getElem?_cons_succ, List.set_cons_zero, List.set_cons_succ, List.getD_cons_zero, List.getD_cons_succ, ob_some, om_some, b_ok, b_ex, st_ok, st_ex, sq_nx, sq_rt, sq_bk, sq_ct, sq_ex, tu_nx, tu_rt, tu_bk, tu_ct, tu_ex, varR_fz, varR_ol, varR_bl, varR_io, v_var, v_lit, v_tup, v_lst, tupK_0, tupK_1, tupK_2, tupK_3, lstK_0, lstK_1, lstK_2, lstK_3, v_p1, p1K_eq, v_p2, p2K_eq, v_and, v_or, v_not, v_ite, v_call, v_mth, mth0_some, mthK_eq, mthO_some, own_eq, ownO_ol, ownO_io, mkOwn_t, mkOwn_f, v_sl, compK_eq, compT_some, v_comp, compC_none, wipe_nil, wipe_cons, rest_nil, rest_cons, fin_ok, con_fz, con_ol, con_plc, slCon_some, scon_fz, scon_ol, scon_bl, scon_io, set_fz, set_plc, set_ol, lift_some, bool_bl, opt_int, opt_non, toV_fz, toV_ol, toV_plc, toVO_ol, V_nil, V_cons, A_nil, A_cons, I_it1, itK_tup, itK_lst, itK_ol, itK_plc, itS_ol, itS_bl, I_rng1, I_rng2, I_rng3, S_nil, S_cons, S_expr, nxK_eq, S_asg, S_asgT, asgO_some, S_aug, augO_int, augK_add, S_setix, setK_eq, setO_some, setAt_eq, setA_0, S_ite, S_for, forO_some, lock_none, lock_ol, lock_bl, S_ret, S_ret0, S_brk, S_cont, S_pass, S_raise, raiK_some, setS_eq, setSO_no, setSO_fz, setSO_ol, setSO_bl, asgR_fz, asgR_ol, asgR_plc, asgP_ol, asgP_bl, retR_fz, retR_ol, retR_plc, retP_ol, asg_v, asg1_eq, asg1O_no, asg1O_fz, asg1O_ol, asg_tp, ag_nil, ag_cons, arg_nil, arg_fz, arg_plc, argT_ol, argT_bl, argT_olf, calR_ok, calR_ex, calI_t, calI_f, calO_some, io_plc, ioO_ol, ioO_io, forC_some, endF_rt, endF_nx, endF_ex, io_f, io_t, sl_io, sl_f, sl_tl, sl_nil, o_len_t, o_len_l, o_tuple_t, o_tuple_l, o_list_t, o_list_l, o_int, o_neg, o_sum, o_any, o_all, o_max, o_isN, o_notN, o_add, o_sub, o_band, o_bor, o_lt, o_le, o_gt, o_ge, o_eq, o_ne, o_ixT, o_ixL, at_0, at_1, m_pop, m_pop0, il]
  | cons x r =>
    refine ⟨x.fmod m, x.fdiv m :: r, ?_, Int.fmod_nonneg_of_pos _ hm, Int.fmod_lt_of_pos _ hm, by simpa using hl⟩
    have h1 : ¬ ((((r.length : Int) + 1) = 0)) := by omega
    simp only [il, List.map_cons, List.length_cons, List.length_map]
    rw [if_neg (by simp; omega)]
    simp only [List.getElem?_cons_zero, List.getElem?_cons_succ, List.set_cons_zero, List.set_cons_succ, List.getD_cons_zero, List.getD_cons_succ, ob_some, om_some, b_ok, b_ex, st_ok, st_ex, sq_nx, sq_rt, sq_bk, sq_ct, sq_ex, tu_nx, tu_rt, tu_bk, tu_ct, tu_ex, varR_fz, varR_ol, varR_bl, varR_io, v_var, v_lit, v_tup, v_lst, tupK_0, tupK_1, tupK_2, tupK_3, lstK_0, lstK_1, lstK_2, lstK_3, v_p1, p1K_eq, v_p2, p2K_eq, v_and, v_or, v_not, v_ite, v_call, v_mth, mth0_some, mthK_eq, mthO_some, own_eq, ownO_ol, ownO_io, mkOwn_t, mkOwn_f, v_sl, compK_eq, compT_some, v_comp, compC_none, wipe_nil, wipe_cons, rest_nil, rest_cons, fin_ok, con_fz, con_ol, con_plc, slCon_some, scon_fz, scon_ol, scon_bl, scon_io, set_fz, set_plc, set_ol, lift_some, bool_bl, opt_int, opt_non, toV_fz, toV_ol, toV_plc, toVO_ol, V_nil, V_cons, A_nil, A_cons, I_it1, itK_tup, itK_lst, itK_ol, itK_plc, itS_ol, itS_bl, I_rng1, I_rng2, I_rng3, S_nil, S_cons, S_expr, nxK_eq, S_asg, S_asgT, asgO_some, S_aug, augO_int, augK_add, S_setix, setK_eq, setO_some, setAt_eq, setA_0, S_ite, S_for, forO_some, lock_none, lock_ol, lock_bl, S_ret, S_ret0, S_brk, S_cont, S_pass, S_raise, raiK_some, setS_eq, setSO_no, setSO_fz, setSO_ol, setSO_bl, asgR_fz, asgR_ol, asgR_plc, asgP_ol, asgP_bl, retR_fz, retR_ol, retR_plc, retP_ol, asg_v, asg1_eq, asg1O_no, asg1O_fz, asg1O_ol, asg_tp, ag_nil, ag_cons, arg_nil, arg_fz, arg_plc, argT_ol, argT_bl, argT_olf, calR_ok, calR_ex, calI_t, calI_f, calO_some, io_plc, ioO_ol, ioO_io, forC_some, endF_rt, endF_nx, endF_ex, io_f, io_t, sl_io, sl_f, sl_tl, sl_nil, o_len_t, o_len_l, o_tuple_t, o_tuple_l, o_list_t, o_list_l, o_int, o_neg, o_sum, o_any, o_all, o_max, o_isN, o_notN, o_add, o_sub, o_band, o_bor, o_lt, o_le, o_gt, o_ge, o_eq, o_ne, o_ixT, o_ixL, at_0, at_1, m_pop, m_pop0, o_mod (show m ≠ 0 by omega), o_fdiv (show divOk m from ⟨by omega, by omega⟩)]
/-! _law_mixed -/
theorem mix_loop (a b : T) : ∀ (xs : List Int) (told seed : Int) (z : Sl), (∀ x ∈ xs, 0 ≤ x ∧ x < 1000) → 0 ≤ seed → seed < 2147483647 → z.isIo = false → ∃ told' seed' z', forL (asgT (.v 4))
    (evS sg Φ mk FU (.cons (.asg (.v 3) (.p2 .mod (.p1 .int (.p2 .add (.p2 .add (.p2 .mul (.var 3) (.lit (.int 48271))) (.p2 .mul (.var 4) (.lit (.int 69621)))) (.lit (.int 12345)))) (.lit (.int 2147483647)))) (.cons (.asg (.v 2) (.p2 .add (.p2 .mul (.var 2) (.lit (.int 2147483647))) (.p2 .mod (.p1 .int (.p2 .add (.p2 .mul (.var 3) (.var 3)) (.p2 .mul (.var 4) (.lit (.int 7))))) (.lit (.int 2147483647))))) .nil)))
    (il xs) [.fz a, .fz b, .fz (.int told), .fz (.int seed), z] = .nx [.fz a, .fz b, .fz (.int told'), .fz (.int seed'), z']
  | [], told, seed, z, _, _, _, _ => ⟨told, seed, z, rfl⟩
  | x :: r, told, seed, z, hx, h0, h1, hz => by
    have hx0 := hx x (List.mem_cons_self ..)
    have e1 : asgT (.v 4) (.int x) [.fz a, .fz b, .fz (.int told), .fz (.int seed), z] = some [.fz a, .fz b, .fz (.int told), .fz (.int seed), .fz (.int x)] := by
      rw [asgT]
      cases z <;> first | rfl | cases hz
    rw [show il (x :: r) = .int x :: il r from rfl, for_cons, e1]
    have d : (2147483647 : Int) ≠ 0 := by decide
    have q : 0 ≤ (seed * 48271 + x * 69621 + 12345).fmod 2147483647 ∧ (seed * 48271 + x * 69621 + 12345).fmod 2147483647 < 2147483647 := ⟨Int.fmod_nonneg_of_pos _ (by decide), Int.fmod_lt_of_pos _ (by decide)⟩
    have m1 : ∀ i : Int, mulOk i 48271 := fun i => .inr (by decide)
    have m2 : ∀ i : Int, mulOk i 69621 := fun i => .inr (by decide)
    have m3 : ∀ i : Int, mulOk i 2147483647 := fun i => .inr (by decide)
    have m4 : ∀ i : Int, mulOk i 7 := fun i => .inr (by decide)
    have m5 : mulOk ((seed * 48271 + x * 69621 + 12345).fmod 2147483647) ((seed * 48271 + x * 69621 + 12345).fmod 2147483647) := .inl (by omega)
    simp only [List.getElem?_cons_zero, List.getElem?_cons_succ, List.set_cons_zero, List.set_cons_succ, List.getD_cons_zero, List.getD_cons_succ, ob_some, om_some, b_ok, b_ex, st_ok, st_ex, sq_nx, sq_rt, sq_bk, sq_ct, sq_ex, tu_nx, tu_rt, tu_bk, tu_ct, tu_ex, varR_fz, varR_ol, varR_bl, varR_io, v_var, v_lit, v_tup, v_lst, tupK_0, tupK_1, tupK_2, tupK_3, lstK_0, lstK_1, lstK_2, lstK_3, v_p1, p1K_eq, v_p2, p2K_eq, v_and, v_or, v_not, v_ite, v_call, v_mth, mth0_some, mthK_eq, mthO_some, own_eq, ownO_ol, ownO_io, mkOwn_t, mkOwn_f, v_sl, compK_eq, compT_some, v_comp, compC_none, wipe_nil, wipe_cons, rest_nil, rest_cons, fin_ok, con_fz, con_ol, con_plc, slCon_some, scon_fz, scon_ol, scon_bl, scon_io, set_fz, set_plc, set_ol, lift_some, bool_bl, opt_int, opt_non, toV_fz, toV_ol, toV_plc, toVO_ol, V_nil, V_cons, A_nil, A_cons, I_it1, itK_tup, itK_lst, itK_ol, itK_plc, itS_ol, itS_bl, I_rng1, I_rng2, I_rng3, S_nil, S_cons, S_expr, nxK_eq, S_asg, S_asgT, asgO_some, S_aug, augO_int, augK_add, S_setix, setK_eq, setO_some, setAt_eq, setA_0, S_ite, S_for, forO_some, lock_none, lock_ol, lock_bl, S_ret, S_ret0, S_brk, S_cont, S_pass, S_raise, raiK_some, setS_eq, setSO_no, setSO_fz, setSO_ol, setSO_bl, asgR_fz, asgR_ol, asgR_plc, asgP_ol, asgP_bl, retR_fz, retR_ol, retR_plc, retP_ol, asg_v, asg1_eq, asg1O_no, asg1O_fz, asg1O_ol, asg_tp, ag_nil, ag_cons, arg_nil, arg_fz, arg_plc, argT_ol, argT_bl, argT_olf, calR_ok, calR_ex, calI_t, calI_f, calO_some, io_plc, ioO_ol, ioO_io, forC_some, endF_rt, endF_nx, endF_ex, io_f, io_t, sl_io, sl_f, sl_tl, sl_nil, o_len_t, o_len_l, o_tuple_t, o_tuple_l, o_list_t, o_list_l, o_int, o_neg, o_sum, o_any, o_all, o_max, o_isN, o_notN, o_add, o_sub, o_band, o_bor, o_lt, o_le, o_gt, o_ge, o_eq, o_ne, o_ixT, o_ixL, at_0, at_1, m_pop, m_pop0, o_mul (m1 _), o_mul (m2 _), o_mul (m3 _), o_mul (m4 _), o_mul m5, o_mod d]
    exact mix_loop a b r _ _ _ (fun y hy => hx y (List.mem_cons_of_mem _ hy)) q.1 q.2 rfl
theorem rangeI_il (n : Nat) : rangeI 0 n = il ((List.range n).map fun (k : Nat) => (k : Int)) := by
  unfold rangeI il
  simp
theorem mix_ok (a b : Int) : ∃ v, evD sg Φ mk FU (sg 7) ⟨5, ir__law_mixed⟩ [.int a, .int b] = .ok (.fz (.int v)) [] := by
  rw [evD_eq, show sg 7 = ⟨2, false, [false, false]⟩ from rfl]
  unfold ir__law_mixed
  have d : (2147483647 : Int) ≠ 0 := by decide
  have m1 : ∀ i : Int, mulOk i 7 := fun i => .inr (by decide)
  have m2 : ∀ i : Int, mulOk i 1299709 := fun i => .inr (by decide)
  simp only [sl_io, sl_f, sl_nil, List.length_cons, List.length_nil, List.replicate, List.cons_append, List.nil_append]
  simp only [List.getElem?_cons_zero, List.getElem?_cons_succ, List.set_cons_zero, List.set_cons_succ, List.getD_cons_zero, List.getD_cons_succ, ob_some, om_some, b_ok, b_ex, st_ok, st_ex, sq_nx, sq_rt, sq_bk, sq_ct, sq_ex, tu_nx, tu_rt, tu_bk, tu_ct, tu_ex, varR_fz, varR_ol, varR_bl, varR_io, v_var, v_lit, v_tup, v_lst, tupK_0, tupK_1, tupK_2, tupK_3, lstK_0, lstK_1, lstK_2, lstK_3, v_p1, p1K_eq, v_p2, p2K_eq, v_and, v_or, v_not, v_ite, v_call, v_mth, mth0_some, mthK_eq, mthO_some, own_eq, ownO_ol, ownO_io, mkOwn_t, mkOwn_f, v_sl, compK_eq, compT_some, v_comp, compC_none, wipe_nil, wipe_cons, rest_nil, rest_cons, fin_ok, con_fz, con_ol, con_plc, slCon_some, scon_fz, scon_ol, scon_bl, scon_io, set_fz, set_plc, set_ol, lift_some, bool_bl, opt_int, opt_non, toV_fz, toV_ol, toV_plc, toVO_ol, V_nil, V_cons, A_nil, A_cons, I_it1, itK_tup, itK_lst, itK_ol, itK_plc, itS_ol, itS_bl, I_rng1, I_rng2, I_rng3, S_nil, S_cons, S_expr, nxK_eq, S_asg, S_asgT, asgO_some, S_aug, augO_int, augK_add, S_setix, setK_eq, setO_some, setAt_eq, setA_0, S_ite, S_for, forO_some, lock_none, lock_ol, lock_bl, S_ret, S_ret0, S_brk, S_cont, S_pass, S_raise, raiK_some, setS_eq, setSO_no, setSO_fz, setSO_ol, setSO_bl, asgR_fz, asgR_ol, asgR_plc, asgP_ol, asgP_bl, retR_fz, retR_ol, retR_plc, retP_ol, asg_v, asg1_eq, asg1O_no, asg1O_fz, asg1O_ol, asg_tp, ag_nil, ag_cons, arg_nil, arg_fz, arg_plc, argT_ol, argT_bl, argT_olf, calR_ok, calR_ex, calI_t, calI_f, calO_some, io_plc, ioO_ol, ioO_io, forC_some, endF_rt, endF_nx, endF_ex, io_f, io_t, sl_io, sl_f, sl_tl, sl_nil, o_len_t, o_len_l, o_tuple_t, o_tuple_l, o_list_t, o_list_l, o_int, o_neg, o_sum, o_any, o_all, o_max, o_isN, o_notN, o_add, o_sub, o_band, o_bor, o_lt, o_le, o_gt, o_ge, o_eq, o_ne, o_ixT, o_ixL, at_0, at_1, m_pop, m_pop0, o_mul (m1 _), o_mul (m2 _), o_mod d, rg1_ok (show inBig 12 = true by decide)]
  rw [rangeI_il]
  obtain ⟨t, s, z, e⟩ := mix_loop Φ (.int a) (.int b) ((List.range 12).map fun (k : Nat) => (k : Int)) 0 ((a * 7 + b * 1299709 + 1).fmod 2147483647) .no (by decide) (Int.fmod_nonneg_of_pos _ (by decide)) (Int.fmod_lt_of_pos _ (by decide)) rfl
  rw [show (12 : Int).toNat = 12 from rfl, e]
  simp only [List.getElem?_cons_zero, List.getElem?_cons_succ, List.set_cons_zero, List.set_cons_succ, List.getD_cons_zero, List.getD_cons_succ, ob_some, om_some, b_ok, b_ex, st_ok, st_ex, sq_nx, sq_rt, sq_bk, sq_ct, sq_ex, tu_nx, tu_rt, tu_bk, tu_ct, tu_ex, varR_fz, varR_ol, varR_bl, varR_io, v_var, v_lit, v_tup, v_lst, tupK_0, tupK_1, tupK_2, tupK_3, lstK_0, lstK_1, lstK_2, lstK_3, v_p1, p1K_eq, v_p2, p2K_eq, v_and, v_or, v_not, v_ite, v_call, v_mth, mth0_some, mthK_eq, mthO_some, own_eq, ownO_ol, ownO_io, mkOwn_t, mkOwn_f, v_sl, compK_eq, compT_some, v_comp, compC_none, wipe_nil, wipe_cons, rest_nil, rest_cons, fin_ok, con_fz, con_ol, con_plc, slCon_some, scon_fz, scon_ol, scon_bl, scon_io, set_fz, set_plc, set_ol, lift_some, bool_bl, opt_int, opt_non, toV_fz, toV_ol, toV_plc, toVO_ol, V_nil, V_cons, A_nil, A_cons, I_it1, itK_tup, itK_lst, itK_ol, itK_plc, itS_ol, itS_bl, I_rng1, I_rng2, I_rng3, S_nil, S_cons, S_expr, nxK_eq, S_asg, S_asgT, asgO_some, S_aug, augO_int, augK_add, S_setix, setK_eq, setO_some, setAt_eq, setA_0, S_ite, S_for, forO_some, lock_none, lock_ol, lock_bl, S_ret, S_ret0, S_brk, S_cont, S_pass, S_raise, raiK_some, setS_eq, setSO_no, setSO_fz, setSO_ol, setSO_bl, asgR_fz, asgR_ol, asgR_plc, asgP_ol, asgP_bl, retR_fz, retR_ol, retR_plc, retP_ol, asg_v, asg1_eq, asg1O_no, asg1O_fz, asg1O_ol, asg_tp, ag_nil, ag_cons, arg_nil, arg_fz, arg_plc, argT_ol, argT_bl, argT_olf, calR_ok, calR_ex, calI_t, calI_f, calO_some, io_plc, ioO_ol, ioO_io, forC_some, endF_rt, endF_nx, endF_ex, io_f, io_t, sl_io, sl_f, sl_tl, sl_nil, o_len_t, o_len_l, o_tuple_t, o_tuple_l, o_list_t, o_list_l, o_int, o_neg, o_sum, o_any, o_all, o_max, o_isN, o_notN, o_add, o_sub, o_band, o_bor, o_lt, o_le, o_gt, o_ge, o_eq, o_ne, o_ixT, o_ixL, at_0, at_1, m_pop, m_pop0]
  exact ⟨t, rfl⟩
/-! _law_purse -/
theorem at_il {ns : List Int} {k : Nat} (h : k < ns.length) : L2.atI (il ns) (k : Int) = some (.int ns[k]) := L2.atI_nat (j := k) (by unfold il; rw [List.getElem?_map, List.getElem?_eq_getElem h]; rfl)
theorem il_len (ns : List Int) : (il ns).length = ns.length := by unfold il; simp
theorem il_app (ns : List Int) (x : Int) : il ns ++ [.int x] = il (ns ++ [x]) := by unfold il; simp
def purB : S := (.cons (.asg (.v 4) (.ite (.p2 .ge (.p2 .ix (.var 0) (.var 3)) (.lit (.int 0))) (.p2 .ix (.var 0) (.var 3)) (.p1 .neg (.p2 .ix (.var 0) (.var 3))))) (.cons (.ite (.p2 .ge (.var 4) (.lit (.int 1000000000000000000))) (.cons (.expr (.mth .append 1 (.cons (.p2 .fdiv (.var 4) (.lit (.int 2))) .nil))) (.cons (.expr (.mth .append 2 (.cons (.call 7 (.cons (.p2 .mod (.p1 .int (.var 4)) (.lit (.int 1000003))) (.cons (.var 3) .nil))) .nil))) .nil)) (.cons (.expr (.mth .append 1 (.cons (.call 7 (.cons (.p2 .add (.p2 .mul (.lit (.int 2)) (.p2 .mod (.p1 .int (.var 4)) (.lit (.int 1000000007)))) (.ite (.p2 .lt (.p2 .ix (.var 0) (.var 3)) (.lit (.int 0))) (.lit (.int 1)) (.lit (.int 0)))) (.cons (.var 3) .nil))) .nil))) .nil)) .nil))
theorem pur_loop (h7 : ∀ a b, ∃ v, Φ 7 [.int a, .int b] = .ok (.fz (.int v)) []) (sc : List Int) : ∀ (ps : List Nat) (pu la : List Int) (z z2 : Sl), (∀ p ∈ ps, p < sc.length) → z.isIo = false → z2.isIo = false → pu.length + la.length + 2 * ps.length < 1000 →
    ∃ pu' la' z' z2', forL (asgT (.v 3)) (evS sg Φ mk FU purB) (il (ps.map fun (k : Nat) => (k : Int))) [.bl (il sc), .ol (il pu), .ol (il la), z, z2] = .nx [.bl (il sc), .ol (il pu'), .ol (il la'), z', z2'] ∧ pu'.length + la'.length ≤ pu.length + la.length + 2 * ps.length
  | [], pu, la, z, z2, _, _, _, _ => ⟨pu, la, z, z2, rfl, by simp⟩
  | p :: r, pu, la, z, z2, hp, hz, hz2, hl => by
    have hp0 := hp p (List.mem_cons_self ..)
    have e1 : asgT (.v 3) (.int (p : Int)) [.bl (il sc), .ol (il pu), .ol (il la), z, z2] = some [.bl (il sc), .ol (il pu), .ol (il la), .fz (.int (p : Int)), z2] := by
      rw [asgT]
      cases z <;> first | rfl | cases hz
    rw [show il ((p :: r).map fun (k : Nat) => (k : Int)) = .int (p : Int) :: il (r.map fun (k : Nat) => (k : Int)) from rfl, for_cons, e1]
    have hs : ∀ (t : T), setS 4 (.fz t) [.bl (il sc), .ol (il pu), .ol (il la), .fz (.int (p : Int)), z2] = .nx [.bl (il sc), .ol (il pu), .ol (il la), .fz (.int (p : Int)), .fz t] := fun t => by
      cases z2 <;> first | rfl | cases hz2
    have b1 : (il pu).length < sizeLine := by rw [il_len, sizeLine_eq]; simp at hl; omega
    have b2 : (il la).length < sizeLine := by rw [il_len, sizeLine_eq]; simp at hl; omega
    have s7 : sg 7 = ⟨2, false, [false, false]⟩ := rfl
    unfold purB
    -- the number's size
    obtain ⟨sz, esz⟩ : ∃ sz : Int, ev sg Φ (.ite (.p2 .ge (.p2 .ix (.var 0) (.var 3)) (.lit (.int 0))) (.p2 .ix (.var 0) (.var 3)) (.p1 .neg (.p2 .ix (.var 0) (.var 3)))) [.bl (il sc), .ol (il pu), .ol (il la), .fz (.int (p : Int)), z2]
        = .ok (.fz (.int sz)) [.bl (il sc), .ol (il pu), .ol (il la), .fz (.int (p : Int)), z2] := by
      by_cases hx : 0 ≤ sc[p]
      · exact ⟨sc[p], by simp only [List.getElem?_cons_zero, List.getElem?_cons_succ, List.set_cons_zero, List.set_cons_succ, List.getD_cons_zero, List.getD_cons_succ, ob_some, om_some, b_ok, b_ex, st_ok, st_ex, sq_nx, sq_rt, sq_bk, sq_ct, sq_ex, tu_nx, tu_rt, tu_bk, tu_ct, tu_ex, varR_fz, varR_ol, varR_bl, varR_io, v_var, v_lit, v_tup, v_lst, tupK_0, tupK_1, tupK_2, tupK_3, lstK_0, lstK_1, lstK_2, lstK_3, v_p1, p1K_eq, v_p2, p2K_eq, v_and, v_or, v_not, v_ite, v_call, v_mth, mth0_some, mthK_eq, mthO_some, own_eq, ownO_ol, ownO_io, mkOwn_t, mkOwn_f, v_sl, compK_eq, compT_some, v_comp, compC_none, wipe_nil, wipe_cons, rest_nil, rest_cons, fin_ok, con_fz, con_ol, con_plc, slCon_some, scon_fz, scon_ol, scon_bl, scon_io, set_fz, set_plc, set_ol, lift_some, bool_bl, opt_int, opt_non, toV_fz, toV_ol, toV_plc, toVO_ol, V_nil, V_cons, A_nil, A_cons, I_it1, itK_tup, itK_lst, itK_ol, itK_plc, itS_ol, itS_bl, I_rng1, I_rng2, I_rng3, S_nil, S_cons, S_expr, nxK_eq, S_asg, S_asgT, asgO_some, S_aug, augO_int, augK_add, S_setix, setK_eq, setO_some, setAt_eq, setA_0, S_ite, S_for, forO_some, lock_none, lock_ol, lock_bl, S_ret, S_ret0, S_brk, S_cont, S_pass, S_raise, raiK_some, setS_eq, setSO_no, setSO_fz, setSO_ol, setSO_bl, asgR_fz, asgR_ol, asgR_plc, asgP_ol, asgP_bl, retR_fz, retR_ol, retR_plc, retP_ol, asg_v, asg1_eq, asg1O_no, asg1O_fz, asg1O_ol, asg_tp, ag_nil, ag_cons, arg_nil, arg_fz, arg_plc, argT_ol, argT_bl, argT_olf, calR_ok, calR_ex, calI_t, calI_f, calO_some, io_plc, ioO_ol, ioO_io, forC_some, endF_rt, endF_nx, endF_ex, io_f, io_t, sl_io, sl_f, sl_tl, sl_nil, o_len_t, o_len_l, o_tuple_t, o_tuple_l, o_list_t, o_list_l, o_int, o_neg, o_sum, o_any, o_all, o_max, o_isN, o_notN, o_add, o_sub, o_band, o_bor, o_lt, o_le, o_gt, o_ge, o_eq, o_ne, o_ixT, o_ixL, at_0, at_1, m_pop, m_pop0, at_il hp0, hx, decide_true, decide_false, Bool.false_eq_true, reduceIte, Bool.not_true, Bool.not_false]⟩
      · exact ⟨-sc[p], by simp only [List.getElem?_cons_zero, List.getElem?_cons_succ, List.set_cons_zero, List.set_cons_succ, List.getD_cons_zero, List.getD_cons_succ, ob_some, om_some, b_ok, b_ex, st_ok, st_ex, sq_nx, sq_rt, sq_bk, sq_ct, sq_ex, tu_nx, tu_rt, tu_bk, tu_ct, tu_ex, varR_fz, varR_ol, varR_bl, varR_io, v_var, v_lit, v_tup, v_lst, tupK_0, tupK_1, tupK_2, tupK_3, lstK_0, lstK_1, lstK_2, lstK_3, v_p1, p1K_eq, v_p2, p2K_eq, v_and, v_or, v_not, v_ite, v_call, v_mth, mth0_some, mthK_eq, mthO_some, own_eq, ownO_ol, ownO_io, mkOwn_t, mkOwn_f, v_sl, compK_eq, compT_some, v_comp, compC_none, wipe_nil, wipe_cons, rest_nil, rest_cons, fin_ok, con_fz, con_ol, con_plc, slCon_some, scon_fz, scon_ol, scon_bl, scon_io, set_fz, set_plc, set_ol, lift_some, bool_bl, opt_int, opt_non, toV_fz, toV_ol, toV_plc, toVO_ol, V_nil, V_cons, A_nil, A_cons, I_it1, itK_tup, itK_lst, itK_ol, itK_plc, itS_ol, itS_bl, I_rng1, I_rng2, I_rng3, S_nil, S_cons, S_expr, nxK_eq, S_asg, S_asgT, asgO_some, S_aug, augO_int, augK_add, S_setix, setK_eq, setO_some, setAt_eq, setA_0, S_ite, S_for, forO_some, lock_none, lock_ol, lock_bl, S_ret, S_ret0, S_brk, S_cont, S_pass, S_raise, raiK_some, setS_eq, setSO_no, setSO_fz, setSO_ol, setSO_bl, asgR_fz, asgR_ol, asgR_plc, asgP_ol, asgP_bl, retR_fz, retR_ol, retR_plc, retP_ol, asg_v, asg1_eq, asg1O_no, asg1O_fz, asg1O_ol, asg_tp, ag_nil, ag_cons, arg_nil, arg_fz, arg_plc, argT_ol, argT_bl, argT_olf, calR_ok, calR_ex, calI_t, calI_f, calO_some, io_plc, ioO_ol, ioO_io, forC_some, endF_rt, endF_nx, endF_ex, io_f, io_t, sl_io, sl_f, sl_tl, sl_nil, o_len_t, o_len_l, o_tuple_t, o_tuple_l, o_list_t, o_list_l, o_int, o_neg, o_sum, o_any, o_all, o_max, o_isN, o_notN, o_add, o_sub, o_band, o_bor, o_lt, o_le, o_gt, o_ge, o_eq, o_ne, o_ixT, o_ixL, at_0, at_1, m_pop, m_pop0, at_il hp0, hx, decide_true, decide_false, Bool.false_eq_true, reduceIte, Bool.not_true, Bool.not_false]⟩
    simp only [forC_some, S_cons, S_asg, esz, st_ok, asgR_fz, hs, sq_nx]
    by_cases hb : 1000000000000000000 ≤ sz
    · obtain ⟨v, ev7⟩ := h7 (sz.fmod 1000003) p
      simp only [List.getElem?_cons_zero, List.getElem?_cons_succ, List.set_cons_zero, List.set_cons_succ, List.getD_cons_zero, List.getD_cons_succ, ob_some, om_some, b_ok, b_ex, st_ok, st_ex, sq_nx, sq_rt, sq_bk, sq_ct, sq_ex, tu_nx, tu_rt, tu_bk, tu_ct, tu_ex, varR_fz, varR_ol, varR_bl, varR_io, v_var, v_lit, v_tup, v_lst, tupK_0, tupK_1, tupK_2, tupK_3, lstK_0, lstK_1, lstK_2, lstK_3, v_p1, p1K_eq, v_p2, p2K_eq, v_and, v_or, v_not, v_ite, v_call, v_mth, mth0_some, mthK_eq, mthO_some, own_eq, ownO_ol, ownO_io, mkOwn_t, mkOwn_f, v_sl, compK_eq, compT_some, v_comp, compC_none, wipe_nil, wipe_cons, rest_nil, rest_cons, fin_ok, con_fz, con_ol, con_plc, slCon_some, scon_fz, scon_ol, scon_bl, scon_io, set_fz, set_plc, set_ol, lift_some, bool_bl, opt_int, opt_non, toV_fz, toV_ol, toV_plc, toVO_ol, V_nil, V_cons, A_nil, A_cons, I_it1, itK_tup, itK_lst, itK_ol, itK_plc, itS_ol, itS_bl, I_rng1, I_rng2, I_rng3, S_nil, S_cons, S_expr, nxK_eq, S_asg, S_asgT, asgO_some, S_aug, augO_int, augK_add, S_setix, setK_eq, setO_some, setAt_eq, setA_0, S_ite, S_for, forO_some, lock_none, lock_ol, lock_bl, S_ret, S_ret0, S_brk, S_cont, S_pass, S_raise, raiK_some, setS_eq, setSO_no, setSO_fz, setSO_ol, setSO_bl, asgR_fz, asgR_ol, asgR_plc, asgP_ol, asgP_bl, retR_fz, retR_ol, retR_plc, retP_ol, asg_v, asg1_eq, asg1O_no, asg1O_fz, asg1O_ol, asg_tp, ag_nil, ag_cons, arg_nil, arg_fz, arg_plc, argT_ol, argT_bl, argT_olf, calR_ok, calR_ex, calI_t, calI_f, calO_some, io_plc, ioO_ol, ioO_io, forC_some, endF_rt, endF_nx, endF_ex, io_f, io_t, sl_io, sl_f, sl_tl, sl_nil, o_len_t, o_len_l, o_tuple_t, o_tuple_l, o_list_t, o_list_l, o_int, o_neg, o_sum, o_any, o_all, o_max, o_isN, o_notN, o_add, o_sub, o_band, o_bor, o_lt, o_le, o_gt, o_ge, o_eq, o_ne, o_ixT, o_ixL, at_0, at_1, m_pop, m_pop0, hb, decide_true, decide_false, Bool.false_eq_true, reduceIte, Bool.not_true, Bool.not_false, o_fdiv (show divOk 2 by decide), m_append b1, m_append b2, o_mod (show (1000003 : Int) ≠ 0 by decide), call_plain s7, ev7, il_app]
      obtain ⟨pu', la', z', z2', e, hl'⟩ := pur_loop h7 sc r (pu ++ [sz.fdiv 2]) (la ++ [v]) (.fz (.int p)) (.fz (.int sz)) (fun q hq => hp q (List.mem_cons_of_mem _ hq)) rfl rfl (by simp at hl ⊢; omega)
      exact ⟨pu', la', z', z2', e, by simp at hl' ⊢; omega⟩
    · obtain ⟨w, ew⟩ : ∃ w : Int, ev sg Φ (.ite (.p2 .lt (.p2 .ix (.var 0) (.var 3)) (.lit (.int 0))) (.lit (.int 1)) (.lit (.int 0))) [.bl (il sc), .ol (il pu), .ol (il la), .fz (.int (p : Int)), .fz (.int sz)]
          = .ok (.fz (.int w)) [.bl (il sc), .ol (il pu), .ol (il la), .fz (.int (p : Int)), .fz (.int sz)] := by
        by_cases hx : sc[p] < 0
        · exact ⟨1, by simp only [List.getElem?_cons_zero, List.getElem?_cons_succ, List.set_cons_zero, List.set_cons_succ, List.getD_cons_zero, List.getD_cons_succ, ob_some, om_some, b_ok, b_ex, st_ok, st_ex, sq_nx, sq_rt, sq_bk, sq_ct, sq_ex, tu_nx, tu_rt, tu_bk, tu_ct, tu_ex, varR_fz, varR_ol, varR_bl, varR_io, v_var, v_lit, v_tup, v_lst, tupK_0, tupK_1, tupK_2, tupK_3, lstK_0, lstK_1, lstK_2, lstK_3, v_p1, p1K_eq, v_p2, p2K_eq, v_and, v_or, v_not, v_ite, v_call, v_mth, mth0_some, mthK_eq, mthO_some, own_eq, ownO_ol, ownO_io, mkOwn_t, mkOwn_f, v_sl, compK_eq, compT_some, v_comp, compC_none, wipe_nil, wipe_cons, rest_nil, rest_cons, fin_ok, con_fz, con_ol, con_plc, slCon_some, scon_fz, scon_ol, scon_bl, scon_io, set_fz, set_plc, set_ol, lift_some, bool_bl, opt_int, opt_non, toV_fz, toV_ol, toV_plc, toVO_ol, V_nil, V_cons, A_nil, A_cons, I_it1, itK_tup, itK_lst, itK_ol, itK_plc, itS_ol, itS_bl, I_rng1, I_rng2, I_rng3, S_nil, S_cons, S_expr, nxK_eq, S_asg, S_asgT, asgO_some, S_aug, augO_int, augK_add, S_setix, setK_eq, setO_some, setAt_eq, setA_0, S_ite, S_for, forO_some, lock_none, lock_ol, lock_bl, S_ret, S_ret0, S_brk, S_cont, S_pass, S_raise, raiK_some, setS_eq, setSO_no, setSO_fz, setSO_ol, setSO_bl, asgR_fz, asgR_ol, asgR_plc, asgP_ol, asgP_bl, retR_fz, retR_ol, retR_plc, retP_ol, asg_v, asg1_eq, asg1O_no, asg1O_fz, asg1O_ol, asg_tp, ag_nil, ag_cons, arg_nil, arg_fz, arg_plc, argT_ol, argT_bl, argT_olf, calR_ok, calR_ex, calI_t, calI_f, calO_some, io_plc, ioO_ol, ioO_io, forC_some, endF_rt, endF_nx, endF_ex, io_f, io_t, sl_io, sl_f, sl_tl, sl_nil, o_len_t, o_len_l, o_tuple_t, o_tuple_l, o_list_t, o_list_l, o_int, o_neg, o_sum, o_any, o_all, o_max, o_isN, o_notN, o_add, o_sub, o_band, o_bor, o_lt, o_le, o_gt, o_ge, o_eq, o_ne, o_ixT, o_ixL, at_0, at_1, m_pop, m_pop0, at_il hp0, hx, decide_true, decide_false, Bool.false_eq_true, reduceIte, Bool.not_true, Bool.not_false]⟩
        · exact ⟨0, by simp only [List.getElem?_cons_zero, List.getElem?_cons_succ, List.set_cons_zero, List.set_cons_succ, List.getD_cons_zero, List.getD_cons_succ, ob_some, om_some, b_ok, b_ex, st_ok, st_ex, sq_nx, sq_rt, sq_bk, sq_ct, sq_ex, tu_nx, tu_rt, tu_bk, tu_ct, tu_ex, varR_fz, varR_ol, varR_bl, varR_io, v_var, v_lit, v_tup, v_lst, tupK_0, tupK_1, tupK_2, tupK_3, lstK_0, lstK_1, lstK_2, lstK_3, v_p1, p1K_eq, v_p2, p2K_eq, v_and, v_or, v_not, v_ite, v_call, v_mth, mth0_some, mthK_eq, mthO_some, own_eq, ownO_ol, ownO_io, mkOwn_t, mkOwn_f, v_sl, compK_eq, compT_some, v_comp, compC_none, wipe_nil, wipe_cons, rest_nil, rest_cons, fin_ok, con_fz, con_ol, con_plc, slCon_some, scon_fz, scon_ol, scon_bl, scon_io, set_fz, set_plc, set_ol, lift_some, bool_bl, opt_int, opt_non, toV_fz, toV_ol, toV_plc, toVO_ol, V_nil, V_cons, A_nil, A_cons, I_it1, itK_tup, itK_lst, itK_ol, itK_plc, itS_ol, itS_bl, I_rng1, I_rng2, I_rng3, S_nil, S_cons, S_expr, nxK_eq, S_asg, S_asgT, asgO_some, S_aug, augO_int, augK_add, S_setix, setK_eq, setO_some, setAt_eq, setA_0, S_ite, S_for, forO_some, lock_none, lock_ol, lock_bl, S_ret, S_ret0, S_brk, S_cont, S_pass, S_raise, raiK_some, setS_eq, setSO_no, setSO_fz, setSO_ol, setSO_bl, asgR_fz, asgR_ol, asgR_plc, asgP_ol, asgP_bl, retR_fz, retR_ol, retR_plc, retP_ol, asg_v, asg1_eq, asg1O_no, asg1O_fz, asg1O_ol, asg_tp, ag_nil, ag_cons, arg_nil, arg_fz, arg_plc, argT_ol, argT_bl, argT_olf, calR_ok, calR_ex, calI_t, calI_f, calO_some, io_plc, ioO_ol, ioO_io, forC_some, endF_rt, endF_nx, endF_ex, io_f, io_t, sl_io, sl_f, sl_tl, sl_nil, o_len_t, o_len_l, o_tuple_t, o_tuple_l, o_list_t, o_list_l, o_int, o_neg, o_sum, o_any, o_all, o_max, o_isN, o_notN, o_add, o_sub, o_band, o_bor, o_lt, o_le, o_gt, o_ge, o_eq, o_ne, o_ixT, o_ixL, at_0, at_1, m_pop, m_pop0, at_il hp0, hx, decide_true, decide_false, Bool.false_eq_true, reduceIte, Bool.not_true, Bool.not_false]⟩
      obtain ⟨v, ev7⟩ := h7 (2 * sz.fmod 1000000007 + w) p
      simp only [S_ite, v_p2, v_var, v_lit, List.getElem?_cons_zero, List.getElem?_cons_succ, varR_fz, b_ok, p2K_eq, con_fz, set_fz, Option.bind_some, o_ge, hb, decide_true, decide_false, Bool.false_eq_true, reduceIte, Bool.not_true, Bool.not_false, lift_some, st_ok, bool_bl, S_cons, S_expr, v_mth, own_eq, ownO_ol, mth0_some, V_cons, v_call, A_cons, v_p1, p1K_eq, o_int, o_mod (show (1000000007 : Int) ≠ 0 by decide),
        o_mul (show mulOk 2 (sz.fmod 1000000007) from .inl (by decide)), ew, o_add, A_nil, call_plain s7, arg_fz, arg_nil, calR_ok, ev7, toV_fz, V_nil, mthK_eq, mthO_some, m_append b1, mkOwn_f, List.set_cons_zero, List.set_cons_succ, nxK_eq, sq_nx, S_nil, tu_nx, il_app]
      obtain ⟨pu', la', z', z2', e, hl'⟩ := pur_loop h7 sc r (pu ++ [v]) la (.fz (.int p)) (.fz (.int sz)) (fun q hq => hp q (List.mem_cons_of_mem _ hq)) rfl rfl (by simp at hl ⊢; omega)
      exact ⟨pu', la', z', z2', e, by simp at hl' ⊢; omega⟩
theorem purse_ok (h7 : ∀ a b, ∃ v, Φ 7 [.int a, .int b] = .ok (.fz (.int v)) []) (sc : List Int) (hsc : sc.length ≤ 63) : ∃ ns, evD sg Φ mk FU (sg 8) ⟨5, ir__law_purse⟩ [.lst (il sc)] = .ok (.ol (il ns)) [] ∧ ns.length ≤ 127 := by
  rw [evD_eq, show sg 8 = ⟨1, false, [true]⟩ from rfl]
  have e0 : ir__law_purse = (.cons (.asg (.v 1) (.lst .nil)) (.cons (.asg (.v 2) (.lst .nil)) (.cons (.for (.v 3) (.rng1 (.p1 .len (.sl (.var 0) (.lit .non) (.lit (.int 63))))) purB) (.cons (.ret (.ite (.p2 .gt (.p1 .len (.var 1)) (.lit (.int 0))) (.p2 .add (.var 1) (.var 2)) (.lst (.cons (.call 7 (.cons (.lit (.int 0)) (.cons (.lit (.int 99)) .nil))) .nil)))) .nil)))) := rfl
  rw [e0]
  have cut : apSl (.lst (il sc)) none (some 63) = some (.ol (il sc)) := by
    show some (Rs.ol (((il sc).drop (HT.sIx (il sc).length 0 none)).take (HT.sIx (il sc).length (il sc).length (some 63) - HT.sIx (il sc).length 0 none))) = _
    rw [HT.sIx_none, show (63 : Int) = ((63 : Nat) : Int) from rfl, HT.sIx_nat, il_len]
    have : min 63 sc.length = sc.length := by omega
    rw [this]
    simp only [Nat.zero_min, Nat.sub_zero, List.drop_zero]
    rw [List.take_of_length_le (by rw [il_len]; exact Nat.le_refl _)]
  have hb : inBig ((il sc).length : Int) = true := by
    unfold inBig
    rw [il_len]
    exact decide_eq_true (by omega)
  simp only [sl_io, sl_f, sl_tl, sl_nil, List.length_cons, List.length_nil, List.replicate, List.cons_append, List.nil_append]
  simp only [List.getElem?_cons_zero, List.getElem?_cons_succ, List.set_cons_zero, List.set_cons_succ, List.getD_cons_zero, List.getD_cons_succ, ob_some, om_some, b_ok, b_ex, st_ok, st_ex, sq_nx, sq_rt, sq_bk, sq_ct, sq_ex, tu_nx, tu_rt, tu_bk, tu_ct, tu_ex, varR_fz, varR_ol, varR_bl, varR_io, v_var, v_lit, v_tup, v_lst, tupK_0, tupK_1, tupK_2, tupK_3, lstK_0, lstK_1, lstK_2, lstK_3, v_p1, p1K_eq, v_p2, p2K_eq, v_and, v_or, v_not, v_ite, v_call, v_mth, mth0_some, mthK_eq, mthO_some, own_eq, ownO_ol, ownO_io, mkOwn_t, mkOwn_f, v_sl, compK_eq, compT_some, v_comp, compC_none, wipe_nil, wipe_cons, rest_nil, rest_cons, fin_ok, con_fz, con_ol, con_plc, slCon_some, scon_fz, scon_ol, scon_bl, scon_io, set_fz, set_plc, set_ol, lift_some, bool_bl, opt_int, opt_non, toV_fz, toV_ol, toV_plc, toVO_ol, V_nil, V_cons, A_nil, A_cons, I_it1, itK_tup, itK_lst, itK_ol, itK_plc, itS_ol, itS_bl, I_rng1, I_rng2, I_rng3, S_nil, S_cons, S_expr, nxK_eq, S_asg, S_asgT, asgO_some, S_aug, augO_int, augK_add, S_setix, setK_eq, setO_some, setAt_eq, setA_0, S_ite, S_for, forO_some, lock_none, lock_ol, lock_bl, S_ret, S_ret0, S_brk, S_cont, S_pass, S_raise, raiK_some, setS_eq, setSO_no, setSO_fz, setSO_ol, setSO_bl, asgR_fz, asgR_ol, asgR_plc, asgP_ol, asgP_bl, retR_fz, retR_ol, retR_plc, retP_ol, asg_v, asg1_eq, asg1O_no, asg1O_fz, asg1O_ol, asg_tp, ag_nil, ag_cons, arg_nil, arg_fz, arg_plc, argT_ol, argT_bl, argT_olf, calR_ok, calR_ex, calI_t, calI_f, calO_some, io_plc, ioO_ol, ioO_io, forC_some, endF_rt, endF_nx, endF_ex, io_f, io_t, sl_io, sl_f, sl_tl, sl_nil, o_len_t, o_len_l, o_tuple_t, o_tuple_l, o_list_t, o_list_l, o_int, o_neg, o_sum, o_any, o_all, o_max, o_isN, o_notN, o_add, o_sub, o_band, o_bor, o_lt, o_le, o_gt, o_ge, o_eq, o_ne, o_ixT, o_ixL, at_0, at_1, m_pop, m_pop0, cut, rg1_ok hb]
  rw [rangeI_il, show (((il sc).length : Int)).toNat = sc.length by rw [il_len]; rfl]
  obtain ⟨pu, la, z, z2, e, hl⟩ := pur_loop Φ h7 sc (List.range sc.length) [] [] .no .no (fun p hp => List.mem_range.mp hp) rfl rfl (by simp; omega)
  have e' := e
  simp only [show il [] = [] from rfl] at e'
  rw [e']
  simp at hl
  have s7 : sg 7 = ⟨2, false, [false, false]⟩ := rfl
  by_cases h0 : (0 : Int) < ((il pu).length : Int)
  · refine ⟨pu ++ la, ?_, by simp; omega⟩
    have hz : (il pu).length + (il la).length ≤ sizeLine := by rw [il_len, il_len, sizeLine_eq]; omega
    simp only [List.getElem?_cons_zero, List.getElem?_cons_succ, List.set_cons_zero, List.set_cons_succ, List.getD_cons_zero, List.getD_cons_succ, ob_some, om_some, b_ok, b_ex, st_ok, st_ex, sq_nx, sq_rt, sq_bk, sq_ct, sq_ex, tu_nx, tu_rt, tu_bk, tu_ct, tu_ex, varR_fz, varR_ol, varR_bl, varR_io, v_var, v_lit, v_tup, v_lst, tupK_0, tupK_1, tupK_2, tupK_3, lstK_0, lstK_1, lstK_2, lstK_3, v_p1, p1K_eq, v_p2, p2K_eq, v_and, v_or, v_not, v_ite, v_call, v_mth, mth0_some, mthK_eq, mthO_some, own_eq, ownO_ol, ownO_io, mkOwn_t, mkOwn_f, v_sl, compK_eq, compT_some, v_comp, compC_none, wipe_nil, wipe_cons, rest_nil, rest_cons, fin_ok, con_fz, con_ol, con_plc, slCon_some, scon_fz, scon_ol, scon_bl, scon_io, set_fz, set_plc, set_ol, lift_some, bool_bl, opt_int, opt_non, toV_fz, toV_ol, toV_plc, toVO_ol, V_nil, V_cons, A_nil, A_cons, I_it1, itK_tup, itK_lst, itK_ol, itK_plc, itS_ol, itS_bl, I_rng1, I_rng2, I_rng3, S_nil, S_cons, S_expr, nxK_eq, S_asg, S_asgT, asgO_some, S_aug, augO_int, augK_add, S_setix, setK_eq, setO_some, setAt_eq, setA_0, S_ite, S_for, forO_some, lock_none, lock_ol, lock_bl, S_ret, S_ret0, S_brk, S_cont, S_pass, S_raise, raiK_some, setS_eq, setSO_no, setSO_fz, setSO_ol, setSO_bl, asgR_fz, asgR_ol, asgR_plc, asgP_ol, asgP_bl, retR_fz, retR_ol, retR_plc, retP_ol, asg_v, asg1_eq, asg1O_no, asg1O_fz, asg1O_ol, asg_tp, ag_nil, ag_cons, arg_nil, arg_fz, arg_plc, argT_ol, argT_bl, argT_olf, calR_ok, calR_ex, calI_t, calI_f, calO_some, io_plc, ioO_ol, ioO_io, forC_some, endF_rt, endF_nx, endF_ex, io_f, io_t, sl_io, sl_f, sl_tl, sl_nil, o_len_t, o_len_l, o_tuple_t, o_tuple_l, o_list_t, o_list_l, o_int, o_neg, o_sum, o_any, o_all, o_max, o_isN, o_notN, o_add, o_sub, o_band, o_bor, o_lt, o_le, o_gt, o_ge, o_eq, o_ne, o_ixT, o_ixL, at_0, at_1, m_pop, m_pop0, h0, decide_true, decide_false, Bool.false_eq_true, reduceIte, Bool.not_true, Bool.not_false, o_addL hz]
    unfold il
    rw [List.map_append]
  · obtain ⟨v, ev7⟩ := h7 0 99
    refine ⟨[v], ?_, by simp⟩
    simp only [List.getElem?_cons_zero, List.getElem?_cons_succ, List.set_cons_zero, List.set_cons_succ, List.getD_cons_zero, List.getD_cons_succ, ob_some, om_some, b_ok, b_ex, st_ok, st_ex, sq_nx, sq_rt, sq_bk, sq_ct, sq_ex, tu_nx, tu_rt, tu_bk, tu_ct, tu_ex, varR_fz, varR_ol, varR_bl, varR_io, v_var, v_lit, v_tup, v_lst, tupK_0, tupK_1, tupK_2, tupK_3, lstK_0, lstK_1, lstK_2, lstK_3, v_p1, p1K_eq, v_p2, p2K_eq, v_and, v_or, v_not, v_ite, v_call, v_mth, mth0_some, mthK_eq, mthO_some, own_eq, ownO_ol, ownO_io, mkOwn_t, mkOwn_f, v_sl, compK_eq, compT_some, v_comp, compC_none, wipe_nil, wipe_cons, rest_nil, rest_cons, fin_ok, con_fz, con_ol, con_plc, slCon_some, scon_fz, scon_ol, scon_bl, scon_io, set_fz, set_plc, set_ol, lift_some, bool_bl, opt_int, opt_non, toV_fz, toV_ol, toV_plc, toVO_ol, V_nil, V_cons, A_nil, A_cons, I_it1, itK_tup, itK_lst, itK_ol, itK_plc, itS_ol, itS_bl, I_rng1, I_rng2, I_rng3, S_nil, S_cons, S_expr, nxK_eq, S_asg, S_asgT, asgO_some, S_aug, augO_int, augK_add, S_setix, setK_eq, setO_some, setAt_eq, setA_0, S_ite, S_for, forO_some, lock_none, lock_ol, lock_bl, S_ret, S_ret0, S_brk, S_cont, S_pass, S_raise, raiK_some, setS_eq, setSO_no, setSO_fz, setSO_ol, setSO_bl, asgR_fz, asgR_ol, asgR_plc, asgP_ol, asgP_bl, retR_fz, retR_ol, retR_plc, retP_ol, asg_v, asg1_eq, asg1O_no, asg1O_fz, asg1O_ol, asg_tp, ag_nil, ag_cons, arg_nil, arg_fz, arg_plc, argT_ol, argT_bl, argT_olf, calR_ok, calR_ex, calI_t, calI_f, calO_some, io_plc, ioO_ol, ioO_io, forC_some, endF_rt, endF_nx, endF_ex, io_f, io_t, sl_io, sl_f, sl_tl, sl_nil, o_len_t, o_len_l, o_tuple_t, o_tuple_l, o_list_t, o_list_l, o_int, o_neg, o_sum, o_any, o_all, o_max, o_isN, o_notN, o_add, o_sub, o_band, o_bor, o_lt, o_le, o_gt, o_ge, o_eq, o_ne, o_ixT, o_ixL, at_0, at_1, m_pop, m_pop0, h0, decide_true, decide_false, Bool.false_eq_true, reduceIte, Bool.not_true, Bool.not_false, call_plain s7, ev7]
    rfl
/-! _law_row -/
theorem row_loop (h9 : ∀ (ns : List Int) (m : Int), 0 < m → m < 1000 → ns.length < 1000000000 → ∃ t ns', Φ 9 [.lst (il ns), .int m] = .ok (.fz (.int t)) (il ns') ∧ 0 ≤ t ∧ t < m ∧ ns'.length ≤ ns.length) (lg m : Int) (hm : 0 < m) (hm2 : m < 1000) :
    ∀ (xs : List Int) (acc : List Int) (ns : List Int) (z : Sl), ns.length < 1000000000 → acc.length + xs.length < 1000 → z.isIo = false → ∃ vs ns' z', compL (compK sg Φ (.call 9 (.cons (.var 0) (.cons (.var 2) .nil))) (.v 3) (.lit (.bl true))) none [3] (il xs) (il acc) [.io (il ns), .fz (.int lg), .fz (.int m), z]
      = .ok (il (acc ++ vs)) [.io (il ns'), .fz (.int lg), .fz (.int m), z'] ∧ vs.length = xs.length ∧ ns'.length ≤ ns.length
  | [], acc, ns, z, _, _, _ => ⟨[], ns, z, by rw [List.append_nil]; rfl, rfl, Nat.le_refl _⟩
  | x :: r, acc, ns, z, hn, ha, hz => by
    obtain ⟨t, ns1, e9, _, _, hl⟩ := h9 ns m hm hm2 hn
    have s9 : sg 9 = ⟨2, true, [false]⟩ := rfl
    have b1 : (il acc).length < sizeLine := by rw [il_len, sizeLine_eq]; simp at ha; omega
    obtain ⟨vs, ns', z', e, h1, h2⟩ := row_loop h9 lg m hm hm2 r (acc ++ [t]) ns1 (.fz (.int x)) (by omega) (by simp at ha ⊢; omega) rfl
    refine ⟨t :: vs, ns', z', ?_, by simp [h1], by omega⟩
    rw [show il (x :: r) = .int x :: il r from rfl, comp_cons]
    simp only [List.getElem?_cons_zero, List.getElem?_cons_succ, List.set_cons_zero, List.set_cons_succ, List.getD_cons_zero, List.getD_cons_succ, ob_some, om_some, b_ok, b_ex, st_ok, st_ex, sq_nx, sq_rt, sq_bk, sq_ct, sq_ex, tu_nx, tu_rt, tu_bk, tu_ct, tu_ex, varR_fz, varR_ol, varR_bl, varR_io, v_var, v_lit, v_tup, v_lst, tupK_0, tupK_1, tupK_2, tupK_3, lstK_0, lstK_1, lstK_2, lstK_3, v_p1, p1K_eq, v_p2, p2K_eq, v_and, v_or, v_not, v_ite, v_call, v_mth, mth0_some, mthK_eq, mthO_some, own_eq, ownO_ol, ownO_io, mkOwn_t, mkOwn_f, v_sl, compK_eq, compT_some, v_comp, compC_none, wipe_nil, wipe_cons, rest_nil, rest_cons, fin_ok, con_fz, con_ol, con_plc, slCon_some, scon_fz, scon_ol, scon_bl, scon_io, set_fz, set_plc, set_ol, lift_some, bool_bl, opt_int, opt_non, toV_fz, toV_ol, toV_plc, toVO_ol, V_nil, V_cons, A_nil, A_cons, I_it1, itK_tup, itK_lst, itK_ol, itK_plc, itS_ol, itS_bl, I_rng1, I_rng2, I_rng3, S_nil, S_cons, S_expr, nxK_eq, S_asg, S_asgT, asgO_some, S_aug, augO_int, augK_add, S_setix, setK_eq, setO_some, setAt_eq, setA_0, S_ite, S_for, forO_some, lock_none, lock_ol, lock_bl, S_ret, S_ret0, S_brk, S_cont, S_pass, S_raise, raiK_some, setS_eq, setSO_no, setSO_fz, setSO_ol, setSO_bl, asgR_fz, asgR_ol, asgR_plc, asgP_ol, asgP_bl, retR_fz, retR_ol, retR_plc, retP_ol, asg_v, asg1_eq, asg1O_no, asg1O_fz, asg1O_ol, asg_tp, ag_nil, ag_cons, arg_nil, arg_fz, arg_plc, argT_ol, argT_bl, argT_olf, calR_ok, calR_ex, calI_t, calI_f, calO_some, io_plc, ioO_ol, ioO_io, forC_some, endF_rt, endF_nx, endF_ex, io_f, io_t, sl_io, sl_f, sl_tl, sl_nil, o_len_t, o_len_l, o_tuple_t, o_tuple_l, o_list_t, o_list_l, o_int, o_neg, o_sum, o_any, o_all, o_max, o_isN, o_notN, o_add, o_sub, o_band, o_bor, o_lt, o_le, o_gt, o_ge, o_eq, o_ne, o_ixT, o_ixL, at_0, at_1, m_pop, m_pop0, decide_true, decide_false, Bool.false_eq_true, reduceIte, Bool.not_true, Bool.not_false, call_io s9, e9, compC_some b1, il_app]
    rw [e]
    simp
theorem row_ok (h9 : ∀ (ns : List Int) (m : Int), 0 < m → m < 1000 → ns.length < 1000000000 → ∃ t ns', Φ 9 [.lst (il ns), .int m] = .ok (.fz (.int t)) (il ns') ∧ 0 ≤ t ∧ t < m ∧ ns'.length ≤ ns.length) (ns : List Int) (L : Nat) (m : Int) (hL : L < 100) (hm : 0 < m) (hm2 : m < 1000) (hn : ns.length < 1000000000) :
    ∃ vs ns', evD sg Φ mk FU (sg 10) ⟨4, ir__law_row⟩ [.lst (il ns), .int (L : Int), .int m] = .ok (.fz (.tup (il vs))) (il ns') ∧ vs.length = L ∧ ns'.length ≤ ns.length := by
  rw [evD_eq, show sg 10 = ⟨3, true, [false, false]⟩ from rfl]
  unfold ir__law_row
  have hb : inBig (L : Int) = true := by
    unfold inBig
    exact decide_eq_true (by omega)
  simp only [sl_io, sl_f, sl_tl, sl_nil, List.length_cons, List.length_nil, List.replicate, List.cons_append, List.nil_append]
  simp only [List.getElem?_cons_zero, List.getElem?_cons_succ, List.set_cons_zero, List.set_cons_succ, List.getD_cons_zero, List.getD_cons_succ, ob_some, om_some, b_ok, b_ex, st_ok, st_ex, sq_nx, sq_rt, sq_bk, sq_ct, sq_ex, tu_nx, tu_rt, tu_bk, tu_ct, tu_ex, varR_fz, varR_ol, varR_bl, varR_io, v_var, v_lit, v_tup, v_lst, tupK_0, tupK_1, tupK_2, tupK_3, lstK_0, lstK_1, lstK_2, lstK_3, v_p1, p1K_eq, v_p2, p2K_eq, v_and, v_or, v_not, v_ite, v_call, v_mth, mth0_some, mthK_eq, mthO_some, own_eq, ownO_ol, ownO_io, mkOwn_t, mkOwn_f, v_sl, compK_eq, compT_some, v_comp, compC_none, wipe_nil, wipe_cons, rest_nil, rest_cons, fin_ok, con_fz, con_ol, con_plc, slCon_some, scon_fz, scon_ol, scon_bl, scon_io, set_fz, set_plc, set_ol, lift_some, bool_bl, opt_int, opt_non, toV_fz, toV_ol, toV_plc, toVO_ol, V_nil, V_cons, A_nil, A_cons, I_it1, itK_tup, itK_lst, itK_ol, itK_plc, itS_ol, itS_bl, I_rng1, I_rng2, I_rng3, S_nil, S_cons, S_expr, nxK_eq, S_asg, S_asgT, asgO_some, S_aug, augO_int, augK_add, S_setix, setK_eq, setO_some, setAt_eq, setA_0, S_ite, S_for, forO_some, lock_none, lock_ol, lock_bl, S_ret, S_ret0, S_brk, S_cont, S_pass, S_raise, raiK_some, setS_eq, setSO_no, setSO_fz, setSO_ol, setSO_bl, asgR_fz, asgR_ol, asgR_plc, asgP_ol, asgP_bl, retR_fz, retR_ol, retR_plc, retP_ol, asg_v, asg1_eq, asg1O_no, asg1O_fz, asg1O_ol, asg_tp, ag_nil, ag_cons, arg_nil, arg_fz, arg_plc, argT_ol, argT_bl, argT_olf, calR_ok, calR_ex, calI_t, calI_f, calO_some, io_plc, ioO_ol, ioO_io, forC_some, endF_rt, endF_nx, endF_ex, io_f, io_t, sl_io, sl_f, sl_tl, sl_nil, o_len_t, o_len_l, o_tuple_t, o_tuple_l, o_list_t, o_list_l, o_int, o_neg, o_sum, o_any, o_all, o_max, o_isN, o_notN, o_add, o_sub, o_band, o_bor, o_lt, o_le, o_gt, o_ge, o_eq, o_ne, o_ixT, o_ixL, at_0, at_1, m_pop, m_pop0, rg1_ok hb]
  rw [rangeI_il, show ((L : Int)).toNat = L from rfl]
  obtain ⟨vs, ns', z', e, h1, h2⟩ := row_loop Φ h9 L m hm hm2 ((List.range L).map fun (k : Nat) => (k : Int)) [] ns .no hn (by simp; omega) rfl
  rw [compE_eq (by rfl)]
  rw [show il [] = [] from rfl] at e
  rw [e]
  refine ⟨vs, ns', ?_, by simpa using h1, h2⟩
  simp only [List.getElem?_cons_zero, List.getElem?_cons_succ, List.set_cons_zero, List.set_cons_succ, List.getD_cons_zero, List.getD_cons_succ, ob_some, om_some, b_ok, b_ex, st_ok, st_ex, sq_nx, sq_rt, sq_bk, sq_ct, sq_ex, tu_nx, tu_rt, tu_bk, tu_ct, tu_ex, varR_fz, varR_ol, varR_bl, varR_io, v_var, v_lit, v_tup, v_lst, tupK_0, tupK_1, tupK_2, tupK_3, lstK_0, lstK_1, lstK_2, lstK_3, v_p1, p1K_eq, v_p2, p2K_eq, v_and, v_or, v_not, v_ite, v_call, v_mth, mth0_some, mthK_eq, mthO_some, own_eq, ownO_ol, ownO_io, mkOwn_t, mkOwn_f, v_sl, compK_eq, compT_some, v_comp, compC_none, wipe_nil, wipe_cons, rest_nil, rest_cons, fin_ok, con_fz, con_ol, con_plc, slCon_some, scon_fz, scon_ol, scon_bl, scon_io, set_fz, set_plc, set_ol, lift_some, bool_bl, opt_int, opt_non, toV_fz, toV_ol, toV_plc, toVO_ol, V_nil, V_cons, A_nil, A_cons, I_it1, itK_tup, itK_lst, itK_ol, itK_plc, itS_ol, itS_bl, I_rng1, I_rng2, I_rng3, S_nil, S_cons, S_expr, nxK_eq, S_asg, S_asgT, asgO_some, S_aug, augO_int, augK_add, S_setix, setK_eq, setO_some, setAt_eq, setA_0, S_ite, S_for, forO_some, lock_none, lock_ol, lock_bl, S_ret, S_ret0, S_brk, S_cont, S_pass, S_raise, raiK_some, setS_eq, setSO_no, setSO_fz, setSO_ol, setSO_bl, asgR_fz, asgR_ol, asgR_plc, asgP_ol, asgP_bl, retR_fz, retR_ol, retR_plc, retP_ol, asg_v, asg1_eq, asg1O_no, asg1O_fz, asg1O_ol, asg_tp, ag_nil, ag_cons, arg_nil, arg_fz, arg_plc, argT_ol, argT_bl, argT_olf, calR_ok, calR_ex, calI_t, calI_f, calO_some, io_plc, ioO_ol, ioO_io, forC_some, endF_rt, endF_nx, endF_ex, io_f, io_t, sl_io, sl_f, sl_tl, sl_nil, o_len_t, o_len_l, o_tuple_t, o_tuple_l, o_list_t, o_list_l, o_int, o_neg, o_sum, o_any, o_all, o_max, o_isN, o_notN, o_add, o_sub, o_band, o_bor, o_lt, o_le, o_gt, o_ge, o_eq, o_ne, o_ixT, o_ixL, at_0, at_1, m_pop, m_pop0, List.nil_append]
end
end K73

set_option Elab.async false
set_option linter.all false
set_option autoImplicit false
set_option maxRecDepth 100000
set_option maxHeartbeats 1000000
namespace K73
open PySem Ev
/-! ### rows of numbers -/
def nl (row : List Nat) : List T := row.map fun (k : Nat) => T.int (k : Int)
def tT (row : List Nat) : T := .tup (nl row)
def lowOf (row : List Nat) : Nat := match row.getLast? with
  | some x => x + 1
  | none => 0
def rowsL (A : Nat) : Nat → List (List Nat)
  | 0 => [[]]
  | t + 1 => (rowsL A t).flatMap fun row => (List.range' (lowOf row) (A - lowOf row)).map fun k => row ++ [k]
theorem rowsL_len (A : Nat) : ∀ t, (rowsL A t).length ≤ A ^ t
  | 0 => Nat.le_refl _
  | t + 1 => by
    have ih := rowsL_len A t
    have key : ∀ l : List (List Nat), (l.flatMap fun row => (List.range' (lowOf row) (A - lowOf row)).map fun k => row ++ [k]).length ≤ l.length * A := by
      intro l
      induction l with
      | nil => simp
      | cons x r ih =>
        rw [List.flatMap_cons, List.length_append, List.length_map, List.length_range', List.length_cons, Nat.add_mul]
        omega
    show ((rowsL A t).flatMap _).length ≤ _
    rw [Nat.pow_succ]
    exact Nat.le_trans (key _) (Nat.mul_le_mul_right A ih)
theorem rowsL_mem {A : Nat} : ∀ {t : Nat} {c : List Nat}, c ∈ rowsL A t → c.length = t
  | 0, c, h => by simp [rowsL] at h; subst h; rfl
  | t + 1, c, h => by
    simp only [rowsL, List.mem_flatMap, List.mem_map] at h
    obtain ⟨r, hr, k, _, rfl⟩ := h
    rw [List.length_append, rowsL_mem hr]; rfl
theorem rowsL_lt {A : Nat} : ∀ {t : Nat} {c : List Nat}, c ∈ rowsL A t → ∀ x ∈ c, x < A
  | 0, c, h, x, hx => by simp [rowsL] at h; subst h; cases hx
  | t + 1, c, h, x, hx => by
    simp only [rowsL, List.mem_flatMap, List.mem_map] at h
    obtain ⟨r, hr, k, hk, rfl⟩ := h
    rcases List.mem_append.mp hx with hx | hx
    · exact rowsL_lt hr x hx
    · simp at hx
      subst hx
      have := List.mem_range'_1.mp hk
      omega
theorem lowOf_le {A : Nat} {c : List Nat} (h : ∀ x ∈ c, x < A) : lowOf c ≤ A := by
  unfold lowOf
  split
  · rename_i x e
    exact h x (List.mem_of_getLast? e)
  · exact Nat.zero_le _
theorem rangeI_nl (lo n : Nat) : rangeI (lo : Int) n = nl (List.range' lo n) := by
  unfold rangeI nl
  rw [List.range'_eq_map_range, List.map_map]
  refine List.map_congr_left fun k _ => ?_
  simp
theorem rangeI_nl0 (n : Nat) : rangeI 0 n = nl (List.range n) := by
  unfold rangeI nl
  simp
theorem nl_len (c : List Nat) : (nl c).length = c.length := by unfold nl; simp
theorem nl_app (c : List Nat) (k : Nat) : nl c ++ [.int (k : Int)] = nl (c ++ [k]) := by unfold nl; simp
theorem last_nl (c : List Nat) (h : 0 < c.length) : L2.atI (nl c) (-1) = some (.int ((lowOf c : Int) - 1)) := by
  have h0 : c ≠ [] := by intro z; subst z; simp at h
  have e : c = c.dropLast ++ [c.getLast h0] := (List.dropLast_concat_getLast h0).symm
  have e2 : lowOf c = c.getLast h0 + 1 := by unfold lowOf; rw [List.getLast?_eq_getLast h0]
  rw [e2]
  have e3 : nl c = nl c.dropLast ++ [.int (c.getLast h0 : Int)] := by rw [nl_app, ← e]
  rw [e3, L2.atI_last]
  congr 2
  omega
section
variable (Φ : Tab)
/-! ### _law_sets -/
theorem ext_loop (a b c d : Sl) (row : List Nat) (low : Int) (hr : row.length < 1000) (lg : List T) : ∀ (ks : List Nat) (acc : List (List Nat)) (z : Sl), acc.length + ks.length < 10000 → z.isIo = false →
    ∃ z', compL (compK sg Φ (.p2 .add (.var 5) (.tup (.cons (.var 7) .nil))) (.v 7) (.lit (.bl true))) none [7] (nl ks) (acc.map tT) [a, b, c, d, .ol lg, .fz (tT row), .fz (.int low), z] = .ok ((acc ++ ks.map fun k => row ++ [k]).map tT) [a, b, c, d, .ol lg, .fz (tT row), .fz (.int low), z']
  | [], acc, z, _, _ => ⟨z, by simp [nl, comp_nil]⟩
  | k :: r, acc, z, hl, hz => by
    obtain ⟨z', e⟩ := ext_loop a b c d row low hr lg r (acc ++ [row ++ [k]]) (.fz (.int (k : Int))) (by simp at hl ⊢; omega) rfl
    refine ⟨z', ?_⟩
    have b1 : (acc.map tT).length < sizeLine := by rw [List.length_map, sizeLine_eq]; simp at hl; omega
    have b2 : (nl row).length + [T.int (k : Int)].length ≤ sizeLine := by rw [nl_len, sizeLine_eq]; simp; omega
    rw [show nl (k :: r) = .int (k : Int) :: nl r from rfl, comp_cons]
    simp only [List.getElem?_cons_zero, List.getElem?_cons_succ, List.set_cons_zero, List.set_cons_succ, List.getD_cons_zero, List.getD_cons_succ, ob_some, om_some, b_ok, b_ex, st_ok, st_ex, sq_nx, sq_rt, sq_bk, sq_ct, sq_ex, tu_nx, tu_rt, tu_bk, tu_ct, tu_ex, varR_fz, varR_ol, varR_bl, varR_io, v_var, v_lit, v_tup, v_lst, tupK_0, tupK_1, tupK_2, tupK_3, lstK_0, lstK_1, lstK_2, lstK_3, v_p1, p1K_eq, v_p2, p2K_eq, v_and, v_or, v_not, v_ite, v_call, v_mth, mth0_some, mthK_eq, mthO_some, own_eq, ownO_ol, ownO_io, mkOwn_t, mkOwn_f, v_sl, compK_eq, compT_some, v_comp, compC_none, wipe_nil, wipe_cons, rest_nil, rest_cons, fin_ok, con_fz, con_ol, con_plc, slCon_some, scon_fz, scon_ol, scon_bl, scon_io, set_fz, set_plc, set_ol, lift_some, bool_bl, opt_int, opt_non, toV_fz, toV_ol, toV_plc, toVO_ol, V_nil, V_cons, A_nil, A_cons, I_it1, itK_tup, itK_lst, itK_ol, itK_plc, itS_ol, itS_bl, I_rng1, I_rng2, I_rng3, S_nil, S_cons, S_expr, nxK_eq, S_asg, S_asgT, asgO_some, S_aug, augO_int, augK_add, S_setix, setK_eq, setO_some, setAt_eq, setA_0, S_ite, S_for, forO_some, lock_none, lock_ol, lock_bl, S_ret, S_ret0, S_brk, S_cont, S_pass, S_raise, raiK_some, setS_eq, setSO_no, setSO_fz, setSO_ol, setSO_bl, asgR_fz, asgR_ol, asgR_plc, asgP_ol, asgP_bl, retR_fz, retR_ol, retR_plc, retP_ol, asg_v, asg1_eq, asg1O_no, asg1O_fz, asg1O_ol, asg_tp, ag_nil, ag_cons, arg_nil, arg_fz, arg_plc, argT_ol, argT_bl, argT_olf, calR_ok, calR_ex, calI_t, calI_f, calO_some, io_plc, ioO_ol, ioO_io, forC_some, endF_rt, endF_nx, endF_ex, io_f, io_t, sl_io, sl_f, sl_tl, sl_nil, o_len_t, o_len_l, o_tuple_t, o_tuple_l, o_list_t, o_list_l, o_int, o_neg, o_sum, o_any, o_all, o_max, o_isN, o_notN, o_add, o_sub, o_band, o_bor, o_lt, o_le, o_gt, o_ge, o_eq, o_ne, o_ixT, o_ixL, at_0, at_1, m_pop, m_pop0, tT, decide_true, decide_false, Bool.false_eq_true, reduceIte, Bool.not_true, Bool.not_false, o_addT b2, compC_some b1, nl_app]
    have e2 : acc.map tT ++ [.tup (nl (row ++ [k]))] = (acc ++ [row ++ [k]]).map tT := by simp [tT]
    simp only [tT] at e e2
    rw [e2, e]
    simp
def setB : S := (.cons (.asg (.v 6) (.ite (.p2 .gt (.p1 .len (.var 5)) (.lit (.int 0))) (.p2 .add (.p2 .ix (.var 5) (.p1 .neg (.lit (.int 1)))) (.lit (.int 1))) (.lit (.int 0)))) (.cons (.asg (.v 4) (.p2 .add (.var 4) (.comp (.p2 .add (.var 5) (.tup (.cons (.var 7) .nil))) (.v 7) (.rng2 (.var 6) (.var 0)) (.lit (.bl true)) [7]))) .nil))
theorem sets_in (A : Nat) (hA : A ≤ 7) (b c d : Sl) : ∀ (rows : List (List Nat)) (lg : List (List Nat)) (z5 z6 : Sl), (∀ r ∈ rows, r.length < 1000 ∧ lowOf r < 100000) → lg.length + rows.length * 7 < 1000000 → z5.isIo = false → z6.isIo = false →
    ∃ z5' z6', forL (asgT (.v 5)) (evS sg Φ mk FU setB) (rows.map tT) [.fz (.int (A : Int)), b, c, d, .ol (lg.map tT), z5, z6, .no] = .nx [.fz (.int (A : Int)), b, c, d, .ol ((lg ++ rows.flatMap fun row => (List.range' (lowOf row) (A - lowOf row)).map fun k => row ++ [k]).map tT), z5', z6', .no] ∧ z5'.isIo = false ∧ z6'.isIo = false
  | [], lg, z5, z6, _, _, h5, h6 => ⟨z5, z6, by simp [for_nil], h5, h6⟩
  | row :: r, lg, z5, z6, hr, hl, h5, h6 => by
    obtain ⟨hr0, hlow⟩ := hr row (List.mem_cons_self ..)
    have e1 : asgT (.v 5) (tT row) [.fz (.int (A : Int)), b, c, d, .ol (lg.map tT), z5, z6, .no] = some [.fz (.int (A : Int)), b, c, d, .ol (lg.map tT), .fz (tT row), z6, .no] := by
      rw [asgT]
      cases z5 <;> first | rfl | cases h5
    have elow : ev sg Φ (.ite (.p2 .gt (.p1 .len (.var 5)) (.lit (.int 0))) (.p2 .add (.p2 .ix (.var 5) (.p1 .neg (.lit (.int 1)))) (.lit (.int 1))) (.lit (.int 0))) [.fz (.int (A : Int)), b, c, d, .ol (lg.map tT), .fz (tT row), z6, .no]
        = .ok (.fz (.int (lowOf row : Int))) [.fz (.int (A : Int)), b, c, d, .ol (lg.map tT), .fz (tT row), z6, .no] := by
      by_cases h0 : (0 : Int) < ((nl row).length : Int)
      · have h1 : 0 < row.length := by rw [nl_len] at h0; omega
        simp only [List.getElem?_cons_zero, List.getElem?_cons_succ, List.set_cons_zero, List.set_cons_succ, List.getD_cons_zero, List.getD_cons_succ, ob_some, om_some, b_ok, b_ex, st_ok, st_ex, sq_nx, sq_rt, sq_bk, sq_ct, sq_ex, tu_nx, tu_rt, tu_bk, tu_ct, tu_ex, varR_fz, varR_ol, varR_bl, varR_io, v_var, v_lit, v_tup, v_lst, tupK_0, tupK_1, tupK_2, tupK_3, lstK_0, lstK_1, lstK_2, lstK_3, v_p1, p1K_eq, v_p2, p2K_eq, v_and, v_or, v_not, v_ite, v_call, v_mth, mth0_some, mthK_eq, mthO_some, own_eq, ownO_ol, ownO_io, mkOwn_t, mkOwn_f, v_sl, compK_eq, compT_some, v_comp, compC_none, wipe_nil, wipe_cons, rest_nil, rest_cons, fin_ok, con_fz, con_ol, con_plc, slCon_some, scon_fz, scon_ol, scon_bl, scon_io, set_fz, set_plc, set_ol, lift_some, bool_bl, opt_int, opt_non, toV_fz, toV_ol, toV_plc, toVO_ol, V_nil, V_cons, A_nil, A_cons, I_it1, itK_tup, itK_lst, itK_ol, itK_plc, itS_ol, itS_bl, I_rng1, I_rng2, I_rng3, S_nil, S_cons, S_expr, nxK_eq, S_asg, S_asgT, asgO_some, S_aug, augO_int, augK_add, S_setix, setK_eq, setO_some, setAt_eq, setA_0, S_ite, S_for, forO_some, lock_none, lock_ol, lock_bl, S_ret, S_ret0, S_brk, S_cont, S_pass, S_raise, raiK_some, setS_eq, setSO_no, setSO_fz, setSO_ol, setSO_bl, asgR_fz, asgR_ol, asgR_plc, asgP_ol, asgP_bl, retR_fz, retR_ol, retR_plc, retP_ol, asg_v, asg1_eq, asg1O_no, asg1O_fz, asg1O_ol, asg_tp, ag_nil, ag_cons, arg_nil, arg_fz, arg_plc, argT_ol, argT_bl, argT_olf, calR_ok, calR_ex, calI_t, calI_f, calO_some, io_plc, ioO_ol, ioO_io, forC_some, endF_rt, endF_nx, endF_ex, io_f, io_t, sl_io, sl_f, sl_tl, sl_nil, o_len_t, o_len_l, o_tuple_t, o_tuple_l, o_list_t, o_list_l, o_int, o_neg, o_sum, o_any, o_all, o_max, o_isN, o_notN, o_add, o_sub, o_band, o_bor, o_lt, o_le, o_gt, o_ge, o_eq, o_ne, o_ixT, o_ixL, at_0, at_1, m_pop, m_pop0, tT, h0, decide_true, decide_false, Bool.false_eq_true, reduceIte, Bool.not_true, Bool.not_false, last_nl row h1, Int.sub_add_cancel]
      · have h1 : row = [] := by
          cases row with
          | nil => rfl
          | cons x y => exact absurd (by rw [nl_len, List.length_cons]; omega) h0
        subst h1
        simp only [List.getElem?_cons_zero, List.getElem?_cons_succ, List.set_cons_zero, List.set_cons_succ, List.getD_cons_zero, List.getD_cons_succ, ob_some, om_some, b_ok, b_ex, st_ok, st_ex, sq_nx, sq_rt, sq_bk, sq_ct, sq_ex, tu_nx, tu_rt, tu_bk, tu_ct, tu_ex, varR_fz, varR_ol, varR_bl, varR_io, v_var, v_lit, v_tup, v_lst, tupK_0, tupK_1, tupK_2, tupK_3, lstK_0, lstK_1, lstK_2, lstK_3, v_p1, p1K_eq, v_p2, p2K_eq, v_and, v_or, v_not, v_ite, v_call, v_mth, mth0_some, mthK_eq, mthO_some, own_eq, ownO_ol, ownO_io, mkOwn_t, mkOwn_f, v_sl, compK_eq, compT_some, v_comp, compC_none, wipe_nil, wipe_cons, rest_nil, rest_cons, fin_ok, con_fz, con_ol, con_plc, slCon_some, scon_fz, scon_ol, scon_bl, scon_io, set_fz, set_plc, set_ol, lift_some, bool_bl, opt_int, opt_non, toV_fz, toV_ol, toV_plc, toVO_ol, V_nil, V_cons, A_nil, A_cons, I_it1, itK_tup, itK_lst, itK_ol, itK_plc, itS_ol, itS_bl, I_rng1, I_rng2, I_rng3, S_nil, S_cons, S_expr, nxK_eq, S_asg, S_asgT, asgO_some, S_aug, augO_int, augK_add, S_setix, setK_eq, setO_some, setAt_eq, setA_0, S_ite, S_for, forO_some, lock_none, lock_ol, lock_bl, S_ret, S_ret0, S_brk, S_cont, S_pass, S_raise, raiK_some, setS_eq, setSO_no, setSO_fz, setSO_ol, setSO_bl, asgR_fz, asgR_ol, asgR_plc, asgP_ol, asgP_bl, retR_fz, retR_ol, retR_plc, retP_ol, asg_v, asg1_eq, asg1O_no, asg1O_fz, asg1O_ol, asg_tp, ag_nil, ag_cons, arg_nil, arg_fz, arg_plc, argT_ol, argT_bl, argT_olf, calR_ok, calR_ex, calI_t, calI_f, calO_some, io_plc, ioO_ol, ioO_io, forC_some, endF_rt, endF_nx, endF_ex, io_f, io_t, sl_io, sl_f, sl_tl, sl_nil, o_len_t, o_len_l, o_tuple_t, o_tuple_l, o_list_t, o_list_l, o_int, o_neg, o_sum, o_any, o_all, o_max, o_isN, o_notN, o_add, o_sub, o_band, o_bor, o_lt, o_le, o_gt, o_ge, o_eq, o_ne, o_ixT, o_ixL, at_0, at_1, m_pop, m_pop0, tT, h0, decide_true, decide_false, Bool.false_eq_true, reduceIte, Bool.not_true, Bool.not_false]
        rfl
    have hs : ∀ (t : T), setS 6 (.fz t) [.fz (.int (A : Int)), b, c, d, .ol (lg.map tT), .fz (tT row), z6, .no] = .nx [.fz (.int (A : Int)), b, c, d, .ol (lg.map tT), .fz (tT row), .fz t, .no] := fun t => by
      cases z6 <;> first | rfl | cases h6
    rw [List.map_cons, for_cons, e1]
    unfold setB
    · have b1 : inBig (lowOf row : Int) = true := by unfold inBig; exact decide_eq_true (by omega)
      have b2 : inBig (A : Int) = true := by unfold inBig; exact decide_eq_true (by omega)
      obtain ⟨z', e⟩ := ext_loop Φ (.fz (.int (A : Int))) b c d row (lowOf row : Int) hr0 (lg.map tT) (List.range' (lowOf row) (A - lowOf row)) [] .no (by simp; omega) rfl
      have b3 : (lg.map tT).length + (([] ++ (List.range' (lowOf row) (A - lowOf row)).map fun k => row ++ [k]).map tT).length ≤ sizeLine := by rw [sizeLine_eq]; simp at hl ⊢; omega
      simp only [forC_some, S_cons, S_asg, elow, st_ok, asgR_fz, hs, sq_nx, v_p2, v_var, List.getElem?_cons_zero, List.getElem?_cons_succ, varR_ol, varR_fz, b_ok, v_comp, I_rng2, rg2_ok b1 b2, rangeI_nl, Int.toNat_sub]
      rw [compE_eq (by rfl)]
      rw [show ([] : List (List Nat)).map tT = [] from rfl] at e
      rw [e]
      simp only [List.getElem?_cons_zero, List.getElem?_cons_succ, List.set_cons_zero, List.set_cons_succ, List.getD_cons_zero, List.getD_cons_succ, ob_some, om_some, b_ok, b_ex, st_ok, st_ex, sq_nx, sq_rt, sq_bk, sq_ct, sq_ex, tu_nx, tu_rt, tu_bk, tu_ct, tu_ex, varR_fz, varR_ol, varR_bl, varR_io, v_var, v_lit, v_tup, v_lst, tupK_0, tupK_1, tupK_2, tupK_3, lstK_0, lstK_1, lstK_2, lstK_3, v_p1, p1K_eq, v_p2, p2K_eq, v_and, v_or, v_not, v_ite, v_call, v_mth, mth0_some, mthK_eq, mthO_some, own_eq, ownO_ol, ownO_io, mkOwn_t, mkOwn_f, v_sl, compK_eq, compT_some, v_comp, compC_none, wipe_nil, wipe_cons, rest_nil, rest_cons, fin_ok, con_fz, con_ol, con_plc, slCon_some, scon_fz, scon_ol, scon_bl, scon_io, set_fz, set_plc, set_ol, lift_some, bool_bl, opt_int, opt_non, toV_fz, toV_ol, toV_plc, toVO_ol, V_nil, V_cons, A_nil, A_cons, I_it1, itK_tup, itK_lst, itK_ol, itK_plc, itS_ol, itS_bl, I_rng1, I_rng2, I_rng3, S_nil, S_cons, S_expr, nxK_eq, S_asg, S_asgT, asgO_some, S_aug, augO_int, augK_add, S_setix, setK_eq, setO_some, setAt_eq, setA_0, S_ite, S_for, forO_some, lock_none, lock_ol, lock_bl, S_ret, S_ret0, S_brk, S_cont, S_pass, S_raise, raiK_some, setS_eq, setSO_no, setSO_fz, setSO_ol, setSO_bl, asgR_fz, asgR_ol, asgR_plc, asgP_ol, asgP_bl, retR_fz, retR_ol, retR_plc, retP_ol, asg_v, asg1_eq, asg1O_no, asg1O_fz, asg1O_ol, asg_tp, ag_nil, ag_cons, arg_nil, arg_fz, arg_plc, argT_ol, argT_bl, argT_olf, calR_ok, calR_ex, calI_t, calI_f, calO_some, io_plc, ioO_ol, ioO_io, forC_some, endF_rt, endF_nx, endF_ex, io_f, io_t, sl_io, sl_f, sl_tl, sl_nil, o_len_t, o_len_l, o_tuple_t, o_tuple_l, o_list_t, o_list_l, o_int, o_neg, o_sum, o_any, o_all, o_max, o_isN, o_notN, o_add, o_sub, o_band, o_bor, o_lt, o_le, o_gt, o_ge, o_eq, o_ne, o_ixT, o_ixL, at_0, at_1, m_pop, m_pop0, o_addL b3, ← List.map_append]
      obtain ⟨z5', z6', e5, q5, q6⟩ := sets_in A hA b c d r (lg ++ ([] ++ (List.range' (lowOf row) (A - lowOf row)).map fun k => row ++ [k])) (.fz (tT row)) (.fz (.int (lowOf row : Int))) (fun q hq => hr q (List.mem_cons_of_mem _ hq)) (by simp at hl ⊢; omega) rfl rfl
      refine ⟨z5', z6', ?_, q5, q6⟩
      refine e5.trans ?_
      simp
theorem sets_out (A : Nat) (hA : A ≤ 7) (sz : Sl) : ∀ (xs : List Nat) (t : Nat) (z2 z3 z4 z5 z6 : Sl), t + xs.length ≤ 7 → (z2 = .ol ((rowsL A t).map tT) ∨ z2 = .fz (.lst ((rowsL A t).map tT))) → z3.isIo = false → z4.isIo = false → z5.isIo = false → z6.isIo = false →
    ∃ z2' z3' z4' z5' z6', forL (asgT (.v 3)) (evS sg Φ mk FU (.cons (.asg (.v 4) (.lst .nil)) (.cons (.for (.v 5) (.it1 (.var 2)) setB) (.cons (.asg (.v 2) (.var 4)) .nil)))) (nl xs) [.fz (.int (A : Int)), sz, z2, z3, z4, z5, z6, .no] = .nx [.fz (.int (A : Int)), sz, z2', z3', z4', z5', z6', .no]
      ∧ (z2' = .ol ((rowsL A (t + xs.length)).map tT) ∨ z2' = .fz (.lst ((rowsL A (t + xs.length)).map tT)))
  | [], t, z2, z3, z4, z5, z6, _, h2, _, _, _, _ => ⟨z2, z3, z4, z5, z6, rfl, h2⟩
  | x :: r, t, z2, z3, z4, z5, z6, hl, h2, h3, h4, h5, h6 => by
    have hle : (rowsL A t).length * 7 < 1000000 := by
      have q1 := rowsL_len A t
      have q2 : A ^ t ≤ 7 ^ t := Nat.pow_le_pow_left hA t
      have q3 : 7 ^ t ≤ 7 ^ 6 := Nat.pow_le_pow_right (by decide) (by simp at hl; omega)
      have q4 : (7 : Nat) ^ 6 = 117649 := by decide
      rw [q4] at q3
      omega
    have hrow : ∀ q ∈ rowsL A t, q.length < 1000 ∧ lowOf q < 100000 := fun q hq => ⟨by rw [rowsL_mem hq]; simp at hl; omega, by have := lowOf_le (rowsL_lt hq); omega⟩
    have e1 : asgT (.v 3) (.int (x : Int)) [.fz (.int (A : Int)), sz, z2, z3, z4, z5, z6, .no] = some [.fz (.int (A : Int)), sz, z2, .fz (.int (x : Int)), z4, z5, z6, .no] := by
      rw [asgT]
      cases z3 <;> first | rfl | cases h3
    have hs : setS 4 (.ol []) [.fz (.int (A : Int)), sz, z2, .fz (.int (x : Int)), z4, z5, z6, .no] = .nx [.fz (.int (A : Int)), sz, z2, .fz (.int (x : Int)), .ol [], z5, z6, .no] := by
      cases z4 <;> first | rfl | cases h4
    obtain ⟨z5', z6', e5, q5, q6⟩ := sets_in Φ A hA sz (.fz (.lst ((rowsL A t).map tT))) (.fz (.int (x : Int))) (rowsL A t) [] z5 z6 hrow (by simp; omega) h5 h6
    rw [show nl (x :: r) = .int (x : Int) :: nl r from rfl, for_cons, e1]
    have eit : (evI sg Φ (.it1 (.var 2)) [.fz (.int (A : Int)), sz, z2, .fz (.int (x : Int)), .ol [], z5, z6, .no]).st (fun its en1 => forO (.v 5) (evS sg Φ mk FU setB) its.xs (lockS en1 its.chk))
        = forL (asgT (.v 5)) (evS sg Φ mk FU setB) ((rowsL A t).map tT) [.fz (.int (A : Int)), sz, .fz (.lst ((rowsL A t).map tT)), .fz (.int (x : Int)), .ol [], z5, z6, .no] := by
      rcases h2 with rfl | rfl
      · simp only [List.getElem?_cons_zero, List.getElem?_cons_succ, List.set_cons_zero, List.set_cons_succ, List.getD_cons_zero, List.getD_cons_succ, ob_some, om_some, b_ok, b_ex, st_ok, st_ex, sq_nx, sq_rt, sq_bk, sq_ct, sq_ex, tu_nx, tu_rt, tu_bk, tu_ct, tu_ex, varR_fz, varR_ol, varR_bl, varR_io, v_var, v_lit, v_tup, v_lst, tupK_0, tupK_1, tupK_2, tupK_3, lstK_0, lstK_1, lstK_2, lstK_3, v_p1, p1K_eq, v_p2, p2K_eq, v_and, v_or, v_not, v_ite, v_call, v_mth, mth0_some, mthK_eq, mthO_some, own_eq, ownO_ol, ownO_io, mkOwn_t, mkOwn_f, v_sl, compK_eq, compT_some, v_comp, compC_none, wipe_nil, wipe_cons, rest_nil, rest_cons, fin_ok, con_fz, con_ol, con_plc, slCon_some, scon_fz, scon_ol, scon_bl, scon_io, set_fz, set_plc, set_ol, lift_some, bool_bl, opt_int, opt_non, toV_fz, toV_ol, toV_plc, toVO_ol, V_nil, V_cons, A_nil, A_cons, I_it1, itK_tup, itK_lst, itK_ol, itK_plc, itS_ol, itS_bl, I_rng1, I_rng2, I_rng3, S_nil, S_cons, S_expr, nxK_eq, S_asg, S_asgT, asgO_some, S_aug, augO_int, augK_add, S_setix, setK_eq, setO_some, setAt_eq, setA_0, S_ite, S_for, forO_some, lock_none, lock_ol, lock_bl, S_ret, S_ret0, S_brk, S_cont, S_pass, S_raise, raiK_some, setS_eq, setSO_no, setSO_fz, setSO_ol, setSO_bl, asgR_fz, asgR_ol, asgR_plc, asgP_ol, asgP_bl, retR_fz, retR_ol, retR_plc, retP_ol, asg_v, asg1_eq, asg1O_no, asg1O_fz, asg1O_ol, asg_tp, ag_nil, ag_cons, arg_nil, arg_fz, arg_plc, argT_ol, argT_bl, argT_olf, calR_ok, calR_ex, calI_t, calI_f, calO_some, io_plc, ioO_ol, ioO_io, forC_some, endF_rt, endF_nx, endF_ex, io_f, io_t, sl_io, sl_f, sl_tl, sl_nil, o_len_t, o_len_l, o_tuple_t, o_tuple_l, o_list_t, o_list_l, o_int, o_neg, o_sum, o_any, o_all, o_max, o_isN, o_notN, o_add, o_sub, o_band, o_bor, o_lt, o_le, o_gt, o_ge, o_eq, o_ne, o_ixT, o_ixL, at_0, at_1, m_pop, m_pop0]
      · simp only [List.getElem?_cons_zero, List.getElem?_cons_succ, List.set_cons_zero, List.set_cons_succ, List.getD_cons_zero, List.getD_cons_succ, ob_some, om_some, b_ok, b_ex, st_ok, st_ex, sq_nx, sq_rt, sq_bk, sq_ct, sq_ex, tu_nx, tu_rt, tu_bk, tu_ct, tu_ex, varR_fz, varR_ol, varR_bl, varR_io, v_var, v_lit, v_tup, v_lst, tupK_0, tupK_1, tupK_2, tupK_3, lstK_0, lstK_1, lstK_2, lstK_3, v_p1, p1K_eq, v_p2, p2K_eq, v_and, v_or, v_not, v_ite, v_call, v_mth, mth0_some, mthK_eq, mthO_some, own_eq, ownO_ol, ownO_io, mkOwn_t, mkOwn_f, v_sl, compK_eq, compT_some, v_comp, compC_none, wipe_nil, wipe_cons, rest_nil, rest_cons, fin_ok, con_fz, con_ol, con_plc, slCon_some, scon_fz, scon_ol, scon_bl, scon_io, set_fz, set_plc, set_ol, lift_some, bool_bl, opt_int, opt_non, toV_fz, toV_ol, toV_plc, toVO_ol, V_nil, V_cons, A_nil, A_cons, I_it1, itK_tup, itK_lst, itK_ol, itK_plc, itS_ol, itS_bl, I_rng1, I_rng2, I_rng3, S_nil, S_cons, S_expr, nxK_eq, S_asg, S_asgT, asgO_some, S_aug, augO_int, augK_add, S_setix, setK_eq, setO_some, setAt_eq, setA_0, S_ite, S_for, forO_some, lock_none, lock_ol, lock_bl, S_ret, S_ret0, S_brk, S_cont, S_pass, S_raise, raiK_some, setS_eq, setSO_no, setSO_fz, setSO_ol, setSO_bl, asgR_fz, asgR_ol, asgR_plc, asgP_ol, asgP_bl, retR_fz, retR_ol, retR_plc, retP_ol, asg_v, asg1_eq, asg1O_no, asg1O_fz, asg1O_ol, asg_tp, ag_nil, ag_cons, arg_nil, arg_fz, arg_plc, argT_ol, argT_bl, argT_olf, calR_ok, calR_ex, calI_t, calI_f, calO_some, io_plc, ioO_ol, ioO_io, forC_some, endF_rt, endF_nx, endF_ex, io_f, io_t, sl_io, sl_f, sl_tl, sl_nil, o_len_t, o_len_l, o_tuple_t, o_tuple_l, o_list_t, o_list_l, o_int, o_neg, o_sum, o_any, o_all, o_max, o_isN, o_notN, o_add, o_sub, o_band, o_bor, o_lt, o_le, o_gt, o_ge, o_eq, o_ne, o_ixT, o_ixL, at_0, at_1, m_pop, m_pop0]
    simp only [forC_some, S_cons, S_asg, v_lst, V_nil, b_ok, lstK_0, st_ok, asgR_ol, hs, sq_nx, S_for, eit]
    rw [show ([] : List (List Nat)).map tT = [] from rfl] at e5
    rw [e5]
    simp only [List.getElem?_cons_zero, List.getElem?_cons_succ, List.set_cons_zero, List.set_cons_succ, List.getD_cons_zero, List.getD_cons_succ, ob_some, om_some, b_ok, b_ex, st_ok, st_ex, sq_nx, sq_rt, sq_bk, sq_ct, sq_ex, tu_nx, tu_rt, tu_bk, tu_ct, tu_ex, varR_fz, varR_ol, varR_bl, varR_io, v_var, v_lit, v_tup, v_lst, tupK_0, tupK_1, tupK_2, tupK_3, lstK_0, lstK_1, lstK_2, lstK_3, v_p1, p1K_eq, v_p2, p2K_eq, v_and, v_or, v_not, v_ite, v_call, v_mth, mth0_some, mthK_eq, mthO_some, own_eq, ownO_ol, ownO_io, mkOwn_t, mkOwn_f, v_sl, compK_eq, compT_some, v_comp, compC_none, wipe_nil, wipe_cons, rest_nil, rest_cons, fin_ok, con_fz, con_ol, con_plc, slCon_some, scon_fz, scon_ol, scon_bl, scon_io, set_fz, set_plc, set_ol, lift_some, bool_bl, opt_int, opt_non, toV_fz, toV_ol, toV_plc, toVO_ol, V_nil, V_cons, A_nil, A_cons, I_it1, itK_tup, itK_lst, itK_ol, itK_plc, itS_ol, itS_bl, I_rng1, I_rng2, I_rng3, S_nil, S_cons, S_expr, nxK_eq, S_asg, S_asgT, asgO_some, S_aug, augO_int, augK_add, S_setix, setK_eq, setO_some, setAt_eq, setA_0, S_ite, S_for, forO_some, lock_none, lock_ol, lock_bl, S_ret, S_ret0, S_brk, S_cont, S_pass, S_raise, raiK_some, setS_eq, setSO_no, setSO_fz, setSO_ol, setSO_bl, asgR_fz, asgR_ol, asgR_plc, asgP_ol, asgP_bl, retR_fz, retR_ol, retR_plc, retP_ol, asg_v, asg1_eq, asg1O_no, asg1O_fz, asg1O_ol, asg_tp, ag_nil, ag_cons, arg_nil, arg_fz, arg_plc, argT_ol, argT_bl, argT_olf, calR_ok, calR_ex, calI_t, calI_f, calO_some, io_plc, ioO_ol, ioO_io, forC_some, endF_rt, endF_nx, endF_ex, io_f, io_t, sl_io, sl_f, sl_tl, sl_nil, o_len_t, o_len_l, o_tuple_t, o_tuple_l, o_list_t, o_list_l, o_int, o_neg, o_sum, o_any, o_all, o_max, o_isN, o_notN, o_add, o_sub, o_band, o_bor, o_lt, o_le, o_gt, o_ge, o_eq, o_ne, o_ixT, o_ixL, at_0, at_1, m_pop, m_pop0]
    have en : (rowsL A t).flatMap (fun row => (List.range' (lowOf row) (A - lowOf row)).map fun k => row ++ [k]) = rowsL A (t + 1) := rfl
    rw [List.nil_append, en]
    obtain ⟨y2, y3, y4, y5, y6, e6, hy⟩ := sets_out A hA sz r (t + 1) (.fz (.lst ((rowsL A (t + 1)).map tT))) (.fz (.int (x : Int))) (.fz (.lst ((rowsL A (t + 1)).map tT))) z5' z6' (by simp at hl; omega) (.inr rfl) rfl rfl q5 q6
    refine ⟨y2, y3, y4, y5, y6, e6, ?_⟩
    rw [show t + (x :: r).length = t + 1 + r.length by simp; omega]
    exact hy
theorem sets_ok (A s : Nat) (hA : A ≤ 7) (hs : s ≤ 7) : ∃ r, evD sg Φ mk FU (sg 11) ⟨8, ir__law_sets⟩ [.int (A : Int), .int (s : Int)] = .ok r [] ∧ (r = .ol ((rowsL A s).map tT) ∨ r = .fz (.lst ((rowsL A s).map tT))) := by
  rw [evD_eq, show sg 11 = ⟨2, false, [false, false]⟩ from rfl]
  have e0 : ir__law_sets = (.cons (.asg (.v 2) (.lst (.cons (.tup .nil) .nil))) (.cons (.for (.v 3) (.rng1 (.var 1)) (.cons (.asg (.v 4) (.lst .nil)) (.cons (.for (.v 5) (.it1 (.var 2)) setB) (.cons (.asg (.v 2) (.var 4)) .nil)))) (.cons (.ret (.var 2)) .nil))) := rfl
  rw [e0]
  have b1 : inBig (s : Int) = true := by unfold inBig; exact decide_eq_true (by omega)
  simp only [sl_io, sl_f, sl_tl, sl_nil, List.length_cons, List.length_nil, List.replicate, List.cons_append, List.nil_append]
  simp only [List.getElem?_cons_zero, List.getElem?_cons_succ, List.set_cons_zero, List.set_cons_succ, List.getD_cons_zero, List.getD_cons_succ, ob_some, om_some, b_ok, b_ex, st_ok, st_ex, sq_nx, sq_rt, sq_bk, sq_ct, sq_ex, tu_nx, tu_rt, tu_bk, tu_ct, tu_ex, varR_fz, varR_ol, varR_bl, varR_io, v_var, v_lit, v_tup, v_lst, tupK_0, tupK_1, tupK_2, tupK_3, lstK_0, lstK_1, lstK_2, lstK_3, v_p1, p1K_eq, v_p2, p2K_eq, v_and, v_or, v_not, v_ite, v_call, v_mth, mth0_some, mthK_eq, mthO_some, own_eq, ownO_ol, ownO_io, mkOwn_t, mkOwn_f, v_sl, compK_eq, compT_some, v_comp, compC_none, wipe_nil, wipe_cons, rest_nil, rest_cons, fin_ok, con_fz, con_ol, con_plc, slCon_some, scon_fz, scon_ol, scon_bl, scon_io, set_fz, set_plc, set_ol, lift_some, bool_bl, opt_int, opt_non, toV_fz, toV_ol, toV_plc, toVO_ol, V_nil, V_cons, A_nil, A_cons, I_it1, itK_tup, itK_lst, itK_ol, itK_plc, itS_ol, itS_bl, I_rng1, I_rng2, I_rng3, S_nil, S_cons, S_expr, nxK_eq, S_asg, S_asgT, asgO_some, S_aug, augO_int, augK_add, S_setix, setK_eq, setO_some, setAt_eq, setA_0, S_ite, S_for, forO_some, lock_none, lock_ol, lock_bl, S_ret, S_ret0, S_brk, S_cont, S_pass, S_raise, raiK_some, setS_eq, setSO_no, setSO_fz, setSO_ol, setSO_bl, asgR_fz, asgR_ol, asgR_plc, asgP_ol, asgP_bl, retR_fz, retR_ol, retR_plc, retP_ol, asg_v, asg1_eq, asg1O_no, asg1O_fz, asg1O_ol, asg_tp, ag_nil, ag_cons, arg_nil, arg_fz, arg_plc, argT_ol, argT_bl, argT_olf, calR_ok, calR_ex, calI_t, calI_f, calO_some, io_plc, ioO_ol, ioO_io, forC_some, endF_rt, endF_nx, endF_ex, io_f, io_t, sl_io, sl_f, sl_tl, sl_nil, o_len_t, o_len_l, o_tuple_t, o_tuple_l, o_list_t, o_list_l, o_int, o_neg, o_sum, o_any, o_all, o_max, o_isN, o_notN, o_add, o_sub, o_band, o_bor, o_lt, o_le, o_gt, o_ge, o_eq, o_ne, o_ixT, o_ixL, at_0, at_1, m_pop, m_pop0, rg1_ok b1]
  rw [rangeI_nl0, show ((s : Int)).toNat = s from rfl]
  obtain ⟨y2, y3, y4, y5, y6, e6, hy⟩ := sets_out Φ A hA (.fz (.int (s : Int))) (List.range s) 0 (.ol [.tup []]) .no .no .no .no (by simp; omega) (.inl rfl) rfl rfl rfl rfl
  rw [e6]
  rw [Nat.zero_add, List.length_range] at hy
  rcases hy with rfl | rfl
  · exact ⟨_, by simp only [List.getElem?_cons_zero, List.getElem?_cons_succ, List.set_cons_zero, List.set_cons_succ, List.getD_cons_zero, List.getD_cons_succ, ob_some, om_some, b_ok, b_ex, st_ok, st_ex, sq_nx, sq_rt, sq_bk, sq_ct, sq_ex, tu_nx, tu_rt, tu_bk, tu_ct, tu_ex, varR_fz, varR_ol, varR_bl, varR_io, v_var, v_lit, v_tup, v_lst, tupK_0, tupK_1, tupK_2, tupK_3, lstK_0, lstK_1, lstK_2, lstK_3, v_p1, p1K_eq, v_p2, p2K_eq, v_and, v_or, v_not, v_ite, v_call, v_mth, mth0_some, mthK_eq, mthO_some, own_eq, ownO_ol, ownO_io, mkOwn_t, mkOwn_f, v_sl, compK_eq, compT_some, v_comp, compC_none, wipe_nil, wipe_cons, rest_nil, rest_cons, fin_ok, con_fz, con_ol, con_plc, slCon_some, scon_fz, scon_ol, scon_bl, scon_io, set_fz, set_plc, set_ol, lift_some, bool_bl, opt_int, opt_non, toV_fz, toV_ol, toV_plc, toVO_ol, V_nil, V_cons, A_nil, A_cons, I_it1, itK_tup, itK_lst, itK_ol, itK_plc, itS_ol, itS_bl, I_rng1, I_rng2, I_rng3, S_nil, S_cons, S_expr, nxK_eq, S_asg, S_asgT, asgO_some, S_aug, augO_int, augK_add, S_setix, setK_eq, setO_some, setAt_eq, setA_0, S_ite, S_for, forO_some, lock_none, lock_ol, lock_bl, S_ret, S_ret0, S_brk, S_cont, S_pass, S_raise, raiK_some, setS_eq, setSO_no, setSO_fz, setSO_ol, setSO_bl, asgR_fz, asgR_ol, asgR_plc, asgP_ol, asgP_bl, retR_fz, retR_ol, retR_plc, retP_ol, asg_v, asg1_eq, asg1O_no, asg1O_fz, asg1O_ol, asg_tp, ag_nil, ag_cons, arg_nil, arg_fz, arg_plc, argT_ol, argT_bl, argT_olf, calR_ok, calR_ex, calI_t, calI_f, calO_some, io_plc, ioO_ol, ioO_io, forC_some, endF_rt, endF_nx, endF_ex, io_f, io_t, sl_io, sl_f, sl_tl, sl_nil, o_len_t, o_len_l, o_tuple_t, o_tuple_l, o_list_t, o_list_l, o_int, o_neg, o_sum, o_any, o_all, o_max, o_isN, o_notN, o_add, o_sub, o_band, o_bor, o_lt, o_le, o_gt, o_ge, o_eq, o_ne, o_ixT, o_ixL, at_0, at_1, m_pop, m_pop0], .inl rfl⟩
  · exact ⟨_, by simp only [List.getElem?_cons_zero, List.getElem?_cons_succ, List.set_cons_zero, List.set_cons_succ, List.getD_cons_zero, List.getD_cons_succ, ob_some, om_some, b_ok, b_ex, st_ok, st_ex, sq_nx, sq_rt, sq_bk, sq_ct, sq_ex, tu_nx, tu_rt, tu_bk, tu_ct, tu_ex, varR_fz, varR_ol, varR_bl, varR_io, v_var, v_lit, v_tup, v_lst, tupK_0, tupK_1, tupK_2, tupK_3, lstK_0, lstK_1, lstK_2, lstK_3, v_p1, p1K_eq, v_p2, p2K_eq, v_and, v_or, v_not, v_ite, v_call, v_mth, mth0_some, mthK_eq, mthO_some, own_eq, ownO_ol, ownO_io, mkOwn_t, mkOwn_f, v_sl, compK_eq, compT_some, v_comp, compC_none, wipe_nil, wipe_cons, rest_nil, rest_cons, fin_ok, con_fz, con_ol, con_plc, slCon_some, scon_fz, scon_ol, scon_bl, scon_io, set_fz, set_plc, set_ol, lift_some, bool_bl, opt_int, opt_non, toV_fz, toV_ol, toV_plc, toVO_ol, V_nil, V_cons, A_nil, A_cons, I_it1, itK_tup, itK_lst, itK_ol, itK_plc, itS_ol, itS_bl, I_rng1, I_rng2, I_rng3, S_nil, S_cons, S_expr, nxK_eq, S_asg, S_asgT, asgO_some, S_aug, augO_int, augK_add, S_setix, setK_eq, setO_some, setAt_eq, setA_0, S_ite, S_for, forO_some, lock_none, lock_ol, lock_bl, S_ret, S_ret0, S_brk, S_cont, S_pass, S_raise, raiK_some, setS_eq, setSO_no, setSO_fz, setSO_ol, setSO_bl, asgR_fz, asgR_ol, asgR_plc, asgP_ol, asgP_bl, retR_fz, retR_ol, retR_plc, retP_ol, asg_v, asg1_eq, asg1O_no, asg1O_fz, asg1O_ol, asg_tp, ag_nil, ag_cons, arg_nil, arg_fz, arg_plc, argT_ol, argT_bl, argT_olf, calR_ok, calR_ex, calI_t, calI_f, calO_some, io_plc, ioO_ol, ioO_io, forC_some, endF_rt, endF_nx, endF_ex, io_f, io_t, sl_io, sl_f, sl_tl, sl_nil, o_len_t, o_len_l, o_tuple_t, o_tuple_l, o_list_t, o_list_l, o_int, o_neg, o_sum, o_any, o_all, o_max, o_isN, o_notN, o_add, o_sub, o_band, o_bor, o_lt, o_le, o_gt, o_ge, o_eq, o_ne, o_ixT, o_ixL, at_0, at_1, m_pop, m_pop0], .inr rfl⟩
end
end K73

set_option Elab.async false
set_option linter.all false
set_option autoImplicit false
set_option maxRecDepth 100000
set_option maxHeartbeats 1000000
namespace K73
open PySem Ev
/-! ### asks -/
abbrev Ask := List Int × Int
def askT (a : Ask) : T := .tup [.tup (il a.1), .tup [.int a.2]]
def asksT (as : List Ask) : T := .tup (as.map askT)
def vat (as : List Ask) (n f : Nat) : Int := ((as.getD n ([], 0)).1).getD f 0
def diff (as : List Ask) (n f s : Nat) : Bool := !decide (vat as n f = vat as n s)
def pT (p : Nat × Nat) : T := .tup [.int (p.1 : Int), .int (p.2 : Int)]
def Wf (as : List Ask) (M : Nat) : Prop := ∀ a ∈ as, a.1.length = M
theorem at_ask {as : List Ask} {n : Nat} (h : n < as.length) : L2.atI (as.map askT) (n : Int) = some (.tup [.tup (il (as.getD n ([], 0)).1), .tup [.int (as.getD n ([], 0)).2]]) := L2.atI_nat (j := n) (by
  rw [List.getElem?_map, List.getElem?_eq_getElem h, List.getD_eq_getElem?_getD, List.getElem?_eq_getElem h]; rfl)
theorem at_val {as : List Ask} {M n f : Nat} (w : Wf as M) (h : n < as.length) (hf : f < M) : L2.atI (il (as.getD n ([], 0)).1) (f : Int) = some (.int (vat as n f)) := by
  have e : as.getD n ([], 0) = as[n] := by rw [List.getD_eq_getElem?_getD, List.getElem?_eq_getElem h]; rfl
  have hl : (as.getD n ([], 0)).1.length = M := by rw [e]; exact w _ (List.getElem_mem h)
  have hf' : f < (as.getD n ([], 0)).1.length := by rw [hl]; exact hf
  rw [at_il hf']
  unfold vat
  have e3 : (as.getD n ([], 0)).1.getD f 0 = (as.getD n ([], 0)).1[f] := by
    rw [List.getD_eq_getElem?_getD (l := (as.getD n ([], 0)).1), List.getElem?_eq_getElem hf']; rfl
  rw [e3]
section
variable (Φ : Tab)
/-! ### _law_parts_all -/
theorem any_loop (as : List Ask) (M : Nat) (w : Wf as M) (b c : Sl) (f s : Nat) (hf : f < M) (hs : s < M) : ∀ (ks : List Nat) (acc : List Bool) (z : Sl), (∀ k ∈ ks, k < as.length) → acc.length + ks.length < 10000 → z.isIo = false →
    ∃ z', compL (compK sg Φ (.p2 .ne (.p2 .ix (.p2 .ix (.p2 .ix (.var 0) (.var 5)) (.lit (.int 0))) (.var 3)) (.p2 .ix (.p2 .ix (.p2 .ix (.var 0) (.var 5)) (.lit (.int 0))) (.var 4))) (.v 5) (.lit (.bl true))) none [5] (nl ks) (acc.map T.bl)
      [.fz (asksT as), b, c, .fz (.int (f : Int)), .fz (.int (s : Int)), z] = .ok ((acc ++ ks.map fun n => diff as n f s).map T.bl) [.fz (asksT as), b, c, .fz (.int (f : Int)), .fz (.int (s : Int)), z']
  | [], acc, z, _, _, _ => ⟨z, by simp [nl, comp_nil]⟩
  | k :: r, acc, z, hk, hl, hz => by
    have hk0 := hk k (List.mem_cons_self ..)
    obtain ⟨z', e⟩ := any_loop as M w b c f s hf hs r (acc ++ [diff as k f s]) (.fz (.int (k : Int))) (fun q hq => hk q (List.mem_cons_of_mem _ hq)) (by simp at hl ⊢; omega) rfl
    refine ⟨z', ?_⟩
    have b1 : (acc.map T.bl).length < sizeLine := by rw [List.length_map, sizeLine_eq]; simp at hl; omega
    rw [show nl (k :: r) = .int (k : Int) :: nl r from rfl, comp_cons]
    simp only [List.getElem?_cons_zero, List.getElem?_cons_succ, List.set_cons_zero, List.set_cons_succ, List.getD_cons_zero, List.getD_cons_succ, ob_some, om_some, b_ok, b_ex, st_ok, st_ex, sq_nx, sq_rt, sq_bk, sq_ct, sq_ex, tu_nx, tu_rt, tu_bk, tu_ct, tu_ex, varR_fz, varR_ol, varR_bl, varR_io, v_var, v_lit, v_tup, v_lst, tupK_0, tupK_1, tupK_2, tupK_3, lstK_0, lstK_1, lstK_2, lstK_3, v_p1, p1K_eq, v_p2, p2K_eq, v_and, v_or, v_not, v_ite, v_call, v_mth, mth0_some, mthK_eq, mthO_some, own_eq, ownO_ol, ownO_io, mkOwn_t, mkOwn_f, v_sl, compK_eq, compT_some, v_comp, compC_none, wipe_nil, wipe_cons, rest_nil, rest_cons, fin_ok, con_fz, con_ol, con_plc, slCon_some, scon_fz, scon_ol, scon_bl, scon_io, set_fz, set_plc, set_ol, lift_some, bool_bl, opt_int, opt_non, toV_fz, toV_ol, toV_plc, toVO_ol, V_nil, V_cons, A_nil, A_cons, I_it1, itK_tup, itK_lst, itK_ol, itK_plc, itS_ol, itS_bl, I_rng1, I_rng2, I_rng3, S_nil, S_cons, S_expr, nxK_eq, S_asg, S_asgT, asgO_some, S_aug, augO_int, augK_add, S_setix, setK_eq, setO_some, setAt_eq, setA_0, S_ite, S_for, forO_some, lock_none, lock_ol, lock_bl, S_ret, S_ret0, S_brk, S_cont, S_pass, S_raise, raiK_some, setS_eq, setSO_no, setSO_fz, setSO_ol, setSO_bl, asgR_fz, asgR_ol, asgR_plc, asgP_ol, asgP_bl, retR_fz, retR_ol, retR_plc, retP_ol, asg_v, asg1_eq, asg1O_no, asg1O_fz, asg1O_ol, asg_tp, ag_nil, ag_cons, arg_nil, arg_fz, arg_plc, argT_ol, argT_bl, argT_olf, calR_ok, calR_ex, calI_t, calI_f, calO_some, io_plc, ioO_ol, ioO_io, forC_some, endF_rt, endF_nx, endF_ex, io_f, io_t, sl_io, sl_f, sl_tl, sl_nil, o_len_t, o_len_l, o_tuple_t, o_tuple_l, o_list_t, o_list_l, o_int, o_neg, o_sum, o_any, o_all, o_max, o_isN, o_notN, o_add, o_sub, o_band, o_bor, o_lt, o_le, o_gt, o_ge, o_eq, o_ne, o_ixT, o_ixL, at_0, at_1, m_pop, m_pop0, asksT, at_ask hk0, decide_true, decide_false, Bool.false_eq_true, reduceIte, Bool.not_true, Bool.not_false, at_val w hk0 hf, at_val w hk0 hs, compC_some b1]
    have e2 : acc.map T.bl ++ [.bl (!decide (vat as k f = vat as k s))] = (acc ++ [diff as k f s]).map T.bl := by simp [diff]
    simp only [asksT] at e
    rw [e2, e]
    simp
def parB : S := (.cons (.ite (.not (.p1 .any (.comp (.p2 .ne (.p2 .ix (.p2 .ix (.p2 .ix (.var 0) (.var 5)) (.lit (.int 0))) (.var 3)) (.p2 .ix (.p2 .ix (.p2 .ix (.var 0) (.var 5)) (.lit (.int 0))) (.var 4))) (.v 5) (.it1 (.var 1)) (.lit (.bl true)) [5]))) (.cons (.ret (.lit (.bl false))) .nil) .nil) .nil)
theorem par_step (as : List Ask) (M : Nat) (w : Wf as M) (c : Sl) (f s : Nat) (hf : f < M) (hs : s < M) (ks : List Nat) (hk : ∀ k ∈ ks, k < as.length) (hl : ks.length < 1000) :
    evS sg Φ mk FU parB [.fz (asksT as), .fz (tT ks), c, .fz (.int (f : Int)), .fz (.int (s : Int)), .no] = if ks.any (fun n => diff as n f s) then .nx [.fz (asksT as), .fz (tT ks), c, .fz (.int (f : Int)), .fz (.int (s : Int)), .no] else .rt (.fz (.bl false)) [.fz (asksT as), .fz (tT ks), c, .fz (.int (f : Int)), .fz (.int (s : Int)), .no] := by
  unfold parB
  obtain ⟨z', e⟩ := any_loop Φ as M w (.fz (tT ks)) c f s hf hs ks [] .no hk (by simp; omega) rfl
  simp only [S_cons, S_ite, v_not, v_p1, v_comp, I_it1, v_var, List.getElem?_cons_zero, List.getElem?_cons_succ, varR_fz, b_ok, tT, itK_tup]
  rw [compE_eq (by rfl)]
  rw [show ([] : List Bool).map T.bl = [] from rfl] at e
  simp only [tT] at e
  rw [e]
  have ea : (([] ++ ks.map fun n => diff as n f s).any id) = ks.any (fun n => diff as n f s) := by rw [List.nil_append, List.any_map]; rfl
  simp only [List.getElem?_cons_zero, List.getElem?_cons_succ, List.set_cons_zero, List.set_cons_succ, List.getD_cons_zero, List.getD_cons_succ, ob_some, om_some, b_ok, b_ex, st_ok, st_ex, sq_nx, sq_rt, sq_bk, sq_ct, sq_ex, tu_nx, tu_rt, tu_bk, tu_ct, tu_ex, varR_fz, varR_ol, varR_bl, varR_io, v_var, v_lit, v_tup, v_lst, tupK_0, tupK_1, tupK_2, tupK_3, lstK_0, lstK_1, lstK_2, lstK_3, v_p1, p1K_eq, v_p2, p2K_eq, v_and, v_or, v_not, v_ite, v_call, v_mth, mth0_some, mthK_eq, mthO_some, own_eq, ownO_ol, ownO_io, mkOwn_t, mkOwn_f, v_sl, compK_eq, compT_some, v_comp, compC_none, wipe_nil, wipe_cons, rest_nil, rest_cons, fin_ok, con_fz, con_ol, con_plc, slCon_some, scon_fz, scon_ol, scon_bl, scon_io, set_fz, set_plc, set_ol, lift_some, bool_bl, opt_int, opt_non, toV_fz, toV_ol, toV_plc, toVO_ol, V_nil, V_cons, A_nil, A_cons, I_it1, itK_tup, itK_lst, itK_ol, itK_plc, itS_ol, itS_bl, I_rng1, I_rng2, I_rng3, S_nil, S_cons, S_expr, nxK_eq, S_asg, S_asgT, asgO_some, S_aug, augO_int, augK_add, S_setix, setK_eq, setO_some, setAt_eq, setA_0, S_ite, S_for, forO_some, lock_none, lock_ol, lock_bl, S_ret, S_ret0, S_brk, S_cont, S_pass, S_raise, raiK_some, setS_eq, setSO_no, setSO_fz, setSO_ol, setSO_bl, asgR_fz, asgR_ol, asgR_plc, asgP_ol, asgP_bl, retR_fz, retR_ol, retR_plc, retP_ol, asg_v, asg1_eq, asg1O_no, asg1O_fz, asg1O_ol, asg_tp, ag_nil, ag_cons, arg_nil, arg_fz, arg_plc, argT_ol, argT_bl, argT_olf, calR_ok, calR_ex, calI_t, calI_f, calO_some, io_plc, ioO_ol, ioO_io, forC_some, endF_rt, endF_nx, endF_ex, io_f, io_t, sl_io, sl_f, sl_tl, sl_nil, o_len_t, o_len_l, o_tuple_t, o_tuple_l, o_list_t, o_list_l, o_int, o_neg, o_sum, o_any, o_all, o_max, o_isN, o_notN, o_add, o_sub, o_band, o_bor, o_lt, o_le, o_gt, o_ge, o_eq, o_ne, o_ixT, o_ixL, at_0, at_1, m_pop, m_pop0, ea]
  cases ks.any (fun n => diff as n f s) with
  | true => simp only [List.getElem?_cons_zero, List.getElem?_cons_succ, List.set_cons_zero, List.set_cons_succ, List.getD_cons_zero, List.getD_cons_succ, ob_some, om_some, b_ok, b_ex, st_ok, st_ex, sq_nx, sq_rt, sq_bk, sq_ct, sq_ex, tu_nx, tu_rt, tu_bk, tu_ct, tu_ex, varR_fz, varR_ol, varR_bl, varR_io, v_var, v_lit, v_tup, v_lst, tupK_0, tupK_1, tupK_2, tupK_3, lstK_0, lstK_1, lstK_2, lstK_3, v_p1, p1K_eq, v_p2, p2K_eq, v_and, v_or, v_not, v_ite, v_call, v_mth, mth0_some, mthK_eq, mthO_some, own_eq, ownO_ol, ownO_io, mkOwn_t, mkOwn_f, v_sl, compK_eq, compT_some, v_comp, compC_none, wipe_nil, wipe_cons, rest_nil, rest_cons, fin_ok, con_fz, con_ol, con_plc, slCon_some, scon_fz, scon_ol, scon_bl, scon_io, set_fz, set_plc, set_ol, lift_some, bool_bl, opt_int, opt_non, toV_fz, toV_ol, toV_plc, toVO_ol, V_nil, V_cons, A_nil, A_cons, I_it1, itK_tup, itK_lst, itK_ol, itK_plc, itS_ol, itS_bl, I_rng1, I_rng2, I_rng3, S_nil, S_cons, S_expr, nxK_eq, S_asg, S_asgT, asgO_some, S_aug, augO_int, augK_add, S_setix, setK_eq, setO_some, setAt_eq, setA_0, S_ite, S_for, forO_some, lock_none, lock_ol, lock_bl, S_ret, S_ret0, S_brk, S_cont, S_pass, S_raise, raiK_some, setS_eq, setSO_no, setSO_fz, setSO_ol, setSO_bl, asgR_fz, asgR_ol, asgR_plc, asgP_ol, asgP_bl, retR_fz, retR_ol, retR_plc, retP_ol, asg_v, asg1_eq, asg1O_no, asg1O_fz, asg1O_ol, asg_tp, ag_nil, ag_cons, arg_nil, arg_fz, arg_plc, argT_ol, argT_bl, argT_olf, calR_ok, calR_ex, calI_t, calI_f, calO_some, io_plc, ioO_ol, ioO_io, forC_some, endF_rt, endF_nx, endF_ex, io_f, io_t, sl_io, sl_f, sl_tl, sl_nil, o_len_t, o_len_l, o_tuple_t, o_tuple_l, o_list_t, o_list_l, o_int, o_neg, o_sum, o_any, o_all, o_max, o_isN, o_notN, o_add, o_sub, o_band, o_bor, o_lt, o_le, o_gt, o_ge, o_eq, o_ne, o_ixT, o_ixL, at_0, at_1, m_pop, m_pop0, decide_true, decide_false, Bool.false_eq_true, reduceIte, Bool.not_true, Bool.not_false]
  | false => simp only [List.getElem?_cons_zero, List.getElem?_cons_succ, List.set_cons_zero, List.set_cons_succ, List.getD_cons_zero, List.getD_cons_succ, ob_some, om_some, b_ok, b_ex, st_ok, st_ex, sq_nx, sq_rt, sq_bk, sq_ct, sq_ex, tu_nx, tu_rt, tu_bk, tu_ct, tu_ex, varR_fz, varR_ol, varR_bl, varR_io, v_var, v_lit, v_tup, v_lst, tupK_0, tupK_1, tupK_2, tupK_3, lstK_0, lstK_1, lstK_2, lstK_3, v_p1, p1K_eq, v_p2, p2K_eq, v_and, v_or, v_not, v_ite, v_call, v_mth, mth0_some, mthK_eq, mthO_some, own_eq, ownO_ol, ownO_io, mkOwn_t, mkOwn_f, v_sl, compK_eq, compT_some, v_comp, compC_none, wipe_nil, wipe_cons, rest_nil, rest_cons, fin_ok, con_fz, con_ol, con_plc, slCon_some, scon_fz, scon_ol, scon_bl, scon_io, set_fz, set_plc, set_ol, lift_some, bool_bl, opt_int, opt_non, toV_fz, toV_ol, toV_plc, toVO_ol, V_nil, V_cons, A_nil, A_cons, I_it1, itK_tup, itK_lst, itK_ol, itK_plc, itS_ol, itS_bl, I_rng1, I_rng2, I_rng3, S_nil, S_cons, S_expr, nxK_eq, S_asg, S_asgT, asgO_some, S_aug, augO_int, augK_add, S_setix, setK_eq, setO_some, setAt_eq, setA_0, S_ite, S_for, forO_some, lock_none, lock_ol, lock_bl, S_ret, S_ret0, S_brk, S_cont, S_pass, S_raise, raiK_some, setS_eq, setSO_no, setSO_fz, setSO_ol, setSO_bl, asgR_fz, asgR_ol, asgR_plc, asgP_ol, asgP_bl, retR_fz, retR_ol, retR_plc, retP_ol, asg_v, asg1_eq, asg1O_no, asg1O_fz, asg1O_ol, asg_tp, ag_nil, ag_cons, arg_nil, arg_fz, arg_plc, argT_ol, argT_bl, argT_olf, calR_ok, calR_ex, calI_t, calI_f, calO_some, io_plc, ioO_ol, ioO_io, forC_some, endF_rt, endF_nx, endF_ex, io_f, io_t, sl_io, sl_f, sl_tl, sl_nil, o_len_t, o_len_l, o_tuple_t, o_tuple_l, o_list_t, o_list_l, o_int, o_neg, o_sum, o_any, o_all, o_max, o_isN, o_notN, o_add, o_sub, o_band, o_bor, o_lt, o_le, o_gt, o_ge, o_eq, o_ne, o_ixT, o_ixL, at_0, at_1, m_pop, m_pop0, decide_true, decide_false, Bool.false_eq_true, reduceIte, Bool.not_true, Bool.not_false]
theorem par_loop (as : List Ask) (M : Nat) (w : Wf as M) (c : Sl) (ks : List Nat) (hk : ∀ k ∈ ks, k < as.length) (hl : ks.length < 1000) : ∀ (ps : List (Nat × Nat)) (z3 z4 : Sl), (∀ p ∈ ps, p.1 < M ∧ p.2 < M) → z3.isIo = false → z4.isIo = false →
    ∃ en, forL (asgT (.tp (.cons (.v 3) (.cons (.v 4) .nil)))) (evS sg Φ mk FU parB) (ps.map pT) [.fz (asksT as), .fz (tT ks), c, z3, z4, .no] = (if ps.all (fun p => ks.any fun n => diff as n p.1 p.2) then .nx en else .rt (.fz (.bl false)) en) ∧ en.length = 6
  | [], z3, z4, _, _, _ => ⟨[.fz (asksT as), .fz (tT ks), c, z3, z4, .no], by rw [List.map_nil, for_nil, List.all_nil, if_pos rfl], rfl⟩
  | p :: r, z3, z4, hp, h3, h4 => by
    obtain ⟨hf, hs⟩ := hp p (List.mem_cons_self ..)
    have e1 : asgT (.tp (.cons (.v 3) (.cons (.v 4) .nil))) (pT p) [.fz (asksT as), .fz (tT ks), c, z3, z4, .no] = some [.fz (asksT as), .fz (tT ks), c, .fz (.int (p.1 : Int)), .fz (.int (p.2 : Int)), .no] := by
      unfold pT
      rw [asgT, asgTs, asgT]
      cases z3 <;> cases z4 <;> first | rfl | (cases h3; done) | (cases h4; done)
    rw [List.map_cons, for_cons, e1, forC_some, par_step Φ as M w c p.1 p.2 hf hs ks hk hl, List.all_cons]
    cases hq : ks.any (fun n => diff as n p.1 p.2) with
    | true =>
      obtain ⟨en, e, q⟩ := par_loop as M w c ks hk hl r (.fz (.int (p.1 : Int))) (.fz (.int (p.2 : Int))) (fun q hq => hp q (List.mem_cons_of_mem _ hq)) rfl rfl
      refine ⟨en, ?_, q⟩
      rw [if_pos rfl, tu_nx, e, Bool.true_and]
    | false =>
      refine ⟨[.fz (asksT as), .fz (tT ks), c, .fz (.int (p.1 : Int)), .fz (.int (p.2 : Int)), .no], ?_, rfl⟩
      rw [if_neg (by simp), tu_rt, Bool.false_and, if_neg (by simp)]
theorem parts_ok (as : List Ask) (M : Nat) (w : Wf as M) (ks : List Nat) (ps : List (Nat × Nat)) (hk : ∀ k ∈ ks, k < as.length) (hl : ks.length < 1000) (hp : ∀ p ∈ ps, p.1 < M ∧ p.2 < M) :
    evD sg Φ mk FU (sg 12) ⟨6, ir__law_parts_all⟩ [asksT as, tT ks, .lst (ps.map pT)] = .ok (.fz (.bl (ps.all fun p => ks.any fun n => diff as n p.1 p.2))) [] := by
  rw [evD_eq, show sg 12 = ⟨3, false, [false, false, true]⟩ from rfl]
  have e0 : ir__law_parts_all = (.cons (.for (.tp (.cons (.v 3) (.cons (.v 4) .nil))) (.it1 (.var 2)) parB) (.cons (.ret (.lit (.bl true))) .nil)) := rfl
  rw [e0]
  simp only [sl_io, sl_f, sl_tl, sl_nil, List.length_cons, List.length_nil, List.replicate, List.cons_append, List.nil_append]
  simp only [List.getElem?_cons_zero, List.getElem?_cons_succ, List.set_cons_zero, List.set_cons_succ, List.getD_cons_zero, List.getD_cons_succ, ob_some, om_some, b_ok, b_ex, st_ok, st_ex, sq_nx, sq_rt, sq_bk, sq_ct, sq_ex, tu_nx, tu_rt, tu_bk, tu_ct, tu_ex, varR_fz, varR_ol, varR_bl, varR_io, v_var, v_lit, v_tup, v_lst, tupK_0, tupK_1, tupK_2, tupK_3, lstK_0, lstK_1, lstK_2, lstK_3, v_p1, p1K_eq, v_p2, p2K_eq, v_and, v_or, v_not, v_ite, v_call, v_mth, mth0_some, mthK_eq, mthO_some, own_eq, ownO_ol, ownO_io, mkOwn_t, mkOwn_f, v_sl, compK_eq, compT_some, v_comp, compC_none, wipe_nil, wipe_cons, rest_nil, rest_cons, fin_ok, con_fz, con_ol, con_plc, slCon_some, scon_fz, scon_ol, scon_bl, scon_io, set_fz, set_plc, set_ol, lift_some, bool_bl, opt_int, opt_non, toV_fz, toV_ol, toV_plc, toVO_ol, V_nil, V_cons, A_nil, A_cons, I_it1, itK_tup, itK_lst, itK_ol, itK_plc, itS_ol, itS_bl, I_rng1, I_rng2, I_rng3, S_nil, S_cons, S_expr, nxK_eq, S_asg, S_asgT, asgO_some, S_aug, augO_int, augK_add, S_setix, setK_eq, setO_some, setAt_eq, setA_0, S_ite, S_for, forO_some, lock_none, lock_ol, lock_bl, S_ret, S_ret0, S_brk, S_cont, S_pass, S_raise, raiK_some, setS_eq, setSO_no, setSO_fz, setSO_ol, setSO_bl, asgR_fz, asgR_ol, asgR_plc, asgP_ol, asgP_bl, retR_fz, retR_ol, retR_plc, retP_ol, asg_v, asg1_eq, asg1O_no, asg1O_fz, asg1O_ol, asg_tp, ag_nil, ag_cons, arg_nil, arg_fz, arg_plc, argT_ol, argT_bl, argT_olf, calR_ok, calR_ex, calI_t, calI_f, calO_some, io_plc, ioO_ol, ioO_io, forC_some, endF_rt, endF_nx, endF_ex, io_f, io_t, sl_io, sl_f, sl_tl, sl_nil, o_len_t, o_len_l, o_tuple_t, o_tuple_l, o_list_t, o_list_l, o_int, o_neg, o_sum, o_any, o_all, o_max, o_isN, o_notN, o_add, o_sub, o_band, o_bor, o_lt, o_le, o_gt, o_ge, o_eq, o_ne, o_ixT, o_ixL, at_0, at_1, m_pop, m_pop0]
  obtain ⟨en, e, q⟩ := par_loop Φ as M w (.bl (ps.map pT)) ks hk hl ps .no .no hp rfl rfl
  rw [e]
  cases ps.all (fun p => ks.any fun n => diff as n p.1 p.2) with
  | true =>
    match en, q with
    | [a, b, c, d, e, f], _ => simp only [List.getElem?_cons_zero, List.getElem?_cons_succ, List.set_cons_zero, List.set_cons_succ, List.getD_cons_zero, List.getD_cons_succ, ob_some, om_some, b_ok, b_ex, st_ok, st_ex, sq_nx, sq_rt, sq_bk, sq_ct, sq_ex, tu_nx, tu_rt, tu_bk, tu_ct, tu_ex, varR_fz, varR_ol, varR_bl, varR_io, v_var, v_lit, v_tup, v_lst, tupK_0, tupK_1, tupK_2, tupK_3, lstK_0, lstK_1, lstK_2, lstK_3, v_p1, p1K_eq, v_p2, p2K_eq, v_and, v_or, v_not, v_ite, v_call, v_mth, mth0_some, mthK_eq, mthO_some, own_eq, ownO_ol, ownO_io, mkOwn_t, mkOwn_f, v_sl, compK_eq, compT_some, v_comp, compC_none, wipe_nil, wipe_cons, rest_nil, rest_cons, fin_ok, con_fz, con_ol, con_plc, slCon_some, scon_fz, scon_ol, scon_bl, scon_io, set_fz, set_plc, set_ol, lift_some, bool_bl, opt_int, opt_non, toV_fz, toV_ol, toV_plc, toVO_ol, V_nil, V_cons, A_nil, A_cons, I_it1, itK_tup, itK_lst, itK_ol, itK_plc, itS_ol, itS_bl, I_rng1, I_rng2, I_rng3, S_nil, S_cons, S_expr, nxK_eq, S_asg, S_asgT, asgO_some, S_aug, augO_int, augK_add, S_setix, setK_eq, setO_some, setAt_eq, setA_0, S_ite, S_for, forO_some, lock_none, lock_ol, lock_bl, S_ret, S_ret0, S_brk, S_cont, S_pass, S_raise, raiK_some, setS_eq, setSO_no, setSO_fz, setSO_ol, setSO_bl, asgR_fz, asgR_ol, asgR_plc, asgP_ol, asgP_bl, retR_fz, retR_ol, retR_plc, retP_ol, asg_v, asg1_eq, asg1O_no, asg1O_fz, asg1O_ol, asg_tp, ag_nil, ag_cons, arg_nil, arg_fz, arg_plc, argT_ol, argT_bl, argT_olf, calR_ok, calR_ex, calI_t, calI_f, calO_some, io_plc, ioO_ol, ioO_io, forC_some, endF_rt, endF_nx, endF_ex, io_f, io_t, sl_io, sl_f, sl_tl, sl_nil, o_len_t, o_len_l, o_tuple_t, o_tuple_l, o_list_t, o_list_l, o_int, o_neg, o_sum, o_any, o_all, o_max, o_isN, o_notN, o_add, o_sub, o_band, o_bor, o_lt, o_le, o_gt, o_ge, o_eq, o_ne, o_ixT, o_ixL, at_0, at_1, m_pop, m_pop0, decide_true, decide_false, Bool.false_eq_true, reduceIte, Bool.not_true, Bool.not_false]
  | false => simp only [List.getElem?_cons_zero, List.getElem?_cons_succ, List.set_cons_zero, List.set_cons_succ, List.getD_cons_zero, List.getD_cons_succ, ob_some, om_some, b_ok, b_ex, st_ok, st_ex, sq_nx, sq_rt, sq_bk, sq_ct, sq_ex, tu_nx, tu_rt, tu_bk, tu_ct, tu_ex, varR_fz, varR_ol, varR_bl, varR_io, v_var, v_lit, v_tup, v_lst, tupK_0, tupK_1, tupK_2, tupK_3, lstK_0, lstK_1, lstK_2, lstK_3, v_p1, p1K_eq, v_p2, p2K_eq, v_and, v_or, v_not, v_ite, v_call, v_mth, mth0_some, mthK_eq, mthO_some, own_eq, ownO_ol, ownO_io, mkOwn_t, mkOwn_f, v_sl, compK_eq, compT_some, v_comp, compC_none, wipe_nil, wipe_cons, rest_nil, rest_cons, fin_ok, con_fz, con_ol, con_plc, slCon_some, scon_fz, scon_ol, scon_bl, scon_io, set_fz, set_plc, set_ol, lift_some, bool_bl, opt_int, opt_non, toV_fz, toV_ol, toV_plc, toVO_ol, V_nil, V_cons, A_nil, A_cons, I_it1, itK_tup, itK_lst, itK_ol, itK_plc, itS_ol, itS_bl, I_rng1, I_rng2, I_rng3, S_nil, S_cons, S_expr, nxK_eq, S_asg, S_asgT, asgO_some, S_aug, augO_int, augK_add, S_setix, setK_eq, setO_some, setAt_eq, setA_0, S_ite, S_for, forO_some, lock_none, lock_ol, lock_bl, S_ret, S_ret0, S_brk, S_cont, S_pass, S_raise, raiK_some, setS_eq, setSO_no, setSO_fz, setSO_ol, setSO_bl, asgR_fz, asgR_ol, asgR_plc, asgP_ol, asgP_bl, retR_fz, retR_ol, retR_plc, retP_ol, asg_v, asg1_eq, asg1O_no, asg1O_fz, asg1O_ol, asg_tp, ag_nil, ag_cons, arg_nil, arg_fz, arg_plc, argT_ol, argT_bl, argT_olf, calR_ok, calR_ex, calI_t, calI_f, calO_some, io_plc, ioO_ol, ioO_io, forC_some, endF_rt, endF_nx, endF_ex, io_f, io_t, sl_io, sl_f, sl_tl, sl_nil, o_len_t, o_len_l, o_tuple_t, o_tuple_l, o_list_t, o_list_l, o_int, o_neg, o_sum, o_any, o_all, o_max, o_isN, o_notN, o_add, o_sub, o_band, o_bor, o_lt, o_le, o_gt, o_ge, o_eq, o_ne, o_ixT, o_ixL, at_0, at_1, m_pop, m_pop0, decide_true, decide_false, Bool.false_eq_true, reduceIte, Bool.not_true, Bool.not_false]
/-! ### _law_fewest -/
def fw (p : List Nat → Bool) (A : Nat) : Option (List Nat) := (List.range (A + 1)).findSome? fun s => (rowsL A s).find? p
def oT : Option (List Nat) → T
  | none => .non
  | some c => tT c
def fewB1 : S := (.cons (.ite (.call 12 (.cons (.var 0) (.cons (.var 3) (.cons (.var 1) .nil)))) (.cons (.ret (.var 3)) .nil) .nil) .nil)
def pa (as : List Ask) (ps : List (Nat × Nat)) (ks : List Nat) : Bool := ps.all fun p => ks.any fun n => diff as n p.1 p.2
theorem few_in (h12 : ∀ (as : List Ask) (M : Nat), Wf as M → ∀ (ks : List Nat) (ps : List (Nat × Nat)), (∀ k ∈ ks, k < as.length) → ks.length < 1000 → (∀ p ∈ ps, p.1 < M ∧ p.2 < M) → Φ 12 [asksT as, tT ks, .lst (ps.map pT)] = .ok (.fz (.bl (pa as ps ks))) [])
    (as : List Ask) (M : Nat) (w : Wf as M) (ps : List (Nat × Nat)) (hp : ∀ p ∈ ps, p.1 < M ∧ p.2 < M) (c : Sl) : ∀ (rows : List (List Nat)) (z : Sl), (∀ r ∈ rows, r.length < 1000 ∧ ∀ k ∈ r, k < as.length) → z.isIo = false →
    ∃ z', z'.isIo = false ∧ forL (asgT (.v 3)) (evS sg Φ mk FU fewB1) (rows.map tT) [.fz (asksT as), .bl (ps.map pT), c, z] = (match rows.find? (pa as ps) with
      | none => .nx [.fz (asksT as), .bl (ps.map pT), c, z']
      | some q => .rt (.fz (tT q)) [.fz (asksT as), .bl (ps.map pT), c, z'])
  | [], z, _, hz => ⟨z, hz, rfl⟩
  | row :: r, z, hr, hz => by
    obtain ⟨h1, h2⟩ := hr row (List.mem_cons_self ..)
    have e1 : asgT (.v 3) (tT row) [.fz (asksT as), .bl (ps.map pT), c, z] = some [.fz (asksT as), .bl (ps.map pT), c, .fz (tT row)] := by
      rw [asgT]
      cases z <;> first | rfl | cases hz
    have s12 : sg 12 = ⟨3, false, [false, false, true]⟩ := rfl
    have eb : evS sg Φ mk FU fewB1 [.fz (asksT as), .bl (ps.map pT), c, .fz (tT row)] = if pa as ps row then .rt (.fz (tT row)) [.fz (asksT as), .bl (ps.map pT), c, .fz (tT row)] else .nx [.fz (asksT as), .bl (ps.map pT), c, .fz (tT row)] := by
      unfold fewB1
      simp only [List.getElem?_cons_zero, List.getElem?_cons_succ, List.set_cons_zero, List.set_cons_succ, List.getD_cons_zero, List.getD_cons_succ, ob_some, om_some, b_ok, b_ex, st_ok, st_ex, sq_nx, sq_rt, sq_bk, sq_ct, sq_ex, tu_nx, tu_rt, tu_bk, tu_ct, tu_ex, varR_fz, varR_ol, varR_bl, varR_io, v_var, v_lit, v_tup, v_lst, tupK_0, tupK_1, tupK_2, tupK_3, lstK_0, lstK_1, lstK_2, lstK_3, v_p1, p1K_eq, v_p2, p2K_eq, v_and, v_or, v_not, v_ite, v_call, v_mth, mth0_some, mthK_eq, mthO_some, own_eq, ownO_ol, ownO_io, mkOwn_t, mkOwn_f, v_sl, compK_eq, compT_some, v_comp, compC_none, wipe_nil, wipe_cons, rest_nil, rest_cons, fin_ok, con_fz, con_ol, con_plc, slCon_some, scon_fz, scon_ol, scon_bl, scon_io, set_fz, set_plc, set_ol, lift_some, bool_bl, opt_int, opt_non, toV_fz, toV_ol, toV_plc, toVO_ol, V_nil, V_cons, A_nil, A_cons, I_it1, itK_tup, itK_lst, itK_ol, itK_plc, itS_ol, itS_bl, I_rng1, I_rng2, I_rng3, S_nil, S_cons, S_expr, nxK_eq, S_asg, S_asgT, asgO_some, S_aug, augO_int, augK_add, S_setix, setK_eq, setO_some, setAt_eq, setA_0, S_ite, S_for, forO_some, lock_none, lock_ol, lock_bl, S_ret, S_ret0, S_brk, S_cont, S_pass, S_raise, raiK_some, setS_eq, setSO_no, setSO_fz, setSO_ol, setSO_bl, asgR_fz, asgR_ol, asgR_plc, asgP_ol, asgP_bl, retR_fz, retR_ol, retR_plc, retP_ol, asg_v, asg1_eq, asg1O_no, asg1O_fz, asg1O_ol, asg_tp, ag_nil, ag_cons, arg_nil, arg_fz, arg_plc, argT_ol, argT_bl, argT_olf, calR_ok, calR_ex, calI_t, calI_f, calO_some, io_plc, ioO_ol, ioO_io, forC_some, endF_rt, endF_nx, endF_ex, io_f, io_t, sl_io, sl_f, sl_tl, sl_nil, o_len_t, o_len_l, o_tuple_t, o_tuple_l, o_list_t, o_list_l, o_int, o_neg, o_sum, o_any, o_all, o_max, o_isN, o_notN, o_add, o_sub, o_band, o_bor, o_lt, o_le, o_gt, o_ge, o_eq, o_ne, o_ixT, o_ixL, at_0, at_1, m_pop, m_pop0, call_plain s12, h12 as M w row ps h2 h1 hp]
      cases pa as ps row with
      | true => simp only [List.getElem?_cons_zero, List.getElem?_cons_succ, List.set_cons_zero, List.set_cons_succ, List.getD_cons_zero, List.getD_cons_succ, ob_some, om_some, b_ok, b_ex, st_ok, st_ex, sq_nx, sq_rt, sq_bk, sq_ct, sq_ex, tu_nx, tu_rt, tu_bk, tu_ct, tu_ex, varR_fz, varR_ol, varR_bl, varR_io, v_var, v_lit, v_tup, v_lst, tupK_0, tupK_1, tupK_2, tupK_3, lstK_0, lstK_1, lstK_2, lstK_3, v_p1, p1K_eq, v_p2, p2K_eq, v_and, v_or, v_not, v_ite, v_call, v_mth, mth0_some, mthK_eq, mthO_some, own_eq, ownO_ol, ownO_io, mkOwn_t, mkOwn_f, v_sl, compK_eq, compT_some, v_comp, compC_none, wipe_nil, wipe_cons, rest_nil, rest_cons, fin_ok, con_fz, con_ol, con_plc, slCon_some, scon_fz, scon_ol, scon_bl, scon_io, set_fz, set_plc, set_ol, lift_some, bool_bl, opt_int, opt_non, toV_fz, toV_ol, toV_plc, toVO_ol, V_nil, V_cons, A_nil, A_cons, I_it1, itK_tup, itK_lst, itK_ol, itK_plc, itS_ol, itS_bl, I_rng1, I_rng2, I_rng3, S_nil, S_cons, S_expr, nxK_eq, S_asg, S_asgT, asgO_some, S_aug, augO_int, augK_add, S_setix, setK_eq, setO_some, setAt_eq, setA_0, S_ite, S_for, forO_some, lock_none, lock_ol, lock_bl, S_ret, S_ret0, S_brk, S_cont, S_pass, S_raise, raiK_some, setS_eq, setSO_no, setSO_fz, setSO_ol, setSO_bl, asgR_fz, asgR_ol, asgR_plc, asgP_ol, asgP_bl, retR_fz, retR_ol, retR_plc, retP_ol, asg_v, asg1_eq, asg1O_no, asg1O_fz, asg1O_ol, asg_tp, ag_nil, ag_cons, arg_nil, arg_fz, arg_plc, argT_ol, argT_bl, argT_olf, calR_ok, calR_ex, calI_t, calI_f, calO_some, io_plc, ioO_ol, ioO_io, forC_some, endF_rt, endF_nx, endF_ex, io_f, io_t, sl_io, sl_f, sl_tl, sl_nil, o_len_t, o_len_l, o_tuple_t, o_tuple_l, o_list_t, o_list_l, o_int, o_neg, o_sum, o_any, o_all, o_max, o_isN, o_notN, o_add, o_sub, o_band, o_bor, o_lt, o_le, o_gt, o_ge, o_eq, o_ne, o_ixT, o_ixL, at_0, at_1, m_pop, m_pop0, decide_true, decide_false, Bool.false_eq_true, reduceIte, Bool.not_true, Bool.not_false]
      | false => simp only [List.getElem?_cons_zero, List.getElem?_cons_succ, List.set_cons_zero, List.set_cons_succ, List.getD_cons_zero, List.getD_cons_succ, ob_some, om_some, b_ok, b_ex, st_ok, st_ex, sq_nx, sq_rt, sq_bk, sq_ct, sq_ex, tu_nx, tu_rt, tu_bk, tu_ct, tu_ex, varR_fz, varR_ol, varR_bl, varR_io, v_var, v_lit, v_tup, v_lst, tupK_0, tupK_1, tupK_2, tupK_3, lstK_0, lstK_1, lstK_2, lstK_3, v_p1, p1K_eq, v_p2, p2K_eq, v_and, v_or, v_not, v_ite, v_call, v_mth, mth0_some, mthK_eq, mthO_some, own_eq, ownO_ol, ownO_io, mkOwn_t, mkOwn_f, v_sl, compK_eq, compT_some, v_comp, compC_none, wipe_nil, wipe_cons, rest_nil, rest_cons, fin_ok, con_fz, con_ol, con_plc, slCon_some, scon_fz, scon_ol, scon_bl, scon_io, set_fz, set_plc, set_ol, lift_some, bool_bl, opt_int, opt_non, toV_fz, toV_ol, toV_plc, toVO_ol, V_nil, V_cons, A_nil, A_cons, I_it1, itK_tup, itK_lst, itK_ol, itK_plc, itS_ol, itS_bl, I_rng1, I_rng2, I_rng3, S_nil, S_cons, S_expr, nxK_eq, S_asg, S_asgT, asgO_some, S_aug, augO_int, augK_add, S_setix, setK_eq, setO_some, setAt_eq, setA_0, S_ite, S_for, forO_some, lock_none, lock_ol, lock_bl, S_ret, S_ret0, S_brk, S_cont, S_pass, S_raise, raiK_some, setS_eq, setSO_no, setSO_fz, setSO_ol, setSO_bl, asgR_fz, asgR_ol, asgR_plc, asgP_ol, asgP_bl, retR_fz, retR_ol, retR_plc, retP_ol, asg_v, asg1_eq, asg1O_no, asg1O_fz, asg1O_ol, asg_tp, ag_nil, ag_cons, arg_nil, arg_fz, arg_plc, argT_ol, argT_bl, argT_olf, calR_ok, calR_ex, calI_t, calI_f, calO_some, io_plc, ioO_ol, ioO_io, forC_some, endF_rt, endF_nx, endF_ex, io_f, io_t, sl_io, sl_f, sl_tl, sl_nil, o_len_t, o_len_l, o_tuple_t, o_tuple_l, o_list_t, o_list_l, o_int, o_neg, o_sum, o_any, o_all, o_max, o_isN, o_notN, o_add, o_sub, o_band, o_bor, o_lt, o_le, o_gt, o_ge, o_eq, o_ne, o_ixT, o_ixL, at_0, at_1, m_pop, m_pop0, decide_true, decide_false, Bool.false_eq_true, reduceIte, Bool.not_true, Bool.not_false]
    rw [List.map_cons, for_cons, e1, forC_some, eb, List.find?_cons]
    cases pa as ps row with
    | true => exact ⟨.fz (tT row), rfl, by simp only [decide_true, decide_false, Bool.false_eq_true, reduceIte, Bool.not_true, Bool.not_false, tu_rt]⟩
    | false =>
      obtain ⟨z', hz', e⟩ := few_in h12 as M w ps hp c r (.fz (tT row)) (fun q hq => hr q (List.mem_cons_of_mem _ hq)) rfl
      exact ⟨z', hz', by simp only [decide_true, decide_false, Bool.false_eq_true, reduceIte, Bool.not_true, Bool.not_false, tu_nx]; exact e⟩
theorem few_out (h12 : ∀ (as : List Ask) (M : Nat), Wf as M → ∀ (ks : List Nat) (ps : List (Nat × Nat)), (∀ k ∈ ks, k < as.length) → ks.length < 1000 → (∀ p ∈ ps, p.1 < M ∧ p.2 < M) → Φ 12 [asksT as, tT ks, .lst (ps.map pT)] = .ok (.fz (.bl (pa as ps ks))) [])
    (h11 : ∀ A s : Nat, A ≤ 7 → s ≤ 7 → ∃ r, Φ 11 [.int (A : Int), .int (s : Int)] = .ok r [] ∧ (r = .ol ((rowsL A s).map tT) ∨ r = .fz (.lst ((rowsL A s).map tT))))
    (as : List Ask) (hA : as.length ≤ 7) (M : Nat) (w : Wf as M) (ps : List (Nat × Nat)) (hp : ∀ p ∈ ps, p.1 < M ∧ p.2 < M) : ∀ (ss : List Nat) (z2 z3 : Sl), (∀ s ∈ ss, s ≤ 7) → z2.isIo = false → z3.isIo = false →
    ∃ z2' z3', forL (asgT (.v 2)) (evS sg Φ mk FU (.cons (.for (.v 3) (.it1 (.call 11 (.cons (.p1 .len (.var 0)) (.cons (.var 2) .nil)))) fewB1) .nil)) (nl ss) [.fz (asksT as), .bl (ps.map pT), z2, z3] = (match ss.findSome? (fun s => (rowsL as.length s).find? (pa as ps)) with
      | none => .nx [.fz (asksT as), .bl (ps.map pT), z2', z3']
      | some q => .rt (.fz (tT q)) [.fz (asksT as), .bl (ps.map pT), z2', z3'])
  | [], z2, z3, _, _, _ => ⟨z2, z3, rfl⟩
  | s :: r, z2, z3, hs, h2, h3 => by
    have hs0 := hs s (List.mem_cons_self ..)
    have e1 : asgT (.v 2) (.int (s : Int)) [.fz (asksT as), .bl (ps.map pT), z2, z3] = some [.fz (asksT as), .bl (ps.map pT), .fz (.int (s : Int)), z3] := by
      rw [asgT]
      cases z2 <;> first | rfl | cases h2
    have s11 : sg 11 = ⟨2, false, [false, false]⟩ := rfl
    obtain ⟨z', hz', e⟩ := few_in Φ h12 as M w ps hp (.fz (.int (s : Int))) (rowsL as.length s) z3 (fun q hq => ⟨by rw [rowsL_mem hq]; omega, rowsL_lt hq⟩) h3
    have el : ((as.map askT).length : Int) = (as.length : Int) := by rw [List.length_map]
    have ef : evS sg Φ mk FU (.for (.v 3) (.it1 (.call 11 (.cons (.p1 .len (.var 0)) (.cons (.var 2) .nil)))) fewB1) [.fz (asksT as), .bl (ps.map pT), .fz (.int (s : Int)), z3] = forL (asgT (.v 3)) (evS sg Φ mk FU fewB1) ((rowsL as.length s).map tT) [.fz (asksT as), .bl (ps.map pT), .fz (.int (s : Int)), z3] := by
      obtain ⟨q, eq, hq⟩ := h11 as.length s hA hs0
      rcases hq with rfl | rfl
      · simp only [List.getElem?_cons_zero, List.getElem?_cons_succ, List.set_cons_zero, List.set_cons_succ, List.getD_cons_zero, List.getD_cons_succ, ob_some, om_some, b_ok, b_ex, st_ok, st_ex, sq_nx, sq_rt, sq_bk, sq_ct, sq_ex, tu_nx, tu_rt, tu_bk, tu_ct, tu_ex, varR_fz, varR_ol, varR_bl, varR_io, v_var, v_lit, v_tup, v_lst, tupK_0, tupK_1, tupK_2, tupK_3, lstK_0, lstK_1, lstK_2, lstK_3, v_p1, p1K_eq, v_p2, p2K_eq, v_and, v_or, v_not, v_ite, v_call, v_mth, mth0_some, mthK_eq, mthO_some, own_eq, ownO_ol, ownO_io, mkOwn_t, mkOwn_f, v_sl, compK_eq, compT_some, v_comp, compC_none, wipe_nil, wipe_cons, rest_nil, rest_cons, fin_ok, con_fz, con_ol, con_plc, slCon_some, scon_fz, scon_ol, scon_bl, scon_io, set_fz, set_plc, set_ol, lift_some, bool_bl, opt_int, opt_non, toV_fz, toV_ol, toV_plc, toVO_ol, V_nil, V_cons, A_nil, A_cons, I_it1, itK_tup, itK_lst, itK_ol, itK_plc, itS_ol, itS_bl, I_rng1, I_rng2, I_rng3, S_nil, S_cons, S_expr, nxK_eq, S_asg, S_asgT, asgO_some, S_aug, augO_int, augK_add, S_setix, setK_eq, setO_some, setAt_eq, setA_0, S_ite, S_for, forO_some, lock_none, lock_ol, lock_bl, S_ret, S_ret0, S_brk, S_cont, S_pass, S_raise, raiK_some, setS_eq, setSO_no, setSO_fz, setSO_ol, setSO_bl, asgR_fz, asgR_ol, asgR_plc, asgP_ol, asgP_bl, retR_fz, retR_ol, retR_plc, retP_ol, asg_v, asg1_eq, asg1O_no, asg1O_fz, asg1O_ol, asg_tp, ag_nil, ag_cons, arg_nil, arg_fz, arg_plc, argT_ol, argT_bl, argT_olf, calR_ok, calR_ex, calI_t, calI_f, calO_some, io_plc, ioO_ol, ioO_io, forC_some, endF_rt, endF_nx, endF_ex, io_f, io_t, sl_io, sl_f, sl_tl, sl_nil, o_len_t, o_len_l, o_tuple_t, o_tuple_l, o_list_t, o_list_l, o_int, o_neg, o_sum, o_any, o_all, o_max, o_isN, o_notN, o_add, o_sub, o_band, o_bor, o_lt, o_le, o_gt, o_ge, o_eq, o_ne, o_ixT, o_ixL, at_0, at_1, m_pop, m_pop0, asksT, el, call_plain s11, eq]
      · simp only [List.getElem?_cons_zero, List.getElem?_cons_succ, List.set_cons_zero, List.set_cons_succ, List.getD_cons_zero, List.getD_cons_succ, ob_some, om_some, b_ok, b_ex, st_ok, st_ex, sq_nx, sq_rt, sq_bk, sq_ct, sq_ex, tu_nx, tu_rt, tu_bk, tu_ct, tu_ex, varR_fz, varR_ol, varR_bl, varR_io, v_var, v_lit, v_tup, v_lst, tupK_0, tupK_1, tupK_2, tupK_3, lstK_0, lstK_1, lstK_2, lstK_3, v_p1, p1K_eq, v_p2, p2K_eq, v_and, v_or, v_not, v_ite, v_call, v_mth, mth0_some, mthK_eq, mthO_some, own_eq, ownO_ol, ownO_io, mkOwn_t, mkOwn_f, v_sl, compK_eq, compT_some, v_comp, compC_none, wipe_nil, wipe_cons, rest_nil, rest_cons, fin_ok, con_fz, con_ol, con_plc, slCon_some, scon_fz, scon_ol, scon_bl, scon_io, set_fz, set_plc, set_ol, lift_some, bool_bl, opt_int, opt_non, toV_fz, toV_ol, toV_plc, toVO_ol, V_nil, V_cons, A_nil, A_cons, I_it1, itK_tup, itK_lst, itK_ol, itK_plc, itS_ol, itS_bl, I_rng1, I_rng2, I_rng3, S_nil, S_cons, S_expr, nxK_eq, S_asg, S_asgT, asgO_some, S_aug, augO_int, augK_add, S_setix, setK_eq, setO_some, setAt_eq, setA_0, S_ite, S_for, forO_some, lock_none, lock_ol, lock_bl, S_ret, S_ret0, S_brk, S_cont, S_pass, S_raise, raiK_some, setS_eq, setSO_no, setSO_fz, setSO_ol, setSO_bl, asgR_fz, asgR_ol, asgR_plc, asgP_ol, asgP_bl, retR_fz, retR_ol, retR_plc, retP_ol, asg_v, asg1_eq, asg1O_no, asg1O_fz, asg1O_ol, asg_tp, ag_nil, ag_cons, arg_nil, arg_fz, arg_plc, argT_ol, argT_bl, argT_olf, calR_ok, calR_ex, calI_t, calI_f, calO_some, io_plc, ioO_ol, ioO_io, forC_some, endF_rt, endF_nx, endF_ex, io_f, io_t, sl_io, sl_f, sl_tl, sl_nil, o_len_t, o_len_l, o_tuple_t, o_tuple_l, o_list_t, o_list_l, o_int, o_neg, o_sum, o_any, o_all, o_max, o_isN, o_notN, o_add, o_sub, o_band, o_bor, o_lt, o_le, o_gt, o_ge, o_eq, o_ne, o_ixT, o_ixL, at_0, at_1, m_pop, m_pop0, asksT, el, call_plain s11, eq]
    rw [show nl (s :: r) = .int (s : Int) :: nl r from rfl, for_cons, e1, forC_some, S_cons, ef, e, List.findSome?_cons]
    cases (rowsL as.length s).find? (pa as ps) with
    | some q => exact ⟨_, _, rfl⟩
    | none =>
      obtain ⟨y2, y3, e2⟩ := few_out h12 h11 as hA M w ps hp r (.fz (.int (s : Int))) z' (fun q hq => hs q (List.mem_cons_of_mem _ hq)) rfl hz'
      exact ⟨y2, y3, e2⟩
theorem fewest_ok (h12 : ∀ (as : List Ask) (M : Nat), Wf as M → ∀ (ks : List Nat) (ps : List (Nat × Nat)), (∀ k ∈ ks, k < as.length) → ks.length < 1000 → (∀ p ∈ ps, p.1 < M ∧ p.2 < M) → Φ 12 [asksT as, tT ks, .lst (ps.map pT)] = .ok (.fz (.bl (pa as ps ks))) [])
    (h11 : ∀ A s : Nat, A ≤ 7 → s ≤ 7 → ∃ r, Φ 11 [.int (A : Int), .int (s : Int)] = .ok r [] ∧ (r = .ol ((rowsL A s).map tT) ∨ r = .fz (.lst ((rowsL A s).map tT))))
    (as : List Ask) (hA : as.length ≤ 7) (M : Nat) (w : Wf as M) (ps : List (Nat × Nat)) (hp : ∀ p ∈ ps, p.1 < M ∧ p.2 < M) :
    evD sg Φ mk FU (sg 13) ⟨4, ir__law_fewest⟩ [asksT as, .lst (ps.map pT)] = .ok (.fz (oT (fw (pa as ps) as.length))) [] := by
  rw [evD_eq, show sg 13 = ⟨2, false, [false, true]⟩ from rfl]
  have e0 : ir__law_fewest = (.cons (.for (.v 2) (.rng1 (.p2 .add (.p1 .len (.var 0)) (.lit (.int 1)))) (.cons (.for (.v 3) (.it1 (.call 11 (.cons (.p1 .len (.var 0)) (.cons (.var 2) .nil)))) fewB1) .nil)) (.cons (.ret (.lit .non)) .nil)) := rfl
  rw [e0]
  have el : ((as.map askT).length : Int) + 1 = ((as.length + 1 : Nat) : Int) := by rw [List.length_map]; rfl
  have b1 : inBig ((as.length + 1 : Nat) : Int) = true := by unfold inBig; exact decide_eq_true (by omega)
  simp only [sl_io, sl_f, sl_tl, sl_nil, List.length_cons, List.length_nil, List.replicate, List.cons_append, List.nil_append]
  obtain ⟨z2, z3, e⟩ := few_out Φ h12 h11 as hA M w ps hp (List.range (as.length + 1)) .no .no (fun s hs => by have := List.mem_range.mp hs; omega) rfl rfl
  rw [← rangeI_nl0] at e
  simp only [asksT] at e
  simp only [List.getElem?_cons_zero, List.getElem?_cons_succ, List.set_cons_zero, List.set_cons_succ, List.getD_cons_zero, List.getD_cons_succ, ob_some, om_some, b_ok, b_ex, st_ok, st_ex, sq_nx, sq_rt, sq_bk, sq_ct, sq_ex, tu_nx, tu_rt, tu_bk, tu_ct, tu_ex, varR_fz, varR_ol, varR_bl, varR_io, v_var, v_lit, v_tup, v_lst, tupK_0, tupK_1, tupK_2, tupK_3, lstK_0, lstK_1, lstK_2, lstK_3, v_p1, p1K_eq, v_p2, p2K_eq, v_and, v_or, v_not, v_ite, v_call, v_mth, mth0_some, mthK_eq, mthO_some, own_eq, ownO_ol, ownO_io, mkOwn_t, mkOwn_f, v_sl, compK_eq, compT_some, v_comp, compC_none, wipe_nil, wipe_cons, rest_nil, rest_cons, fin_ok, con_fz, con_ol, con_plc, slCon_some, scon_fz, scon_ol, scon_bl, scon_io, set_fz, set_plc, set_ol, lift_some, bool_bl, opt_int, opt_non, toV_fz, toV_ol, toV_plc, toVO_ol, V_nil, V_cons, A_nil, A_cons, I_it1, itK_tup, itK_lst, itK_ol, itK_plc, itS_ol, itS_bl, I_rng1, I_rng2, I_rng3, S_nil, S_cons, S_expr, nxK_eq, S_asg, S_asgT, asgO_some, S_aug, augO_int, augK_add, S_setix, setK_eq, setO_some, setAt_eq, setA_0, S_ite, S_for, forO_some, lock_none, lock_ol, lock_bl, S_ret, S_ret0, S_brk, S_cont, S_pass, S_raise, raiK_some, setS_eq, setSO_no, setSO_fz, setSO_ol, setSO_bl, asgR_fz, asgR_ol, asgR_plc, asgP_ol, asgP_bl, retR_fz, retR_ol, retR_plc, retP_ol, asg_v, asg1_eq, asg1O_no, asg1O_fz, asg1O_ol, asg_tp, ag_nil, ag_cons, arg_nil, arg_fz, arg_plc, argT_ol, argT_bl, argT_olf, calR_ok, calR_ex, calI_t, calI_f, calO_some, io_plc, ioO_ol, ioO_io, forC_some, endF_rt, endF_nx, endF_ex, io_f, io_t, sl_io, sl_f, sl_tl, sl_nil, o_len_t, o_len_l, o_tuple_t, o_tuple_l, o_list_t, o_list_l, o_int, o_neg, o_sum, o_any, o_all, o_max, o_isN, o_notN, o_add, o_sub, o_band, o_bor, o_lt, o_le, o_gt, o_ge, o_eq, o_ne, o_ixT, o_ixL, at_0, at_1, m_pop, m_pop0, asksT, el, rg1_ok b1, Int.toNat_natCast, e]
  unfold fw
  cases (List.range (as.length + 1)).findSome? (fun s => (rowsL as.length s).find? (pa as ps)) with
  | none => simp only [List.getElem?_cons_zero, List.getElem?_cons_succ, List.set_cons_zero, List.set_cons_succ, List.getD_cons_zero, List.getD_cons_succ, ob_some, om_some, b_ok, b_ex, st_ok, st_ex, sq_nx, sq_rt, sq_bk, sq_ct, sq_ex, tu_nx, tu_rt, tu_bk, tu_ct, tu_ex, varR_fz, varR_ol, varR_bl, varR_io, v_var, v_lit, v_tup, v_lst, tupK_0, tupK_1, tupK_2, tupK_3, lstK_0, lstK_1, lstK_2, lstK_3, v_p1, p1K_eq, v_p2, p2K_eq, v_and, v_or, v_not, v_ite, v_call, v_mth, mth0_some, mthK_eq, mthO_some, own_eq, ownO_ol, ownO_io, mkOwn_t, mkOwn_f, v_sl, compK_eq, compT_some, v_comp, compC_none, wipe_nil, wipe_cons, rest_nil, rest_cons, fin_ok, con_fz, con_ol, con_plc, slCon_some, scon_fz, scon_ol, scon_bl, scon_io, set_fz, set_plc, set_ol, lift_some, bool_bl, opt_int, opt_non, toV_fz, toV_ol, toV_plc, toVO_ol, V_nil, V_cons, A_nil, A_cons, I_it1, itK_tup, itK_lst, itK_ol, itK_plc, itS_ol, itS_bl, I_rng1, I_rng2, I_rng3, S_nil, S_cons, S_expr, nxK_eq, S_asg, S_asgT, asgO_some, S_aug, augO_int, augK_add, S_setix, setK_eq, setO_some, setAt_eq, setA_0, S_ite, S_for, forO_some, lock_none, lock_ol, lock_bl, S_ret, S_ret0, S_brk, S_cont, S_pass, S_raise, raiK_some, setS_eq, setSO_no, setSO_fz, setSO_ol, setSO_bl, asgR_fz, asgR_ol, asgR_plc, asgP_ol, asgP_bl, retR_fz, retR_ol, retR_plc, retP_ol, asg_v, asg1_eq, asg1O_no, asg1O_fz, asg1O_ol, asg_tp, ag_nil, ag_cons, arg_nil, arg_fz, arg_plc, argT_ol, argT_bl, argT_olf, calR_ok, calR_ex, calI_t, calI_f, calO_some, io_plc, ioO_ol, ioO_io, forC_some, endF_rt, endF_nx, endF_ex, io_f, io_t, sl_io, sl_f, sl_tl, sl_nil, o_len_t, o_len_l, o_tuple_t, o_tuple_l, o_list_t, o_list_l, o_int, o_neg, o_sum, o_any, o_all, o_max, o_isN, o_notN, o_add, o_sub, o_band, o_bor, o_lt, o_le, o_gt, o_ge, o_eq, o_ne, o_ixT, o_ixL, at_0, at_1, m_pop, m_pop0]; rfl
  | some q => simp only [List.getElem?_cons_zero, List.getElem?_cons_succ, List.set_cons_zero, List.set_cons_succ, List.getD_cons_zero, List.getD_cons_succ, ob_some, om_some, b_ok, b_ex, st_ok, st_ex, sq_nx, sq_rt, sq_bk, sq_ct, sq_ex, tu_nx, tu_rt, tu_bk, tu_ct, tu_ex, varR_fz, varR_ol, varR_bl, varR_io, v_var, v_lit, v_tup, v_lst, tupK_0, tupK_1, tupK_2, tupK_3, lstK_0, lstK_1, lstK_2, lstK_3, v_p1, p1K_eq, v_p2, p2K_eq, v_and, v_or, v_not, v_ite, v_call, v_mth, mth0_some, mthK_eq, mthO_some, own_eq, ownO_ol, ownO_io, mkOwn_t, mkOwn_f, v_sl, compK_eq, compT_some, v_comp, compC_none, wipe_nil, wipe_cons, rest_nil, rest_cons, fin_ok, con_fz, con_ol, con_plc, slCon_some, scon_fz, scon_ol, scon_bl, scon_io, set_fz, set_plc, set_ol, lift_some, bool_bl, opt_int, opt_non, toV_fz, toV_ol, toV_plc, toVO_ol, V_nil, V_cons, A_nil, A_cons, I_it1, itK_tup, itK_lst, itK_ol, itK_plc, itS_ol, itS_bl, I_rng1, I_rng2, I_rng3, S_nil, S_cons, S_expr, nxK_eq, S_asg, S_asgT, asgO_some, S_aug, augO_int, augK_add, S_setix, setK_eq, setO_some, setAt_eq, setA_0, S_ite, S_for, forO_some, lock_none, lock_ol, lock_bl, S_ret, S_ret0, S_brk, S_cont, S_pass, S_raise, raiK_some, setS_eq, setSO_no, setSO_fz, setSO_ol, setSO_bl, asgR_fz, asgR_ol, asgR_plc, asgP_ol, asgP_bl, retR_fz, retR_ol, retR_plc, retP_ol, asg_v, asg1_eq, asg1O_no, asg1O_fz, asg1O_ol, asg_tp, ag_nil, ag_cons, arg_nil, arg_fz, arg_plc, argT_ol, argT_bl, argT_olf, calR_ok, calR_ex, calI_t, calI_f, calO_some, io_plc, ioO_ol, ioO_io, forC_some, endF_rt, endF_nx, endF_ex, io_f, io_t, sl_io, sl_f, sl_tl, sl_nil, o_len_t, o_len_l, o_tuple_t, o_tuple_l, o_list_t, o_list_l, o_int, o_neg, o_sum, o_any, o_all, o_max, o_isN, o_notN, o_add, o_sub, o_band, o_bor, o_lt, o_le, o_gt, o_ge, o_eq, o_ne, o_ixT, o_ixL, at_0, at_1, m_pop, m_pop0]; rfl
end
end K73

set_option Elab.async false
set_option linter.all false
set_option autoImplicit false
set_option maxRecDepth 100000
set_option maxHeartbeats 1000000
namespace K73
open PySem Ev
/-! ### the mathematics: first covers -/
def combos : List Nat → Nat → List (List Nat)
  | _, 0 => [[]]
  | [], _ + 1 => []
  | x :: xs, s + 1 => (combos xs s).map (x :: ·) ++ combos xs (s + 1)
def lx : List Nat → List Nat → Prop
  | x :: a, y :: b => x < y ∨ (x = y ∧ lx a b)
  | _, _ => False
abbrev SI (c : List Nat) : Prop := c.Pairwise (· < ·)
theorem lx_asymm : ∀ {a b : List Nat}, lx a b → lx b a → False
  | [], _, h, _ => h
  | _ :: _, [], h, _ => h
  | x :: a, y :: b, h, g => by
    rcases h with h | ⟨rfl, h⟩
    · rcases g with g | ⟨rfl, g⟩
      · omega
      · omega
    · rcases g with g | ⟨_, g⟩
      · omega
      · exact lx_asymm h g
theorem lx_cons {x : Nat} {a b : List Nat} (h : lx a b) : lx (x :: a) (x :: b) := .inr ⟨rfl, h⟩
theorem lx_app : ∀ {a b : List Nat} {u v : List Nat}, a.length = b.length → lx a b → lx (a ++ u) (b ++ v)
  | [], _, _, _, _, h => h.elim
  | _ :: _, [], _, _, _, h => h.elim
  | x :: a, y :: b, u, v, e, h => by
    rcases h with h | ⟨rfl, h⟩
    · exact .inl h
    · exact .inr ⟨rfl, lx_app (by simpa using e) h⟩
theorem lx_snoc {x y : Nat} (h : x < y) : ∀ (a : List Nat), lx (a ++ [x]) (a ++ [y])
  | [] => .inl h
  | z :: a => .inr ⟨rfl, lx_snoc h a⟩
theorem mem_combos : ∀ {L : List Nat} {s : Nat} {c : List Nat}, c ∈ combos L s ↔ c.Sublist L ∧ c.length = s
  | L, 0, c => by
    have e : combos L 0 = [[]] := by cases L <;> rfl
    rw [e]
    simp only [List.mem_singleton]
    constructor
    · rintro rfl; simp
    · rintro ⟨_, h⟩; exact List.length_eq_zero_iff.mp h
  | [], s + 1, c => by
    simp [combos]
    rintro rfl
    simp
  | x :: xs, s + 1, c => by
    simp only [combos, List.mem_append, List.mem_map]
    constructor
    · rintro (⟨d, hd, rfl⟩ | h)
      · obtain ⟨h1, h2⟩ := mem_combos.mp hd
        exact ⟨h1.cons_cons x, by simp [h2]⟩
      · obtain ⟨h1, h2⟩ := mem_combos.mp h
        exact ⟨h1.cons x, h2⟩
    · rintro ⟨h1, h2⟩
      cases h1 with
      | cons _ h => exact .inr (mem_combos.mpr ⟨h, h2⟩)
      | cons_cons _ h => exact .inl ⟨_, mem_combos.mpr ⟨h, by simpa using h2⟩, rfl⟩
theorem combos_pw : ∀ {L : List Nat} (s : Nat), SI L → (combos L s).Pairwise lx
  | L, 0, _ => by cases L <;> simp [combos]
  | [], s + 1, _ => by simp [combos]
  | x :: xs, s + 1, h => by
    obtain ⟨h1, h2⟩ := List.pairwise_cons.mp h
    simp only [combos]
    rw [List.pairwise_append]
    refine ⟨?_, combos_pw (s + 1) h2, ?_⟩
    · rw [List.pairwise_map]
      exact (combos_pw s h2).imp fun {a b} q => lx_cons q
    · intro a ha b hb
      obtain ⟨d, _, rfl⟩ := List.mem_map.mp ha
      obtain ⟨q1, q2⟩ := mem_combos.mp hb
      cases b with
      | nil => simp at q2
      | cons y b => exact .inl (h1 y (q1.subset (List.mem_cons_self ..)))
theorem si_snoc {r : List Nat} {k : Nat} : SI (r ++ [k]) ↔ SI r ∧ ∀ x ∈ r, x < k := by
  rw [SI, List.pairwise_append]
  simp
theorem lowOf_snoc (r : List Nat) (k : Nat) : lowOf (r ++ [k]) = k + 1 := by
  unfold lowOf
  simp
theorem si_low {r : List Nat} {k : Nat} (h : SI r) : (∀ x ∈ r, x < k) ↔ lowOf r ≤ k := by
  cases hr : r.reverse with
  | nil =>
    have : r = [] := by simpa using hr
    subst this
    simp [lowOf]
  | cons y t =>
    have e : r = t.reverse ++ [y] := by
      have := congrArg List.reverse hr
      simpa using this
    subst e
    rw [lowOf_snoc]
    obtain ⟨_, h2⟩ := si_snoc.mp h
    constructor
    · intro q; have := q y (by simp); omega
    · intro q x hx
      rcases List.mem_append.mp hx with hx | hx
      · have := h2 x hx; omega
      · simp at hx; omega
theorem rowsL_iff {A : Nat} : ∀ {t : Nat} {c : List Nat}, c ∈ rowsL A t ↔ SI c ∧ (∀ x ∈ c, x < A) ∧ c.length = t
  | 0, c => by
    simp [rowsL]
    constructor
    · rintro rfl; simp
    · intro h; exact h.2.2
  | t + 1, c => by
    simp only [rowsL, List.mem_flatMap, List.mem_map]
    constructor
    · rintro ⟨r, hr, k, hk, rfl⟩
      obtain ⟨h1, h2, h3⟩ := rowsL_iff.mp hr
      have hk := List.mem_range'_1.mp hk
      refine ⟨si_snoc.mpr ⟨h1, (si_low h1).mpr hk.1⟩, fun x hx => ?_, by simp [h3]⟩
      rcases List.mem_append.mp hx with hx | hx
      · exact h2 x hx
      · simp at hx; omega
    · rintro ⟨h1, h2, h3⟩
      have hne : c ≠ [] := by intro z; subst z; simp at h3
      have e : c = c.dropLast ++ [c.getLast hne] := (List.dropLast_concat_getLast hne).symm
      generalize c.dropLast = r at e
      generalize c.getLast hne = k at e
      subst e
      obtain ⟨q1, q2⟩ := si_snoc.mp h1
      refine ⟨r, rowsL_iff.mpr ⟨q1, fun x hx => h2 x (by simp [hx]), by simpa using h3⟩, k, List.mem_range'_1.mpr ⟨(si_low q1).mp q2, ?_⟩, rfl⟩
      have := h2 k (by simp)
      have := (si_low q1).mp q2
      omega
theorem rowsL_pw (A : Nat) : ∀ t, (rowsL A t).Pairwise lx
  | 0 => by simp [rowsL]
  | t + 1 => by
    show ((rowsL A t).flatMap _).Pairwise lx
    have ih := rowsL_pw A t
    have hl : ∀ r ∈ rowsL A t, r.length = t := fun r hr => rowsL_mem hr
    generalize rowsL A t = l at ih hl
    induction l with
    | nil => simp
    | cons r l ihl =>
      obtain ⟨i1, i2⟩ := List.pairwise_cons.mp ih
      rw [List.flatMap_cons, List.pairwise_append]
      refine ⟨?_, ihl i2 (fun q hq => hl q (List.mem_cons_of_mem _ hq)), ?_⟩
      · rw [List.pairwise_map]
        exact (List.pairwise_lt_range' (s := lowOf r) (n := A - lowOf r)).imp fun {a b} q => lx_snoc q r
      · intro a ha b hb
        obtain ⟨k, _, rfl⟩ := List.mem_map.mp ha
        obtain ⟨r2, hr2, hb⟩ := List.mem_flatMap.mp hb
        obtain ⟨k2, _, rfl⟩ := List.mem_map.mp hb
        exact lx_app ((hl r (List.mem_cons_self ..)).trans (hl r2 (List.mem_cons_of_mem _ hr2)).symm) (i1 r2 hr2)
/-- the first in the order -/
structure IsF (p : List Nat → Bool) (M : List Nat → Prop) (c : List Nat) : Prop where
  mem : M c
  yes : p c = true
  min : ∀ d, M d → p d = true → c.length < d.length ∨ (c.length = d.length ∧ (d = c ∨ lx c d))
theorem IsF.uniq {p : List Nat → Bool} {M : List Nat → Prop} {c d : List Nat} (a : IsF p M c) (b : IsF p M d) : c = d := by
  rcases a.min d b.mem b.yes with h | ⟨e, h⟩
  · rcases b.min c a.mem a.yes with g | ⟨e, _⟩ <;> omega
  · rcases h with h | h
    · exact h.symm
    · rcases b.min c a.mem a.yes with g | ⟨_, g⟩
      · omega
      · rcases g with g | g
        · exact g
        · exact (lx_asymm h g).elim
theorem find_pw {p : List Nat → Bool} : ∀ {l : List (List Nat)} {c : List Nat}, l.Pairwise lx → l.find? p = some c → c ∈ l ∧ p c = true ∧ ∀ d ∈ l, p d = true → d = c ∨ lx c d
  | [], c, _, h => by simp at h
  | x :: r, c, hw, h => by
    obtain ⟨h1, h2⟩ := List.pairwise_cons.mp hw
    rw [List.find?_cons] at h
    cases hp : p x with
    | true =>
      simp only [hp, Option.some.injEq] at h
      subst h
      refine ⟨List.mem_cons_self .., hp, fun d hd _ => ?_⟩
      rcases List.mem_cons.mp hd with rfl | hd
      · exact .inl rfl
      · exact .inr (h1 d hd)
    | false =>
      simp only [hp] at h
      obtain ⟨q1, q2, q3⟩ := find_pw h2 h
      refine ⟨List.mem_cons_of_mem _ q1, q2, fun d hd pd => ?_⟩
      rcases List.mem_cons.mp hd with rfl | hd
      · rw [hp] at pd; cases pd
      · exact q3 d hd pd
structure Enum (E : Nat → List (List Nat)) (M : List Nat → Prop) (N : Nat) : Prop where
  mem : ∀ s c, c ∈ E s ↔ M c ∧ c.length = s
  pw : ∀ s, (E s).Pairwise lx
  top : ∀ c, M c → c.length ≤ N
def hit (p : List Nat → Bool) (E : Nat → List (List Nat)) (N : Nat) : Option (List Nat) := (List.range (N + 1)).findSome? fun s => (E s).find? p
theorem hit_some {p : List Nat → Bool} {E : Nat → List (List Nat)} {M : List Nat → Prop} {N : Nat} (e : Enum E M N) {c : List Nat} (h : hit p E N = some c) : IsF p M c := by
  unfold hit at h
  obtain ⟨l1, s, l2, e1, e2, e3⟩ := List.findSome?_eq_some_iff.mp h
  obtain ⟨q1, q2, q3⟩ := find_pw (e.pw s) e2
  obtain ⟨m1, m2⟩ := (e.mem s c).mp q1
  refine ⟨m1, q2, fun d hd pd => ?_⟩
  by_cases hlt : c.length < d.length
  · exact .inl hlt
  · refine .inr ?_
    by_cases heq : c.length = d.length
    · exact ⟨heq, q3 d ((e.mem s d).mpr ⟨hd, by omega⟩) pd⟩
    · exfalso
      have ht : d.length ∈ List.range (N + 1) := List.mem_range.mpr (by have := e.top d hd; omega)
      rw [e1] at ht
      have hpw : (List.range (N + 1)).Pairwise (· < ·) := List.pairwise_lt_range
      rw [e1] at hpw
      have hd2 : d ∈ E d.length := (e.mem _ d).mpr ⟨hd, rfl⟩
      rcases List.mem_append.mp ht with ht | ht
      · have := e3 _ ht
        rw [List.find?_eq_none] at this
        exact this d hd2 pd
      · rcases List.mem_cons.mp ht with ht | ht
        · omega
        · have := (List.pairwise_cons.mp (List.pairwise_append.mp hpw).2.1).1 _ ht
          omega
theorem hit_none {p : List Nat → Bool} {E : Nat → List (List Nat)} {M : List Nat → Prop} {N : Nat} (e : Enum E M N) (h : hit p E N = none) (d : List Nat) (hd : M d) : p d = false := by
  unfold hit at h
  rw [List.findSome?_eq_none_iff] at h
  have := h d.length (List.mem_range.mpr (by have := e.top d hd; omega))
  rw [List.find?_eq_none] at this
  simpa using this d ((e.mem _ d).mpr ⟨hd, rfl⟩)
def M1 (A : Nat) (c : List Nat) : Prop := SI c ∧ ∀ x ∈ c, x < A
theorem sub_of : ∀ {L c : List Nat}, SI c → SI L → (∀ x ∈ c, x ∈ L) → c.Sublist L
  | [], c, _, _, h => by
    cases c with
    | nil => exact .slnil
    | cons y c => exact absurd (h y (List.mem_cons_self ..)) (by simp)
  | x :: L, [], _, _, _ => List.nil_sublist _
  | x :: L, y :: c, hc, hL, h => by
    obtain ⟨c1, c2⟩ := List.pairwise_cons.mp hc
    obtain ⟨l1, l2⟩ := List.pairwise_cons.mp hL
    rcases List.mem_cons.mp (h y (List.mem_cons_self ..)) with e | hy
    · subst e
      refine (sub_of c2 l2 fun z hz => ?_).cons_cons y
      rcases List.mem_cons.mp (h z (List.mem_cons_of_mem _ hz)) with e | q
      · have := c1 z hz; omega
      · exact q
    · have hxy := l1 y hy
      refine (sub_of hc l2 fun z hz => ?_).cons x
      rcases List.mem_cons.mp (h z hz) with e | q
      · subst e
        rcases List.mem_cons.mp hz with e2 | q2
        · omega
        · have := c1 _ q2; omega
      · exact q
theorem enum_rows (A : Nat) : Enum (rowsL A) (M1 A) A where
  mem := fun s c => by rw [rowsL_iff]; unfold M1; constructor <;> (intro h; simp_all)
  pw := rowsL_pw A
  top := fun c ⟨h1, h2⟩ => by
    have := (sub_of h1 (List.pairwise_lt_range (n := A)) fun x hx => List.mem_range.mpr (h2 x hx)).length_le
    simpa using this
def M2 (kept : List Nat) (c : List Nat) : Prop := SI c ∧ ∀ x ∈ c, x ∈ kept
theorem enum_combos {kept : List Nat} (hk : SI kept) : Enum (combos kept) (M2 kept) kept.length where
  mem := fun s c => by
    rw [mem_combos]
    constructor
    · rintro ⟨h1, h2⟩
      exact ⟨⟨hk.sublist h1, fun x hx => h1.subset hx⟩, h2⟩
    · rintro ⟨⟨h1, h2⟩, h3⟩
      exact ⟨sub_of h1 hk h2, h3⟩
  pw := fun s => combos_pw s hk
  top := fun c ⟨h1, h2⟩ => (sub_of h1 hk h2).length_le
end K73

set_option Elab.async false
set_option linter.all false
set_option autoImplicit false
set_option maxRecDepth 100000
set_option maxHeartbeats 1000000
namespace K73
open PySem Ev
/-! ### covers, the exchange -/
def lot (lots : List Nat) (k : Nat) : Nat := lots.getD k 0
def cv (lots : List Nat) (ks : List Nat) : Nat := ks.foldl (fun c k => c ||| lot lots k) 0
def cvp (lots : List Nat) (full : Nat) (ks : List Nat) : Bool := decide (cv lots ks = full)
theorem cv_fold (lots : List Nat) (i : Nat) : ∀ (ks : List Nat) (c : Nat), (ks.foldl (fun c k => c ||| lot lots k) c).testBit i = (c.testBit i || ks.any fun k => (lot lots k).testBit i)
  | [], c => by simp
  | k :: r, c => by
    rw [List.foldl_cons, cv_fold lots i r, Nat.testBit_or, List.any_cons, Bool.or_assoc]
theorem cv_bit (lots : List Nat) (ks : List Nat) (i : Nat) : (cv lots ks).testBit i = ks.any fun k => (lot lots k).testBit i := by
  unfold cv
  rw [cv_fold]
  simp
theorem cvp_iff {lots : List Nat} {full : Nat} {ks : List Nat} (hs : ∀ k ∈ ks, ∀ i, (lot lots k).testBit i = true → full.testBit i = true) : cvp lots full ks = true ↔ ∀ i, full.testBit i = true → ∃ k ∈ ks, (lot lots k).testBit i = true := by
  unfold cvp
  rw [decide_eq_true_iff]
  constructor
  · intro h i hi
    rw [← h, cv_bit, List.any_eq_true] at hi
    exact hi
  · intro h
    refine Nat.eq_of_testBit_eq fun i => ?_
    rw [cv_bit, Bool.eq_iff_iff, List.any_eq_true]
    constructor
    · rintro ⟨k, hk, hb⟩
      exact hs k hk i hb
    · exact h i
def ins (k : Nat) : List Nat → List Nat
  | [] => [k]
  | x :: r => if k < x then k :: x :: r else x :: ins k r
theorem mem_ins {k y : Nat} : ∀ {l : List Nat}, y ∈ ins k l ↔ y = k ∨ y ∈ l
  | [] => by simp [ins]
  | x :: r => by
    unfold ins
    split
    · simp
    · rw [List.mem_cons, mem_ins, List.mem_cons]
      constructor
      · rintro (h | h | h)
        · exact .inr (.inl h)
        · exact .inl h
        · exact .inr (.inr h)
      · rintro (h | h | h)
        · exact .inr (.inl h)
        · exact .inl h
        · exact .inr (.inr h)
theorem ins_len (k : Nat) : ∀ l : List Nat, (ins k l).length = l.length + 1
  | [] => rfl
  | x :: r => by
    unfold ins
    split
    · rfl
    · rw [List.length_cons, ins_len k r, List.length_cons]
theorem ins_si {k : Nat} : ∀ {l : List Nat}, SI l → k ∉ l → SI (ins k l)
  | [], _, _ => by simp [ins]
  | x :: r, h, n => by
    obtain ⟨h1, h2⟩ := List.pairwise_cons.mp h
    unfold ins
    split
    · rename_i hkx
      rw [SI, List.pairwise_cons]
      refine ⟨fun y hy => ?_, h⟩
      rcases List.mem_cons.mp hy with e | hy
      · omega
      · have := h1 y hy; omega
    · rename_i hkx
      have hne : k ≠ x := fun e => n (by rw [e]; exact List.mem_cons_self ..)
      rw [SI, List.pairwise_cons]
      refine ⟨fun y hy => ?_, ins_si h2 fun z => n (List.mem_cons_of_mem _ z)⟩
      rcases mem_ins.mp hy with e | hy
      · omega
      · exact h1 y hy
theorem erase_len {n : Nat} {c : List Nat} (h : n ∈ c) : (c.erase n).length + 1 = c.length := by
  have := List.length_erase_of_mem h
  have := List.length_pos_of_mem h
  omega
theorem ins_lx {k n : Nat} (hkn : k < n) : ∀ {c : List Nat}, SI c → n ∈ c → k ∉ c → lx (ins k (c.erase n)) c
  | [], _, h, _ => by simp at h
  | x :: r, hs, h, nk => by
    obtain ⟨h1, h2⟩ := List.pairwise_cons.mp hs
    have nx : k ≠ x := fun e => nk (by rw [e]; exact List.mem_cons_self ..)
    by_cases hk : k < x
    · by_cases hx : x = n
      · subst hx
        rw [List.erase_cons_head]
        cases r with
        | nil => exact .inl hk
        | cons y r =>
          have := h1 y (List.mem_cons_self ..)
          unfold ins
          rw [if_pos (by omega)]
          exact .inl hk
      · rw [List.erase_cons_tail (by simpa using hx)]
        unfold ins
        rw [if_pos hk]
        exact .inl hk
    · have hx : x ≠ n := by omega
      rw [List.erase_cons_tail (by simpa using hx)]
      unfold ins
      rw [if_neg hk]
      refine .inr ⟨rfl, ins_lx hkn h2 ?_ fun z => nk (List.mem_cons_of_mem _ z)⟩
      rcases List.mem_cons.mp h with e | h
      · exact absurd e.symm hx
      · exact h
/-- what is kept: nobody kept ahead holds all of it -/
structure Kept (lots : List Nat) (A : Nat) (kept : List Nat) : Prop where
  si : SI kept
  lt : ∀ k ∈ kept, k < A
  dom : ∀ n, n < A → n ∉ kept → ∃ k ∈ kept, k < n ∧ ∀ i, (lot lots n).testBit i = true → (lot lots k).testBit i = true
theorem exchange {lots : List Nat} {A full : Nat} {kept : List Nat} (K : Kept lots A kept) (sub : ∀ k, k < A → ∀ i, (lot lots k).testBit i = true → full.testBit i = true) {c : List Nat} (h : IsF (cvp lots full) (M1 A) c) : ∀ n ∈ c, n ∈ kept := by
  intro n hn
  refine Classical.byContradiction fun nk => ?_
  obtain ⟨hs, hA⟩ := h.mem
  obtain ⟨k, hk, hkn, hd⟩ := K.dom n (hA n hn) nk
  have cyes := (cvp_iff fun k hk => sub k (hA k hk)).mp h.yes
  have nd : c.Nodup := hs.imp fun {a b} q => Nat.ne_of_lt q
  have er : ∀ x, x ∈ c.erase n ↔ x ≠ n ∧ x ∈ c := fun x => nd.mem_erase_iff
  by_cases hkc : k ∈ c
  · have m : M1 A (c.erase n) := ⟨hs.sublist (List.erase_sublist ..), fun x hx => hA x ((er x).mp hx).2⟩
    have y : cvp lots full (c.erase n) = true := (cvp_iff fun q hq => sub q (hA q ((er q).mp hq).2)).mpr fun i hi => by
      obtain ⟨q, hq, hb⟩ := cyes i hi
      by_cases e : q = n
      · subst e
        exact ⟨k, (er k).mpr ⟨by omega, hkc⟩, hd i hb⟩
      · exact ⟨q, (er q).mpr ⟨e, hq⟩, hb⟩
    have := erase_len hn
    rcases h.min _ m y with q | ⟨q, _⟩ <;> omega
  · have nke : k ∉ c.erase n := fun z => hkc ((er k).mp z).2
    have m : M1 A (ins k (c.erase n)) := ⟨ins_si (hs.sublist (List.erase_sublist ..)) nke, fun x hx => by
      rcases mem_ins.mp hx with e | hx
      · rw [e]; exact K.lt k hk
      · exact hA x ((er x).mp hx).2⟩
    have y : cvp lots full (ins k (c.erase n)) = true := (cvp_iff fun q hq => by
      rcases mem_ins.mp hq with e | hq
      · rw [e]; exact sub k (K.lt k hk)
      · exact sub q (hA q ((er q).mp hq).2)).mpr fun i hi => by
      obtain ⟨q, hq, hb⟩ := cyes i hi
      by_cases e : q = n
      · subst e
        exact ⟨k, mem_ins.mpr (.inl rfl), hd i hb⟩
      · exact ⟨q, mem_ins.mpr (.inr ((er q).mpr ⟨e, hq⟩)), hb⟩
    have hl := erase_len hn
    have hl2 := ins_len k (c.erase n)
    rcases h.min _ m y with q | ⟨_, q⟩
    · omega
    · rcases q with q | q
      · exact hkc (by rw [← q]; exact mem_ins.mpr (.inl rfl))
      · exact lx_asymm q (ins_lx hkn hs hn hkc)
/-- THE LAW's search and the program's -/
theorem same_first {lots : List Nat} {A full : Nat} {kept : List Nat} (K : Kept lots A kept) (sub : ∀ k, k < A → ∀ i, (lot lots k).testBit i = true → full.testBit i = true) : hit (cvp lots full) (combos kept) kept.length = fw (cvp lots full) A := by
  have e1 := enum_rows A
  have e2 := enum_combos K.si
  have m21 : ∀ d, M2 kept d → M1 A d := fun d ⟨h1, h2⟩ => ⟨h1, fun x hx => K.lt x (h2 x hx)⟩
  show hit (cvp lots full) (combos kept) kept.length = hit (cvp lots full) (rowsL A) A
  cases h1 : hit (cvp lots full) (rowsL A) A with
  | none =>
    cases h2 : hit (cvp lots full) (combos kept) kept.length with
    | none => rfl
    | some d =>
      have f := hit_some e2 h2
      have := hit_none e1 h1 d (m21 d f.mem)
      rw [f.yes] at this
      cases this
  | some c =>
    have f := hit_some e1 h1
    have f2 : IsF (cvp lots full) (M2 kept) c := ⟨⟨f.mem.1, exchange K sub f⟩, f.yes, fun d hd pd => f.min d (m21 d hd) pd⟩
    cases h2 : hit (cvp lots full) (combos kept) kept.length with
    | none =>
      have := hit_none e2 h2 c f2.mem
      rw [f.yes] at this
      cases this
    | some d => rw [(hit_some e2 h2).uniq f2]
theorem no_cover {lots : List Nat} {A full : Nat} (sub : ∀ k, k < A → ∀ i, (lot lots k).testBit i = true → full.testBit i = true) (h : cv lots (List.range A) ≠ full) : fw (cvp lots full) A = none := by
  cases h1 : fw (cvp lots full) A with
  | none => rfl
  | some c =>
    have f := hit_some (enum_rows A) h1
    have hc := (cvp_iff fun k hk => sub k (f.mem.2 k hk)).mp f.yes
    have : cvp lots full (List.range A) = true := (cvp_iff fun k hk => sub k (List.mem_range.mp hk)).mpr fun i hi => by
      obtain ⟨k, hk, hb⟩ := hc i hi
      exact ⟨k, List.mem_range.mpr (f.mem.2 k hk), hb⟩
    exact absurd (of_decide_eq_true this) h
theorem fw_congr {p q : List Nat → Bool} {A : Nat} (h : ∀ ks, (∀ k ∈ ks, k < A) → p ks = q ks) : fw p A = fw q A := by
  unfold fw
  congr 1
  funext s
  have key : ∀ l : List (List Nat), (∀ r ∈ l, ∀ k ∈ r, k < A) → l.find? p = l.find? q := by
    intro l
    induction l with
    | nil => intro _; rfl
    | cons x r ih =>
      intro hl
      rw [List.find?_cons, List.find?_cons, h x (hl x (List.mem_cons_self ..)), ih fun z hz => hl z (List.mem_cons_of_mem _ hz)]
  exact key _ fun r hr => rowsL_lt hr
/-! ### what undominated keeps -/
def undStep (lots : List Nat) (kept : List Nat) (n : Nat) : List Nat := if kept.any (fun o => decide (lot lots n &&& lot lots o = lot lots n)) then kept else kept ++ [n]
def und (lots : List Nat) (m : Nat) : List Nat := (List.range m).foldl (undStep lots) []
theorem und_succ (lots : List Nat) (m : Nat) : und lots (m + 1) = undStep lots (und lots m) m := by
  unfold und
  rw [List.range_succ, List.foldl_append]
  rfl
theorem and_dom {a b : Nat} (h : a &&& b = a) (i : Nat) (hi : a.testBit i = true) : b.testBit i = true := by
  rw [← h, Nat.testBit_and, Bool.and_eq_true] at hi
  exact hi.2
theorem und_kept (lots : List Nat) : ∀ m, Kept lots m (und lots m)
  | 0 => ⟨by simp [und], by simp [und], by intro n h; omega⟩
  | m + 1 => by
    have ih := und_kept lots m
    rw [und_succ]
    unfold undStep
    split
    · rename_i h
      rw [List.any_eq_true] at h
      obtain ⟨o, ho, hd⟩ := h
      refine ⟨ih.si, fun k hk => by have := ih.lt k hk; omega, fun n hn nk => ?_⟩
      by_cases e : n = m
      · subst e
        exact ⟨o, ho, ih.lt o ho, and_dom (of_decide_eq_true hd)⟩
      · exact ih.dom n (by omega) nk
    · refine ⟨si_snoc.mpr ⟨ih.si, fun x hx => ih.lt x hx⟩, fun k hk => ?_, fun n hn nk => ?_⟩
      · rcases List.mem_append.mp hk with hk | hk
        · have := ih.lt k hk; omega
        · simp at hk; omega
      · have hne : n ≠ m := fun e => nk (by rw [e]; simp)
        obtain ⟨k, h1, h2, h3⟩ := ih.dom n (by omega) fun z => nk (by simp [z])
        exact ⟨k, by simp [h1], h2, h3⟩
end K73

set_option Elab.async false
set_option linter.all false
set_option autoImplicit false
set_option maxRecDepth 100000
set_option maxHeartbeats 1000000
namespace K73
open PySem Ev
theorem band_nat (a b : Nat) : Builtin.bitAnd (a : Int) (b : Int) = ((a &&& b : Nat) : Int) := by
  unfold Builtin.bitAnd
  have h1 : decide (0 ≤ (a : Int)) = true := decide_eq_true (by omega)
  have h2 : decide (0 ≤ (b : Int)) = true := decide_eq_true (by omega)
  rw [h1, h2]
  rfl
theorem bor_nat (a b : Nat) : Builtin.bitOr (a : Int) (b : Int) = ((a ||| b : Nat) : Int) := by
  unfold Builtin.bitOr Builtin.bitAnd Builtin.bitNot
  have h1 : decide (0 ≤ (-(a : Int) - 1)) = false := decide_eq_false (by omega)
  have h2 : decide (0 ≤ (-(b : Int) - 1)) = false := decide_eq_false (by omega)
  have h3 : ∀ n : Nat, (-(-(n : Int) - 1) - 1).toNat = n := fun n => by omega
  simp only [h1, h2, h3]
  omega
theorem at_lot {lots : List Nat} {k : Nat} (h : k < lots.length) : L2.atI (nl lots) (k : Int) = some (.int (lot lots k : Int)) := L2.atI_nat (j := k) (by
  unfold nl lot
  rw [List.getElem?_map, List.getElem?_eq_getElem h, List.getD_eq_getElem?_getD, List.getElem?_eq_getElem h]; rfl)
section
variable (Φ : Tab)
/-! ### undominated -/
theorem sl1 (kept : List T) (a b c : Sl) : slotIs [a, .ol kept, b, c] (some (1, .ol kept)) = true := decide_eq_true rfl
theorem dom_loop (lots : List Nat) (n : Nat) (hn : n < lots.length) (kept : List T) : ∀ (ks : List Nat) (acc : List Bool) (z : Sl), (∀ k ∈ ks, k < lots.length) → acc.length + ks.length < 10000 → z.isIo = false →
    ∃ z', compL (compK sg Φ (.p2 .eq (.p2 .band (.p2 .ix (.var 0) (.var 2)) (.p2 .ix (.var 0) (.var 3))) (.p2 .ix (.var 0) (.var 2))) (.v 3) (.lit (.bl true))) (some (1, .ol kept)) [3] (nl ks) (acc.map T.bl)
      [.bl (nl lots), .ol kept, .fz (.int (n : Int)), z] = .ok ((acc ++ ks.map fun o => decide (lot lots n &&& lot lots o = lot lots n)).map T.bl) [.bl (nl lots), .ol kept, .fz (.int (n : Int)), z']
  | [], acc, z, _, _, _ => ⟨z, by rw [show nl [] = [] from rfl, comp_nilC (sl1 _ _ _ _)]; simp⟩
  | k :: r, acc, z, hk, hl, hz => by
    have hk0 := hk k (List.mem_cons_self ..)
    obtain ⟨z', e⟩ := dom_loop lots n hn kept r (acc ++ [decide (lot lots n &&& lot lots k = lot lots n)]) (.fz (.int (k : Int))) (fun q hq => hk q (List.mem_cons_of_mem _ hq)) (by simp at hl ⊢; omega) rfl
    refine ⟨z', ?_⟩
    have b1 : (acc.map T.bl).length < sizeLine := by rw [List.length_map, sizeLine_eq]; simp at hl; omega
    have ed : decide (((lot lots n &&& lot lots k : Nat) : Int) = (lot lots n : Int)) = decide (lot lots n &&& lot lots k = lot lots n) := by
      rw [decide_eq_decide]; omega
    rw [show nl (k :: r) = .int (k : Int) :: nl r from rfl, comp_consC (sl1 _ _ _ _)]
    simp only [List.getElem?_cons_zero, List.getElem?_cons_succ, List.set_cons_zero, List.set_cons_succ, List.getD_cons_zero, List.getD_cons_succ, ob_some, om_some, b_ok, b_ex, st_ok, st_ex, sq_nx, sq_rt, sq_bk, sq_ct, sq_ex, tu_nx, tu_rt, tu_bk, tu_ct, tu_ex, varR_fz, varR_ol, varR_bl, varR_io, v_var, v_lit, v_tup, v_lst, tupK_0, tupK_1, tupK_2, tupK_3, lstK_0, lstK_1, lstK_2, lstK_3, v_p1, p1K_eq, v_p2, p2K_eq, v_and, v_or, v_not, v_ite, v_call, v_mth, mth0_some, mthK_eq, mthO_some, own_eq, ownO_ol, ownO_io, mkOwn_t, mkOwn_f, v_sl, compK_eq, compT_some, v_comp, compC_none, wipe_nil, wipe_cons, rest_nil, rest_cons, fin_ok, con_fz, con_ol, con_plc, slCon_some, scon_fz, scon_ol, scon_bl, scon_io, set_fz, set_plc, set_ol, lift_some, bool_bl, opt_int, opt_non, toV_fz, toV_ol, toV_plc, toVO_ol, V_nil, V_cons, A_nil, A_cons, I_it1, itK_tup, itK_lst, itK_ol, itK_plc, itS_ol, itS_bl, I_rng1, I_rng2, I_rng3, S_nil, S_cons, S_expr, nxK_eq, S_asg, S_asgT, asgO_some, S_aug, augO_int, augK_add, S_setix, setK_eq, setO_some, setAt_eq, setA_0, S_ite, S_for, forO_some, lock_none, lock_ol, lock_bl, S_ret, S_ret0, S_brk, S_cont, S_pass, S_raise, raiK_some, setS_eq, setSO_no, setSO_fz, setSO_ol, setSO_bl, asgR_fz, asgR_ol, asgR_plc, asgP_ol, asgP_bl, retR_fz, retR_ol, retR_plc, retP_ol, asg_v, asg1_eq, asg1O_no, asg1O_fz, asg1O_ol, asg_tp, ag_nil, ag_cons, arg_nil, arg_fz, arg_plc, argT_ol, argT_bl, argT_olf, calR_ok, calR_ex, calI_t, calI_f, calO_some, io_plc, ioO_ol, ioO_io, forC_some, endF_rt, endF_nx, endF_ex, io_f, io_t, sl_io, sl_f, sl_tl, sl_nil, o_len_t, o_len_l, o_tuple_t, o_tuple_l, o_list_t, o_list_l, o_int, o_neg, o_sum, o_any, o_all, o_max, o_isN, o_notN, o_add, o_sub, o_band, o_bor, o_lt, o_le, o_gt, o_ge, o_eq, o_ne, o_ixT, o_ixL, at_0, at_1, m_pop, m_pop0, at_lot hn, at_lot hk0, band_nat, decide_true, decide_false, Bool.false_eq_true, reduceIte, Bool.not_true, Bool.not_false, compC_some b1, ed]
    have e2 : acc.map T.bl ++ [.bl (decide (lot lots n &&& lot lots k = lot lots n))] = (acc ++ [decide (lot lots n &&& lot lots k = lot lots n)]).map T.bl := by simp
    rw [e2, e]
    simp
def undB : S := (.cons (.ite (.not (.p1 .any (.comp (.p2 .eq (.p2 .band (.p2 .ix (.var 0) (.var 2)) (.p2 .ix (.var 0) (.var 3))) (.p2 .ix (.var 0) (.var 2))) (.v 3) (.it1 (.var 1)) (.lit (.bl true)) [3]))) (.cons (.expr (.mth .append 1 (.cons (.var 2) .nil))) .nil) .nil) .nil)
theorem und_step (lots : List Nat) (n : Nat) (hn : n < lots.length) (kept : List Nat) (hk : ∀ k ∈ kept, k < lots.length) (hl : kept.length < 1000) :
    evS sg Φ mk FU undB [.bl (nl lots), .ol (nl kept), .fz (.int (n : Int)), .no] = .nx [.bl (nl lots), .ol (nl (undStep lots kept n)), .fz (.int (n : Int)), .no] := by
  unfold undB
  obtain ⟨z', e⟩ := dom_loop Φ lots n hn (nl kept) kept [] .no hk (by simp; omega) rfl
  simp only [S_cons, S_ite, v_not, v_p1, v_comp, I_it1, v_var, List.getElem?_cons_zero, List.getElem?_cons_succ, varR_ol, b_ok, itK_plc, itS_ol]
  rw [compE_eq (by rfl)]
  rw [show ([] : List Bool).map T.bl = [] from rfl] at e
  rw [e]
  have ea : (([] ++ kept.map fun o => decide (lot lots n &&& lot lots o = lot lots n)).any id) = kept.any (fun o => decide (lot lots n &&& lot lots o = lot lots n)) := by rw [List.nil_append, List.any_map]; rfl
  have b1 : (nl kept).length < sizeLine := by rw [nl_len, sizeLine_eq]; omega
  simp only [List.getElem?_cons_zero, List.getElem?_cons_succ, List.set_cons_zero, List.set_cons_succ, List.getD_cons_zero, List.getD_cons_succ, ob_some, om_some, b_ok, b_ex, st_ok, st_ex, sq_nx, sq_rt, sq_bk, sq_ct, sq_ex, tu_nx, tu_rt, tu_bk, tu_ct, tu_ex, varR_fz, varR_ol, varR_bl, varR_io, v_var, v_lit, v_tup, v_lst, tupK_0, tupK_1, tupK_2, tupK_3, lstK_0, lstK_1, lstK_2, lstK_3, v_p1, p1K_eq, v_p2, p2K_eq, v_and, v_or, v_not, v_ite, v_call, v_mth, mth0_some, mthK_eq, mthO_some, own_eq, ownO_ol, ownO_io, mkOwn_t, mkOwn_f, v_sl, compK_eq, compT_some, v_comp, compC_none, wipe_nil, wipe_cons, rest_nil, rest_cons, fin_ok, con_fz, con_ol, con_plc, slCon_some, scon_fz, scon_ol, scon_bl, scon_io, set_fz, set_plc, set_ol, lift_some, bool_bl, opt_int, opt_non, toV_fz, toV_ol, toV_plc, toVO_ol, V_nil, V_cons, A_nil, A_cons, I_it1, itK_tup, itK_lst, itK_ol, itK_plc, itS_ol, itS_bl, I_rng1, I_rng2, I_rng3, S_nil, S_cons, S_expr, nxK_eq, S_asg, S_asgT, asgO_some, S_aug, augO_int, augK_add, S_setix, setK_eq, setO_some, setAt_eq, setA_0, S_ite, S_for, forO_some, lock_none, lock_ol, lock_bl, S_ret, S_ret0, S_brk, S_cont, S_pass, S_raise, raiK_some, setS_eq, setSO_no, setSO_fz, setSO_ol, setSO_bl, asgR_fz, asgR_ol, asgR_plc, asgP_ol, asgP_bl, retR_fz, retR_ol, retR_plc, retP_ol, asg_v, asg1_eq, asg1O_no, asg1O_fz, asg1O_ol, asg_tp, ag_nil, ag_cons, arg_nil, arg_fz, arg_plc, argT_ol, argT_bl, argT_olf, calR_ok, calR_ex, calI_t, calI_f, calO_some, io_plc, ioO_ol, ioO_io, forC_some, endF_rt, endF_nx, endF_ex, io_f, io_t, sl_io, sl_f, sl_tl, sl_nil, o_len_t, o_len_l, o_tuple_t, o_tuple_l, o_list_t, o_list_l, o_int, o_neg, o_sum, o_any, o_all, o_max, o_isN, o_notN, o_add, o_sub, o_band, o_bor, o_lt, o_le, o_gt, o_ge, o_eq, o_ne, o_ixT, o_ixL, at_0, at_1, m_pop, m_pop0, ea]
  unfold undStep
  cases kept.any (fun o => decide (lot lots n &&& lot lots o = lot lots n)) with
  | true => simp only [List.getElem?_cons_zero, List.getElem?_cons_succ, List.set_cons_zero, List.set_cons_succ, List.getD_cons_zero, List.getD_cons_succ, ob_some, om_some, b_ok, b_ex, st_ok, st_ex, sq_nx, sq_rt, sq_bk, sq_ct, sq_ex, tu_nx, tu_rt, tu_bk, tu_ct, tu_ex, varR_fz, varR_ol, varR_bl, varR_io, v_var, v_lit, v_tup, v_lst, tupK_0, tupK_1, tupK_2, tupK_3, lstK_0, lstK_1, lstK_2, lstK_3, v_p1, p1K_eq, v_p2, p2K_eq, v_and, v_or, v_not, v_ite, v_call, v_mth, mth0_some, mthK_eq, mthO_some, own_eq, ownO_ol, ownO_io, mkOwn_t, mkOwn_f, v_sl, compK_eq, compT_some, v_comp, compC_none, wipe_nil, wipe_cons, rest_nil, rest_cons, fin_ok, con_fz, con_ol, con_plc, slCon_some, scon_fz, scon_ol, scon_bl, scon_io, set_fz, set_plc, set_ol, lift_some, bool_bl, opt_int, opt_non, toV_fz, toV_ol, toV_plc, toVO_ol, V_nil, V_cons, A_nil, A_cons, I_it1, itK_tup, itK_lst, itK_ol, itK_plc, itS_ol, itS_bl, I_rng1, I_rng2, I_rng3, S_nil, S_cons, S_expr, nxK_eq, S_asg, S_asgT, asgO_some, S_aug, augO_int, augK_add, S_setix, setK_eq, setO_some, setAt_eq, setA_0, S_ite, S_for, forO_some, lock_none, lock_ol, lock_bl, S_ret, S_ret0, S_brk, S_cont, S_pass, S_raise, raiK_some, setS_eq, setSO_no, setSO_fz, setSO_ol, setSO_bl, asgR_fz, asgR_ol, asgR_plc, asgP_ol, asgP_bl, retR_fz, retR_ol, retR_plc, retP_ol, asg_v, asg1_eq, asg1O_no, asg1O_fz, asg1O_ol, asg_tp, ag_nil, ag_cons, arg_nil, arg_fz, arg_plc, argT_ol, argT_bl, argT_olf, calR_ok, calR_ex, calI_t, calI_f, calO_some, io_plc, ioO_ol, ioO_io, forC_some, endF_rt, endF_nx, endF_ex, io_f, io_t, sl_io, sl_f, sl_tl, sl_nil, o_len_t, o_len_l, o_tuple_t, o_tuple_l, o_list_t, o_list_l, o_int, o_neg, o_sum, o_any, o_all, o_max, o_isN, o_notN, o_add, o_sub, o_band, o_bor, o_lt, o_le, o_gt, o_ge, o_eq, o_ne, o_ixT, o_ixL, at_0, at_1, m_pop, m_pop0, decide_true, decide_false, Bool.false_eq_true, reduceIte, Bool.not_true, Bool.not_false]
  | false => simp only [List.getElem?_cons_zero, List.getElem?_cons_succ, List.set_cons_zero, List.set_cons_succ, List.getD_cons_zero, List.getD_cons_succ, ob_some, om_some, b_ok, b_ex, st_ok, st_ex, sq_nx, sq_rt, sq_bk, sq_ct, sq_ex, tu_nx, tu_rt, tu_bk, tu_ct, tu_ex, varR_fz, varR_ol, varR_bl, varR_io, v_var, v_lit, v_tup, v_lst, tupK_0, tupK_1, tupK_2, tupK_3, lstK_0, lstK_1, lstK_2, lstK_3, v_p1, p1K_eq, v_p2, p2K_eq, v_and, v_or, v_not, v_ite, v_call, v_mth, mth0_some, mthK_eq, mthO_some, own_eq, ownO_ol, ownO_io, mkOwn_t, mkOwn_f, v_sl, compK_eq, compT_some, v_comp, compC_none, wipe_nil, wipe_cons, rest_nil, rest_cons, fin_ok, con_fz, con_ol, con_plc, slCon_some, scon_fz, scon_ol, scon_bl, scon_io, set_fz, set_plc, set_ol, lift_some, bool_bl, opt_int, opt_non, toV_fz, toV_ol, toV_plc, toVO_ol, V_nil, V_cons, A_nil, A_cons, I_it1, itK_tup, itK_lst, itK_ol, itK_plc, itS_ol, itS_bl, I_rng1, I_rng2, I_rng3, S_nil, S_cons, S_expr, nxK_eq, S_asg, S_asgT, asgO_some, S_aug, augO_int, augK_add, S_setix, setK_eq, setO_some, setAt_eq, setA_0, S_ite, S_for, forO_some, lock_none, lock_ol, lock_bl, S_ret, S_ret0, S_brk, S_cont, S_pass, S_raise, raiK_some, setS_eq, setSO_no, setSO_fz, setSO_ol, setSO_bl, asgR_fz, asgR_ol, asgR_plc, asgP_ol, asgP_bl, retR_fz, retR_ol, retR_plc, retP_ol, asg_v, asg1_eq, asg1O_no, asg1O_fz, asg1O_ol, asg_tp, ag_nil, ag_cons, arg_nil, arg_fz, arg_plc, argT_ol, argT_bl, argT_olf, calR_ok, calR_ex, calI_t, calI_f, calO_some, io_plc, ioO_ol, ioO_io, forC_some, endF_rt, endF_nx, endF_ex, io_f, io_t, sl_io, sl_f, sl_tl, sl_nil, o_len_t, o_len_l, o_tuple_t, o_tuple_l, o_list_t, o_list_l, o_int, o_neg, o_sum, o_any, o_all, o_max, o_isN, o_notN, o_add, o_sub, o_band, o_bor, o_lt, o_le, o_gt, o_ge, o_eq, o_ne, o_ixT, o_ixL, at_0, at_1, m_pop, m_pop0, decide_true, decide_false, Bool.false_eq_true, reduceIte, Bool.not_true, Bool.not_false, m_append b1, nl_app]
theorem und_loop (lots : List Nat) : ∀ (ns : List Nat) (kept : List Nat) (z : Sl), (∀ n ∈ ns, n < lots.length) → (∀ k ∈ kept, k < lots.length) → kept.length + ns.length < 1000 → z.isIo = false →
    ∃ z', forL (asgT (.v 2)) (evS sg Φ mk FU undB) (nl ns) [.bl (nl lots), .ol (nl kept), z, .no] = .nx [.bl (nl lots), .ol (nl (ns.foldl (undStep lots) kept)), z', .no]
  | [], kept, z, _, _, _, _ => ⟨z, rfl⟩
  | n :: r, kept, z, hn, hk, hl, hz => by
    have hn0 := hn n (List.mem_cons_self ..)
    have e1 : asgT (.v 2) (.int (n : Int)) [.bl (nl lots), .ol (nl kept), z, .no] = some [.bl (nl lots), .ol (nl kept), .fz (.int (n : Int)), .no] := by
      rw [asgT]
      cases z <;> first | rfl | cases hz
    have k2 : (∀ k ∈ undStep lots kept n, k < lots.length) ∧ (undStep lots kept n).length ≤ kept.length + 1 := by
      unfold undStep
      split
      · exact ⟨hk, by omega⟩
      · refine ⟨fun k hk' => ?_, by simp⟩
        rcases List.mem_append.mp hk' with h | h
        · exact hk k h
        · simp at h; omega
    obtain ⟨z', e⟩ := und_loop lots r (undStep lots kept n) (.fz (.int (n : Int))) (fun q hq => hn q (List.mem_cons_of_mem _ hq)) k2.1 (by have := k2.2; simp at hl; omega) rfl
    refine ⟨z', ?_⟩
    rw [show nl (n :: r) = .int (n : Int) :: nl r from rfl, for_cons, e1, forC_some, und_step Φ lots n hn0 kept hk (by simp at hl; omega), tu_nx]
    exact e
theorem und_ok (lots : List Nat) (hl : lots.length ≤ 7) : evD sg Φ mk FU (sg 1) ⟨4, ir_undominated⟩ [.lst (nl lots)] = .ok (.ol (nl (und lots lots.length))) [] := by
  rw [evD_eq, show sg 1 = ⟨1, false, [true]⟩ from rfl]
  have e0 : ir_undominated = (.cons (.asg (.v 1) (.lst .nil)) (.cons (.for (.v 2) (.rng1 (.p1 .len (.var 0))) undB) (.cons (.ret (.var 1)) .nil))) := rfl
  rw [e0]
  have el : ((nl lots).length : Int) = (lots.length : Int) := by rw [nl_len]
  have b1 : inBig (lots.length : Int) = true := by unfold inBig; exact decide_eq_true (by omega)
  simp only [sl_io, sl_f, sl_tl, sl_nil, List.length_cons, List.length_nil, List.replicate, List.cons_append, List.nil_append]
  obtain ⟨z', e⟩ := und_loop Φ lots (List.range lots.length) [] .no (fun n hn => List.mem_range.mp hn) (by simp) (by simp; omega) rfl
  rw [show nl [] = [] from rfl, ← rangeI_nl0] at e
  simp only [List.getElem?_cons_zero, List.getElem?_cons_succ, List.set_cons_zero, List.set_cons_succ, List.getD_cons_zero, List.getD_cons_succ, ob_some, om_some, b_ok, b_ex, st_ok, st_ex, sq_nx, sq_rt, sq_bk, sq_ct, sq_ex, tu_nx, tu_rt, tu_bk, tu_ct, tu_ex, varR_fz, varR_ol, varR_bl, varR_io, v_var, v_lit, v_tup, v_lst, tupK_0, tupK_1, tupK_2, tupK_3, lstK_0, lstK_1, lstK_2, lstK_3, v_p1, p1K_eq, v_p2, p2K_eq, v_and, v_or, v_not, v_ite, v_call, v_mth, mth0_some, mthK_eq, mthO_some, own_eq, ownO_ol, ownO_io, mkOwn_t, mkOwn_f, v_sl, compK_eq, compT_some, v_comp, compC_none, wipe_nil, wipe_cons, rest_nil, rest_cons, fin_ok, con_fz, con_ol, con_plc, slCon_some, scon_fz, scon_ol, scon_bl, scon_io, set_fz, set_plc, set_ol, lift_some, bool_bl, opt_int, opt_non, toV_fz, toV_ol, toV_plc, toVO_ol, V_nil, V_cons, A_nil, A_cons, I_it1, itK_tup, itK_lst, itK_ol, itK_plc, itS_ol, itS_bl, I_rng1, I_rng2, I_rng3, S_nil, S_cons, S_expr, nxK_eq, S_asg, S_asgT, asgO_some, S_aug, augO_int, augK_add, S_setix, setK_eq, setO_some, setAt_eq, setA_0, S_ite, S_for, forO_some, lock_none, lock_ol, lock_bl, S_ret, S_ret0, S_brk, S_cont, S_pass, S_raise, raiK_some, setS_eq, setSO_no, setSO_fz, setSO_ol, setSO_bl, asgR_fz, asgR_ol, asgR_plc, asgP_ol, asgP_bl, retR_fz, retR_ol, retR_plc, retP_ol, asg_v, asg1_eq, asg1O_no, asg1O_fz, asg1O_ol, asg_tp, ag_nil, ag_cons, arg_nil, arg_fz, arg_plc, argT_ol, argT_bl, argT_olf, calR_ok, calR_ex, calI_t, calI_f, calO_some, io_plc, ioO_ol, ioO_io, forC_some, endF_rt, endF_nx, endF_ex, io_f, io_t, sl_io, sl_f, sl_tl, sl_nil, o_len_t, o_len_l, o_tuple_t, o_tuple_l, o_list_t, o_list_l, o_int, o_neg, o_sum, o_any, o_all, o_max, o_isN, o_notN, o_add, o_sub, o_band, o_bor, o_lt, o_le, o_gt, o_ge, o_eq, o_ne, o_ixT, o_ixL, at_0, at_1, m_pop, m_pop0, el, rg1_ok b1, Int.toNat_natCast, e]
  rfl
/-! ### first_cover -/
abbrev Ent := List Nat × Nat × Nat
def eT (e : Ent) : T := .tup [tT e.1, .int (e.2.1 : Int), .int (e.2.2 : Int)]
def child (lots kept : List Nat) (e : Ent) (f : Nat) : Ent := (e.1 ++ [lot kept f], f + 1, e.2.2 ||| lot lots (lot kept f))
def pushB : S := (.cons (.expr (.mth .append 4 (.cons (.tup (.cons (.p2 .add (.var 5) (.tup (.cons (.p2 .ix (.var 1) (.var 8)) .nil))) (.cons (.p2 .add (.var 8) (.lit (.int 1))) (.cons (.p2 .bor (.var 7) (.p2 .ix (.var 0) (.p2 .ix (.var 1) (.var 8)))) .nil)))) .nil))) .nil)
theorem push_loop (lots kept : List Nat) (a b : Sl) (hk : ∀ k ∈ kept, k < lots.length) (e : Ent) (he : e.1.length < 1000) : ∀ (fs : List Nat) (W : List Ent) (z : Sl), (∀ f ∈ fs, f < kept.length) → W.length + fs.length < 10000 → z.isIo = false →
    ∃ z', z'.isIo = false ∧ forL (asgT (.v 8)) (evS sg Φ mk FU pushB) (nl fs) [.bl (nl lots), .bl (nl kept), a, b, .ol (W.map eT), .fz (tT e.1), .fz (.int (e.2.1 : Int)), .fz (.int (e.2.2 : Int)), z]
      = .nx [.bl (nl lots), .bl (nl kept), a, b, .ol ((W ++ fs.map (child lots kept e)).map eT), .fz (tT e.1), .fz (.int (e.2.1 : Int)), .fz (.int (e.2.2 : Int)), z']
  | [], W, z, _, _, hz => ⟨z, hz, by simp [nl, for_nil]⟩
  | f :: r, W, z, hf, hl, hz => by
    have hf0 := hf f (List.mem_cons_self ..)
    have e1 : asgT (.v 8) (.int (f : Int)) [.bl (nl lots), .bl (nl kept), a, b, .ol (W.map eT), .fz (tT e.1), .fz (.int (e.2.1 : Int)), .fz (.int (e.2.2 : Int)), z] = some [.bl (nl lots), .bl (nl kept), a, b, .ol (W.map eT), .fz (tT e.1), .fz (.int (e.2.1 : Int)), .fz (.int (e.2.2 : Int)), .fz (.int (f : Int))] := by
      rw [asgT]
      cases z <;> first | rfl | cases hz
    have hkf : lot kept f < lots.length := by
      have : lot kept f = kept[f] := by unfold lot; rw [List.getD_eq_getElem?_getD, List.getElem?_eq_getElem hf0]; rfl
      rw [this]
      exact hk _ (List.getElem_mem hf0)
    have b1 : (W.map eT).length < sizeLine := by rw [List.length_map, sizeLine_eq]; simp at hl; omega
    have b2 : (nl e.1).length + [T.int (lot kept f : Int)].length ≤ sizeLine := by rw [nl_len, sizeLine_eq]; simp; omega
    have es : evS sg Φ mk FU pushB [.bl (nl lots), .bl (nl kept), a, b, .ol (W.map eT), .fz (tT e.1), .fz (.int (e.2.1 : Int)), .fz (.int (e.2.2 : Int)), .fz (.int (f : Int))]
        = .nx [.bl (nl lots), .bl (nl kept), a, b, .ol ((W ++ [child lots kept e f]).map eT), .fz (tT e.1), .fz (.int (e.2.1 : Int)), .fz (.int (e.2.2 : Int)), .fz (.int (f : Int))] := by
      unfold pushB
      have ew : (W ++ [child lots kept e f]).map eT = W.map eT ++ [.tup [.tup (nl (e.1 ++ [lot kept f])), .int ((f : Int) + 1), .int ((e.2.2 ||| lot lots (lot kept f) : Nat) : Int)]] := by
        rw [List.map_append]
        unfold eT child tT
        simp
      simp only [List.getElem?_cons_zero, List.getElem?_cons_succ, List.set_cons_zero, List.set_cons_succ, List.getD_cons_zero, List.getD_cons_succ, ob_some, om_some, b_ok, b_ex, st_ok, st_ex, sq_nx, sq_rt, sq_bk, sq_ct, sq_ex, tu_nx, tu_rt, tu_bk, tu_ct, tu_ex, varR_fz, varR_ol, varR_bl, varR_io, v_var, v_lit, v_tup, v_lst, tupK_0, tupK_1, tupK_2, tupK_3, lstK_0, lstK_1, lstK_2, lstK_3, v_p1, p1K_eq, v_p2, p2K_eq, v_and, v_or, v_not, v_ite, v_call, v_mth, mth0_some, mthK_eq, mthO_some, own_eq, ownO_ol, ownO_io, mkOwn_t, mkOwn_f, v_sl, compK_eq, compT_some, v_comp, compC_none, wipe_nil, wipe_cons, rest_nil, rest_cons, fin_ok, con_fz, con_ol, con_plc, slCon_some, scon_fz, scon_ol, scon_bl, scon_io, set_fz, set_plc, set_ol, lift_some, bool_bl, opt_int, opt_non, toV_fz, toV_ol, toV_plc, toVO_ol, V_nil, V_cons, A_nil, A_cons, I_it1, itK_tup, itK_lst, itK_ol, itK_plc, itS_ol, itS_bl, I_rng1, I_rng2, I_rng3, S_nil, S_cons, S_expr, nxK_eq, S_asg, S_asgT, asgO_some, S_aug, augO_int, augK_add, S_setix, setK_eq, setO_some, setAt_eq, setA_0, S_ite, S_for, forO_some, lock_none, lock_ol, lock_bl, S_ret, S_ret0, S_brk, S_cont, S_pass, S_raise, raiK_some, setS_eq, setSO_no, setSO_fz, setSO_ol, setSO_bl, asgR_fz, asgR_ol, asgR_plc, asgP_ol, asgP_bl, retR_fz, retR_ol, retR_plc, retP_ol, asg_v, asg1_eq, asg1O_no, asg1O_fz, asg1O_ol, asg_tp, ag_nil, ag_cons, arg_nil, arg_fz, arg_plc, argT_ol, argT_bl, argT_olf, calR_ok, calR_ex, calI_t, calI_f, calO_some, io_plc, ioO_ol, ioO_io, forC_some, endF_rt, endF_nx, endF_ex, io_f, io_t, sl_io, sl_f, sl_tl, sl_nil, o_len_t, o_len_l, o_tuple_t, o_tuple_l, o_list_t, o_list_l, o_int, o_neg, o_sum, o_any, o_all, o_max, o_isN, o_notN, o_add, o_sub, o_band, o_bor, o_lt, o_le, o_gt, o_ge, o_eq, o_ne, o_ixT, o_ixL, at_0, at_1, m_pop, m_pop0, tT, at_lot hf0, at_lot hkf, o_addT b2, nl_app, bor_nat, m_append b1, ew]
    obtain ⟨z', hz', e2⟩ := push_loop lots kept a b hk e he r (W ++ [child lots kept e f]) (.fz (.int (f : Int))) (fun q hq => hf q (List.mem_cons_of_mem _ hq)) (by simp at hl ⊢; omega) rfl
    refine ⟨z', hz', ?_⟩
    rw [show nl (f :: r) = .int (f : Int) :: nl r from rfl, for_cons, e1, forC_some, es, tu_nx, e2]
    simp
end
end K73

set_option Elab.async false
set_option linter.all false
set_option autoImplicit false
set_option maxRecDepth 100000
set_option maxHeartbeats 1000000
namespace K73
open PySem Ev
/-! ### the stack's meaning -/
def ext (kept : List Nat) (size : Nat) (e : Ent) : List (List Nat) := (combos (kept.drop e.2.1) (size - e.1.length)).map (e.1 ++ ·)
def mu (n : Nat) (W : List Ent) : Nat := (W.map fun e => 2 ^ (n - e.2.1)).sum
structure EOk (lots kept : List Nat) (size : Nat) (e : Ent) : Prop where
  pl : e.2.1 ≤ kept.length
  len : e.1.length ≤ size
  cov : e.2.2 = cv lots e.1
theorem cv_snoc (lots ks : List Nat) (k : Nat) : cv lots (ks ++ [k]) = cv lots ks ||| lot lots k := by
  unfold cv
  rw [List.foldl_append]
  rfl
theorem ext_leaf {kept : List Nat} {size : Nat} {e : Ent} (h : e.1.length = size) : ext kept size e = [e.1] := by
  unfold ext
  rw [h, Nat.sub_self]
  cases kept.drop e.2.1 <;> simp [combos]
theorem ext_node {lots kept : List Nat} {size : Nat} : ∀ (m : Nat) (ks : List Nat) (c place : Nat), m = kept.length - place → place ≤ kept.length → ks.length < size → ext kept size (ks, place, c) = ((List.range' place m).map (child lots kept (ks, place, c))).flatMap (ext kept size)
  | 0, ks, c, place, hm, hp, hs => by
    have : kept.drop place = [] := List.drop_eq_nil_of_le (by omega)
    unfold ext
    simp only [this]
    obtain ⟨s, hs'⟩ : ∃ s, size - ks.length = s + 1 := ⟨size - ks.length - 1, by omega⟩
    rw [hs']
    rfl
  | m + 1, ks, c, place, hm, hp, hs => by
    have hlt : place < kept.length := by omega
    obtain ⟨s, hs'⟩ : ∃ s, size - ks.length = s + 1 := ⟨size - ks.length - 1, by omega⟩
    have ih := ext_node (lots := lots) (kept := kept) (size := size) m ks c (place + 1) (by omega) (by omega) hs
    have el : lot kept place = kept[place] := by unfold lot; rw [List.getD_eq_getElem?_getD, List.getElem?_eq_getElem hlt]; rfl
    have e1 : ext kept size (ks, place, c) = ext kept size (child lots kept (ks, place, c) place) ++ ext kept size (ks, place + 1, c) := by
      unfold ext child
      simp only
      rw [List.drop_eq_getElem_cons hlt, hs']
      simp only [combos, List.map_append, List.map_map, List.length_append, List.length_singleton]
      rw [show size - (ks.length + 1) = s by omega, el]
      congr 1
      refine List.map_congr_left fun q _ => ?_
      simp
    have e2 : (List.range' (place + 1) m).map (child lots kept (ks, place + 1, c)) = (List.range' (place + 1) m).map (child lots kept (ks, place, c)) := by
      refine List.map_congr_left fun q _ => ?_
      rfl
    rw [e1, ih, e2, List.range'_succ, List.map_cons, List.flatMap_cons]
theorem mu_node {n : Nat} : ∀ (m place : Nat) (lots kept : List Nat) (e : Ent), m = n - place → place ≤ n → mu n ((List.range' place m).map (child lots kept e)) + 1 = 2 ^ m
  | 0, place, lots, kept, e, _, _ => by simp [mu]
  | m + 1, place, lots, kept, e, hm, hp => by
    have ih := mu_node (n := n) m (place + 1) lots kept e (by omega) (by omega)
    rw [List.range'_succ, List.map_cons]
    have : mu n (child lots kept e place :: (List.range' (place + 1) m).map (child lots kept e)) = 2 ^ (n - (place + 1)) + mu n ((List.range' (place + 1) m).map (child lots kept e)) := by
      unfold mu
      rw [List.map_cons, List.sum_cons]
      rfl
    rw [this, show n - (place + 1) = m by omega, Nat.pow_succ]
    omega
theorem mu_app (n : Nat) (a b : List Ent) : mu n (a ++ b) = mu n a + mu n b := by unfold mu; rw [List.map_append, List.sum_append_nat]
theorem mu_rev (n : Nat) (a : List Ent) : mu n a.reverse = mu n a := by
  induction a with
  | nil => rfl
  | cons x r ih =>
    rw [List.reverse_cons, mu_app, ih]
    unfold mu
    simp
    omega
theorem mu_len (n : Nat) (W : List Ent) : W.length ≤ mu n W := by
  induction W with
  | nil => simp
  | cons x r ih =>
    have h : mu n (x :: r) = 2 ^ (n - x.2.1) + mu n r := by unfold mu; rw [List.map_cons, List.sum_cons]
    have : 0 < 2 ^ (n - x.2.1) := Nat.pos_of_ne_zero (by simp)
    rw [h, List.length_cons]
    omega
section
variable (Φ : Tab)
def covB : S := (.cons (.asg (.tp (.cons (.v 5) (.cons (.v 6) (.cons (.v 7) .nil)))) (.mth .pop 4 .nil)) (.cons (.ite (.p2 .eq (.p1 .len (.var 5)) (.var 3)) (.cons (.ite (.p2 .eq (.var 7) (.var 2)) (.cons (.ret (.var 5)) .nil) .nil) (.cons .cont .nil)) .nil) (.cons (.for (.v 8) (.rng3 (.p2 .sub (.p1 .len (.var 1)) (.lit (.int 1))) (.p2 .sub (.var 6) (.lit (.int 1))) (.p1 .neg (.lit (.int 1)))) pushB) .nil)))
def covC : E := .p2 .gt (.p1 .len (.var 4)) (.lit (.int 0))
theorem pop_step (lots kept : List Nat) (full size : Nat) (W : List Ent) (e : Ent) (z5 z6 z7 z8 : Sl) (h5 : z5.isIo = false) (h6 : z6.isIo = false) (h7 : z7.isIo = false) :
    evS sg Φ mk FU (.asg (.tp (.cons (.v 5) (.cons (.v 6) (.cons (.v 7) .nil)))) (.mth .pop 4 .nil)) [.bl (nl lots), .bl (nl kept), .fz (.int (full : Int)), .fz (.int (size : Int)), .ol ((W ++ [e]).map eT), z5, z6, z7, z8]
      = .nx [.bl (nl lots), .bl (nl kept), .fz (.int (full : Int)), .fz (.int (size : Int)), .ol (W.map eT), .fz (tT e.1), .fz (.int (e.2.1 : Int)), .fz (.int (e.2.2 : Int)), z8] := by
  have ea : asgT (.tp (.cons (.v 5) (.cons (.v 6) (.cons (.v 7) .nil)))) (.tup [tT e.1, .int (e.2.1 : Int), .int (e.2.2 : Int)]) [.bl (nl lots), .bl (nl kept), .fz (.int (full : Int)), .fz (.int (size : Int)), .ol (W.map eT), z5, z6, z7, z8]
      = some [.bl (nl lots), .bl (nl kept), .fz (.int (full : Int)), .fz (.int (size : Int)), .ol (W.map eT), .fz (tT e.1), .fz (.int (e.2.1 : Int)), .fz (.int (e.2.2 : Int)), z8] := by
    have o5 : asg1O 5 (tT e.1) [.bl (nl lots), .bl (nl kept), .fz (.int (full : Int)), .fz (.int (size : Int)), .ol (W.map eT), z5, z6, z7, z8] (some z5) = some [.bl (nl lots), .bl (nl kept), .fz (.int (full : Int)), .fz (.int (size : Int)), .ol (W.map eT), .fz (tT e.1), z6, z7, z8] := by
      cases z5 <;> first | rfl | (cases h5; done)
    have o6 : ∀ a, asg1O 6 (.int (e.2.1 : Int)) [.bl (nl lots), .bl (nl kept), .fz (.int (full : Int)), .fz (.int (size : Int)), .ol (W.map eT), a, z6, z7, z8] (some z6) = some [.bl (nl lots), .bl (nl kept), .fz (.int (full : Int)), .fz (.int (size : Int)), .ol (W.map eT), a, .fz (.int (e.2.1 : Int)), z7, z8] := by
      intro a
      cases z6 <;> first | rfl | (cases h6; done)
    have o7 : ∀ a b, asg1O 7 (.int (e.2.2 : Int)) [.bl (nl lots), .bl (nl kept), .fz (.int (full : Int)), .fz (.int (size : Int)), .ol (W.map eT), a, b, z7, z8] (some z7) = some [.bl (nl lots), .bl (nl kept), .fz (.int (full : Int)), .fz (.int (size : Int)), .ol (W.map eT), a, b, .fz (.int (e.2.2 : Int)), z8] := by
      intro a b
      cases z7 <;> first | rfl | (cases h7; done)
    simp only [asg_tp, ag_cons, ag_nil, asg_v, asg1_eq, List.getElem?_cons_zero, List.getElem?_cons_succ, o5, o6, o7, Option.bind_some]
  have ew : (W ++ [e]).map eT = W.map eT ++ [.tup [tT e.1, .int (e.2.1 : Int), .int (e.2.2 : Int)]] := by rw [List.map_append]; rfl
  rw [S_asgT, ew]
  simp only [v_mth, own_eq, List.getElem?_cons_zero, List.getElem?_cons_succ, ownO_ol, mth0_some, V_nil, b_ok, mthK_eq, mthO_some, m_pop, lift_some, mkOwn_f, List.set_cons_zero, List.set_cons_succ, st_ok, toV_fz, ea, asgO_some]
theorem cov_step (lots kept : List Nat) (hk : ∀ k ∈ kept, k < lots.length) (hn : kept.length ≤ 7) (full size : Nat) (hsz : size < 1000) (W : List Ent) (e : Ent) (he : EOk lots kept size e) (hW : W.length < 1000) (z5 z6 z7 z8 : Sl) (h5 : z5.isIo = false) (h6 : z6.isIo = false) (h7 : z7.isIo = false) (h8 : z8.isIo = false) :
    ∃ z8', z8'.isIo = false ∧ evS sg Φ mk FU covB [.bl (nl lots), .bl (nl kept), .fz (.int (full : Int)), .fz (.int (size : Int)), .ol ((W ++ [e]).map eT), z5, z6, z7, z8] =
      (if e.1.length = size then (if cvp lots full e.1 = true then .rt (.fz (tT e.1)) [.bl (nl lots), .bl (nl kept), .fz (.int (full : Int)), .fz (.int (size : Int)), .ol (W.map eT), .fz (tT e.1), .fz (.int (e.2.1 : Int)), .fz (.int (e.2.2 : Int)), z8']
        else .ct [.bl (nl lots), .bl (nl kept), .fz (.int (full : Int)), .fz (.int (size : Int)), .ol (W.map eT), .fz (tT e.1), .fz (.int (e.2.1 : Int)), .fz (.int (e.2.2 : Int)), z8'])
      else .nx [.bl (nl lots), .bl (nl kept), .fz (.int (full : Int)), .fz (.int (size : Int)), .ol ((W ++ ((List.range' e.2.1 (kept.length - e.2.1)).map (child lots kept e)).reverse).map eT), .fz (tT e.1), .fz (.int (e.2.1 : Int)), .fz (.int (e.2.2 : Int)), z8']) := by
  unfold covB
  rw [S_cons, pop_step Φ lots kept full size W e z5 z6 z7 z8 h5 h6 h7, sq_nx]
  have el : decide (((nl e.1).length : Int) = (size : Int)) = decide (e.1.length = size) := by rw [nl_len, decide_eq_decide]; omega
  by_cases hs : e.1.length = size
  · refine ⟨z8, h8, ?_⟩
    have ec : decide ((e.2.2 : Int) = (full : Int)) = cvp lots full e.1 := by
      unfold cvp
      rw [decide_eq_decide, he.cov]; omega
    rw [if_pos hs]
    simp only [List.getElem?_cons_zero, List.getElem?_cons_succ, List.set_cons_zero, List.set_cons_succ, List.getD_cons_zero, List.getD_cons_succ, ob_some, om_some, b_ok, b_ex, st_ok, st_ex, sq_nx, sq_rt, sq_bk, sq_ct, sq_ex, tu_nx, tu_rt, tu_bk, tu_ct, tu_ex, varR_fz, varR_ol, varR_bl, varR_io, v_var, v_lit, v_tup, v_lst, tupK_0, tupK_1, tupK_2, tupK_3, lstK_0, lstK_1, lstK_2, lstK_3, v_p1, p1K_eq, v_p2, p2K_eq, v_and, v_or, v_not, v_ite, v_call, v_mth, mth0_some, mthK_eq, mthO_some, own_eq, ownO_ol, ownO_io, mkOwn_t, mkOwn_f, v_sl, compK_eq, compT_some, v_comp, compC_none, wipe_nil, wipe_cons, rest_nil, rest_cons, fin_ok, con_fz, con_ol, con_plc, slCon_some, scon_fz, scon_ol, scon_bl, scon_io, set_fz, set_plc, set_ol, lift_some, bool_bl, opt_int, opt_non, toV_fz, toV_ol, toV_plc, toVO_ol, V_nil, V_cons, A_nil, A_cons, I_it1, itK_tup, itK_lst, itK_ol, itK_plc, itS_ol, itS_bl, I_rng1, I_rng2, I_rng3, S_nil, S_cons, S_expr, nxK_eq, S_asg, S_asgT, asgO_some, S_aug, augO_int, augK_add, S_setix, setK_eq, setO_some, setAt_eq, setA_0, S_ite, S_for, forO_some, lock_none, lock_ol, lock_bl, S_ret, S_ret0, S_brk, S_cont, S_pass, S_raise, raiK_some, setS_eq, setSO_no, setSO_fz, setSO_ol, setSO_bl, asgR_fz, asgR_ol, asgR_plc, asgP_ol, asgP_bl, retR_fz, retR_ol, retR_plc, retP_ol, asg_v, asg1_eq, asg1O_no, asg1O_fz, asg1O_ol, asg_tp, ag_nil, ag_cons, arg_nil, arg_fz, arg_plc, argT_ol, argT_bl, argT_olf, calR_ok, calR_ex, calI_t, calI_f, calO_some, io_plc, ioO_ol, ioO_io, forC_some, endF_rt, endF_nx, endF_ex, io_f, io_t, sl_io, sl_f, sl_tl, sl_nil, o_len_t, o_len_l, o_tuple_t, o_tuple_l, o_list_t, o_list_l, o_int, o_neg, o_sum, o_any, o_all, o_max, o_isN, o_notN, o_add, o_sub, o_band, o_bor, o_lt, o_le, o_gt, o_ge, o_eq, o_ne, o_ixT, o_ixL, at_0, at_1, m_pop, m_pop0, tT, el, hs, decide_true, decide_false, Bool.false_eq_true, reduceIte, Bool.not_true, Bool.not_false, ec]
    cases cvp lots full e.1 with
    | true => simp only [List.getElem?_cons_zero, List.getElem?_cons_succ, List.set_cons_zero, List.set_cons_succ, List.getD_cons_zero, List.getD_cons_succ, ob_some, om_some, b_ok, b_ex, st_ok, st_ex, sq_nx, sq_rt, sq_bk, sq_ct, sq_ex, tu_nx, tu_rt, tu_bk, tu_ct, tu_ex, varR_fz, varR_ol, varR_bl, varR_io, v_var, v_lit, v_tup, v_lst, tupK_0, tupK_1, tupK_2, tupK_3, lstK_0, lstK_1, lstK_2, lstK_3, v_p1, p1K_eq, v_p2, p2K_eq, v_and, v_or, v_not, v_ite, v_call, v_mth, mth0_some, mthK_eq, mthO_some, own_eq, ownO_ol, ownO_io, mkOwn_t, mkOwn_f, v_sl, compK_eq, compT_some, v_comp, compC_none, wipe_nil, wipe_cons, rest_nil, rest_cons, fin_ok, con_fz, con_ol, con_plc, slCon_some, scon_fz, scon_ol, scon_bl, scon_io, set_fz, set_plc, set_ol, lift_some, bool_bl, opt_int, opt_non, toV_fz, toV_ol, toV_plc, toVO_ol, V_nil, V_cons, A_nil, A_cons, I_it1, itK_tup, itK_lst, itK_ol, itK_plc, itS_ol, itS_bl, I_rng1, I_rng2, I_rng3, S_nil, S_cons, S_expr, nxK_eq, S_asg, S_asgT, asgO_some, S_aug, augO_int, augK_add, S_setix, setK_eq, setO_some, setAt_eq, setA_0, S_ite, S_for, forO_some, lock_none, lock_ol, lock_bl, S_ret, S_ret0, S_brk, S_cont, S_pass, S_raise, raiK_some, setS_eq, setSO_no, setSO_fz, setSO_ol, setSO_bl, asgR_fz, asgR_ol, asgR_plc, asgP_ol, asgP_bl, retR_fz, retR_ol, retR_plc, retP_ol, asg_v, asg1_eq, asg1O_no, asg1O_fz, asg1O_ol, asg_tp, ag_nil, ag_cons, arg_nil, arg_fz, arg_plc, argT_ol, argT_bl, argT_olf, calR_ok, calR_ex, calI_t, calI_f, calO_some, io_plc, ioO_ol, ioO_io, forC_some, endF_rt, endF_nx, endF_ex, io_f, io_t, sl_io, sl_f, sl_tl, sl_nil, o_len_t, o_len_l, o_tuple_t, o_tuple_l, o_list_t, o_list_l, o_int, o_neg, o_sum, o_any, o_all, o_max, o_isN, o_notN, o_add, o_sub, o_band, o_bor, o_lt, o_le, o_gt, o_ge, o_eq, o_ne, o_ixT, o_ixL, at_0, at_1, m_pop, m_pop0, decide_true, decide_false, Bool.false_eq_true, reduceIte, Bool.not_true, Bool.not_false]
    | false => simp only [List.getElem?_cons_zero, List.getElem?_cons_succ, List.set_cons_zero, List.set_cons_succ, List.getD_cons_zero, List.getD_cons_succ, ob_some, om_some, b_ok, b_ex, st_ok, st_ex, sq_nx, sq_rt, sq_bk, sq_ct, sq_ex, tu_nx, tu_rt, tu_bk, tu_ct, tu_ex, varR_fz, varR_ol, varR_bl, varR_io, v_var, v_lit, v_tup, v_lst, tupK_0, tupK_1, tupK_2, tupK_3, lstK_0, lstK_1, lstK_2, lstK_3, v_p1, p1K_eq, v_p2, p2K_eq, v_and, v_or, v_not, v_ite, v_call, v_mth, mth0_some, mthK_eq, mthO_some, own_eq, ownO_ol, ownO_io, mkOwn_t, mkOwn_f, v_sl, compK_eq, compT_some, v_comp, compC_none, wipe_nil, wipe_cons, rest_nil, rest_cons, fin_ok, con_fz, con_ol, con_plc, slCon_some, scon_fz, scon_ol, scon_bl, scon_io, set_fz, set_plc, set_ol, lift_some, bool_bl, opt_int, opt_non, toV_fz, toV_ol, toV_plc, toVO_ol, V_nil, V_cons, A_nil, A_cons, I_it1, itK_tup, itK_lst, itK_ol, itK_plc, itS_ol, itS_bl, I_rng1, I_rng2, I_rng3, S_nil, S_cons, S_expr, nxK_eq, S_asg, S_asgT, asgO_some, S_aug, augO_int, augK_add, S_setix, setK_eq, setO_some, setAt_eq, setA_0, S_ite, S_for, forO_some, lock_none, lock_ol, lock_bl, S_ret, S_ret0, S_brk, S_cont, S_pass, S_raise, raiK_some, setS_eq, setSO_no, setSO_fz, setSO_ol, setSO_bl, asgR_fz, asgR_ol, asgR_plc, asgP_ol, asgP_bl, retR_fz, retR_ol, retR_plc, retP_ol, asg_v, asg1_eq, asg1O_no, asg1O_fz, asg1O_ol, asg_tp, ag_nil, ag_cons, arg_nil, arg_fz, arg_plc, argT_ol, argT_bl, argT_olf, calR_ok, calR_ex, calI_t, calI_f, calO_some, io_plc, ioO_ol, ioO_io, forC_some, endF_rt, endF_nx, endF_ex, io_f, io_t, sl_io, sl_f, sl_tl, sl_nil, o_len_t, o_len_l, o_tuple_t, o_tuple_l, o_list_t, o_list_l, o_int, o_neg, o_sum, o_any, o_all, o_max, o_isN, o_notN, o_add, o_sub, o_band, o_bor, o_lt, o_le, o_gt, o_ge, o_eq, o_ne, o_ixT, o_ixL, at_0, at_1, m_pop, m_pop0, decide_true, decide_false, Bool.false_eq_true, reduceIte, Bool.not_true, Bool.not_false]
  · have hpl := he.pl
    have hlen := he.len
    obtain ⟨z8', hz8, ep⟩ := push_loop Φ lots kept (.fz (.int (full : Int))) (.fz (.int (size : Int))) hk e (by omega) ((List.range' e.2.1 (kept.length - e.2.1)).reverse) W z8 (fun f hf => by
      have := List.mem_range'_1.mp (List.mem_reverse.mp hf); omega) (by simp; omega) h8
    refine ⟨z8', hz8, ?_⟩
    rw [if_neg hs]
    have b1 : inBig ((kept.length : Int) - 1) = true := by unfold inBig; exact decide_eq_true (by omega)
    have b2 : inBig ((e.2.1 : Int) - 1) = true := by unfold inBig; exact decide_eq_true (by omega)
    have ei : (List.range ((kept.length : Int) - 1 - ((e.2.1 : Int) - 1)).toNat).map (fun (k : Nat) => T.int ((kept.length : Int) - 1 - (k : Int))) = nl (List.range' e.2.1 (kept.length - e.2.1)).reverse := by
      rw [show ((kept.length : Int) - 1 - ((e.2.1 : Int) - 1)).toNat = kept.length - e.2.1 by omega, List.reverse_range']
      unfold nl
      rw [List.map_map]
      refine List.map_congr_left fun k hk => ?_
      have := List.mem_range.mp hk
      simp only [Function.comp]
      congr 1
      omega
    have ek : ((nl kept).length : Int) = (kept.length : Int) := by rw [nl_len]
    rw [← List.map_reverse]
    simp only [List.getElem?_cons_zero, List.getElem?_cons_succ, List.set_cons_zero, List.set_cons_succ, List.getD_cons_zero, List.getD_cons_succ, ob_some, om_some, b_ok, b_ex, st_ok, st_ex, sq_nx, sq_rt, sq_bk, sq_ct, sq_ex, tu_nx, tu_rt, tu_bk, tu_ct, tu_ex, varR_fz, varR_ol, varR_bl, varR_io, v_var, v_lit, v_tup, v_lst, tupK_0, tupK_1, tupK_2, tupK_3, lstK_0, lstK_1, lstK_2, lstK_3, v_p1, p1K_eq, v_p2, p2K_eq, v_and, v_or, v_not, v_ite, v_call, v_mth, mth0_some, mthK_eq, mthO_some, own_eq, ownO_ol, ownO_io, mkOwn_t, mkOwn_f, v_sl, compK_eq, compT_some, v_comp, compC_none, wipe_nil, wipe_cons, rest_nil, rest_cons, fin_ok, con_fz, con_ol, con_plc, slCon_some, scon_fz, scon_ol, scon_bl, scon_io, set_fz, set_plc, set_ol, lift_some, bool_bl, opt_int, opt_non, toV_fz, toV_ol, toV_plc, toVO_ol, V_nil, V_cons, A_nil, A_cons, I_it1, itK_tup, itK_lst, itK_ol, itK_plc, itS_ol, itS_bl, I_rng1, I_rng2, I_rng3, S_nil, S_cons, S_expr, nxK_eq, S_asg, S_asgT, asgO_some, S_aug, augO_int, augK_add, S_setix, setK_eq, setO_some, setAt_eq, setA_0, S_ite, S_for, forO_some, lock_none, lock_ol, lock_bl, S_ret, S_ret0, S_brk, S_cont, S_pass, S_raise, raiK_some, setS_eq, setSO_no, setSO_fz, setSO_ol, setSO_bl, asgR_fz, asgR_ol, asgR_plc, asgP_ol, asgP_bl, retR_fz, retR_ol, retR_plc, retP_ol, asg_v, asg1_eq, asg1O_no, asg1O_fz, asg1O_ol, asg_tp, ag_nil, ag_cons, arg_nil, arg_fz, arg_plc, argT_ol, argT_bl, argT_olf, calR_ok, calR_ex, calI_t, calI_f, calO_some, io_plc, ioO_ol, ioO_io, forC_some, endF_rt, endF_nx, endF_ex, io_f, io_t, sl_io, sl_f, sl_tl, sl_nil, o_len_t, o_len_l, o_tuple_t, o_tuple_l, o_list_t, o_list_l, o_int, o_neg, o_sum, o_any, o_all, o_max, o_isN, o_notN, o_add, o_sub, o_band, o_bor, o_lt, o_le, o_gt, o_ge, o_eq, o_ne, o_ixT, o_ixL, at_0, at_1, m_pop, m_pop0, tT, el, hs, decide_true, decide_false, Bool.false_eq_true, reduceIte, Bool.not_true, Bool.not_false, ek, rg3_dn b1 b2, ei]
    simp only [tT] at ep
    rw [ep]
    simp only [List.getElem?_cons_zero, List.getElem?_cons_succ, List.set_cons_zero, List.set_cons_succ, List.getD_cons_zero, List.getD_cons_succ, ob_some, om_some, b_ok, b_ex, st_ok, st_ex, sq_nx, sq_rt, sq_bk, sq_ct, sq_ex, tu_nx, tu_rt, tu_bk, tu_ct, tu_ex, varR_fz, varR_ol, varR_bl, varR_io, v_var, v_lit, v_tup, v_lst, tupK_0, tupK_1, tupK_2, tupK_3, lstK_0, lstK_1, lstK_2, lstK_3, v_p1, p1K_eq, v_p2, p2K_eq, v_and, v_or, v_not, v_ite, v_call, v_mth, mth0_some, mthK_eq, mthO_some, own_eq, ownO_ol, ownO_io, mkOwn_t, mkOwn_f, v_sl, compK_eq, compT_some, v_comp, compC_none, wipe_nil, wipe_cons, rest_nil, rest_cons, fin_ok, con_fz, con_ol, con_plc, slCon_some, scon_fz, scon_ol, scon_bl, scon_io, set_fz, set_plc, set_ol, lift_some, bool_bl, opt_int, opt_non, toV_fz, toV_ol, toV_plc, toVO_ol, V_nil, V_cons, A_nil, A_cons, I_it1, itK_tup, itK_lst, itK_ol, itK_plc, itS_ol, itS_bl, I_rng1, I_rng2, I_rng3, S_nil, S_cons, S_expr, nxK_eq, S_asg, S_asgT, asgO_some, S_aug, augO_int, augK_add, S_setix, setK_eq, setO_some, setAt_eq, setA_0, S_ite, S_for, forO_some, lock_none, lock_ol, lock_bl, S_ret, S_ret0, S_brk, S_cont, S_pass, S_raise, raiK_some, setS_eq, setSO_no, setSO_fz, setSO_ol, setSO_bl, asgR_fz, asgR_ol, asgR_plc, asgP_ol, asgP_bl, retR_fz, retR_ol, retR_plc, retP_ol, asg_v, asg1_eq, asg1O_no, asg1O_fz, asg1O_ol, asg_tp, ag_nil, ag_cons, arg_nil, arg_fz, arg_plc, argT_ol, argT_bl, argT_olf, calR_ok, calR_ex, calI_t, calI_f, calO_some, io_plc, ioO_ol, ioO_io, forC_some, endF_rt, endF_nx, endF_ex, io_f, io_t, sl_io, sl_f, sl_tl, sl_nil, o_len_t, o_len_l, o_tuple_t, o_tuple_l, o_list_t, o_list_l, o_int, o_neg, o_sum, o_any, o_all, o_max, o_isN, o_notN, o_add, o_sub, o_band, o_bor, o_lt, o_le, o_gt, o_ge, o_eq, o_ne, o_ixT, o_ixL, at_0, at_1, m_pop, m_pop0]
theorem cov_loop (lots kept : List Nat) (hk : ∀ k ∈ kept, k < lots.length) (hn : kept.length ≤ 7) (full size : Nat) (hsz : size < 1000) : ∀ (k : Nat) (W : List Ent) (z5 z6 z7 z8 : Sl), (∀ e ∈ W, EOk lots kept size e) → mu kept.length W < k → mu kept.length W ≤ 200 → z5.isIo = false → z6.isIo = false → z7.isIo = false → z8.isIo = false →
    ∃ en, en.length = 9 ∧ whileL (fun en => (ev sg Φ covC en).bind boolOf) (evS sg Φ mk FU covB) k [.bl (nl lots), .bl (nl kept), .fz (.int (full : Int)), .fz (.int (size : Int)), .ol (W.map eT), z5, z6, z7, z8]
      = (match (W.reverse.flatMap (ext kept size)).find? (cvp lots full) with | some c => .rt (.fz (tT c)) en | none => .nx en)
  | 0, W, _, _, _, _, _, h, _, _, _, _, _ => by omega
  | k + 1, W, z5, z6, z7, z8, hW, hm, hm2, h5, h6, h7, h8 => by
    unfold whileL
    rcases List.eq_nil_or_concat W with rfl | ⟨W', e, rfl⟩
    · refine ⟨[.bl (nl lots), .bl (nl kept), .fz (.int (full : Int)), .fz (.int (size : Int)), .ol [], z5, z6, z7, z8], rfl, ?_⟩
      unfold covC
      simp [List.getElem?_cons_zero, List.getElem?_cons_succ, List.set_cons_zero, List.set_cons_succ, List.getD_cons_zero, List.getD_cons_succ, ob_some, om_some, b_ok, b_ex, st_ok, st_ex, sq_nx, sq_rt, sq_bk, sq_ct, sq_ex, tu_nx, tu_rt, tu_bk, tu_ct, tu_ex, varR_fz, varR_ol, varR_bl, varR_io, v_var, v_lit, v_tup, v_lst, tupK_0, tupK_1, tupK_2, tupK_3, lstK_0, lstK_1, lstK_2, lstK_3, v_p1, p1K_eq, v_p2, p2K_eq, v_and, v_or, v_not, v_ite, v_call, v_mth, mth0_some, mthK_eq, mthO_some, own_eq, ownO_ol, ownO_io, mkOwn_t, mkOwn_f, v_sl, compK_eq, compT_some, v_comp, compC_none, wipe_nil, wipe_cons, rest_nil, rest_cons, fin_ok, con_fz, con_ol, con_plc, slCon_some, scon_fz, scon_ol, scon_bl, scon_io, set_fz, set_plc, set_ol, lift_some, bool_bl, opt_int, opt_non, toV_fz, toV_ol, toV_plc, toVO_ol, V_nil, V_cons, A_nil, A_cons, I_it1, itK_tup, itK_lst, itK_ol, itK_plc, itS_ol, itS_bl, I_rng1, I_rng2, I_rng3, S_nil, S_cons, S_expr, nxK_eq, S_asg, S_asgT, asgO_some, S_aug, augO_int, augK_add, S_setix, setK_eq, setO_some, setAt_eq, setA_0, S_ite, S_for, forO_some, lock_none, lock_ol, lock_bl, S_ret, S_ret0, S_brk, S_cont, S_pass, S_raise, raiK_some, setS_eq, setSO_no, setSO_fz, setSO_ol, setSO_bl, asgR_fz, asgR_ol, asgR_plc, asgP_ol, asgP_bl, retR_fz, retR_ol, retR_plc, retP_ol, asg_v, asg1_eq, asg1O_no, asg1O_fz, asg1O_ol, asg_tp, ag_nil, ag_cons, arg_nil, arg_fz, arg_plc, argT_ol, argT_bl, argT_olf, calR_ok, calR_ex, calI_t, calI_f, calO_some, io_plc, ioO_ol, ioO_io, forC_some, endF_rt, endF_nx, endF_ex, io_f, io_t, sl_io, sl_f, sl_tl, sl_nil, o_len_t, o_len_l, o_tuple_t, o_tuple_l, o_list_t, o_list_l, o_int, o_neg, o_sum, o_any, o_all, o_max, o_isN, o_notN, o_add, o_sub, o_band, o_bor, o_lt, o_le, o_gt, o_ge, o_eq, o_ne, o_ixT, o_ixL, at_0, at_1, m_pop, m_pop0]
    · rw [List.concat_eq_append] at *
      have he := hW e (by simp)
      have hl1 := mu_len kept.length (W' ++ [e])
      rw [List.length_append, List.length_singleton] at hl1
      obtain ⟨z8', hz8, es⟩ := cov_step Φ lots kept hk hn full size hsz W' e he (by omega) z5 z6 z7 z8 h5 h6 h7 h8
      have ec : (ev sg Φ covC [.bl (nl lots), .bl (nl kept), .fz (.int (full : Int)), .fz (.int (size : Int)), .ol ((W' ++ [e]).map eT), z5, z6, z7, z8]).bind boolOf = .ok true [.bl (nl lots), .bl (nl kept), .fz (.int (full : Int)), .fz (.int (size : Int)), .ol ((W' ++ [e]).map eT), z5, z6, z7, z8] := by
        unfold covC
        have hp : (0 : Int) < (((W' ++ [e]).map eT).length : Int) := by rw [List.length_map, List.length_append, List.length_singleton]; omega
        simp only [List.getElem?_cons_zero, List.getElem?_cons_succ, List.set_cons_zero, List.set_cons_succ, List.getD_cons_zero, List.getD_cons_succ, ob_some, om_some, b_ok, b_ex, st_ok, st_ex, sq_nx, sq_rt, sq_bk, sq_ct, sq_ex, tu_nx, tu_rt, tu_bk, tu_ct, tu_ex, varR_fz, varR_ol, varR_bl, varR_io, v_var, v_lit, v_tup, v_lst, tupK_0, tupK_1, tupK_2, tupK_3, lstK_0, lstK_1, lstK_2, lstK_3, v_p1, p1K_eq, v_p2, p2K_eq, v_and, v_or, v_not, v_ite, v_call, v_mth, mth0_some, mthK_eq, mthO_some, own_eq, ownO_ol, ownO_io, mkOwn_t, mkOwn_f, v_sl, compK_eq, compT_some, v_comp, compC_none, wipe_nil, wipe_cons, rest_nil, rest_cons, fin_ok, con_fz, con_ol, con_plc, slCon_some, scon_fz, scon_ol, scon_bl, scon_io, set_fz, set_plc, set_ol, lift_some, bool_bl, opt_int, opt_non, toV_fz, toV_ol, toV_plc, toVO_ol, V_nil, V_cons, A_nil, A_cons, I_it1, itK_tup, itK_lst, itK_ol, itK_plc, itS_ol, itS_bl, I_rng1, I_rng2, I_rng3, S_nil, S_cons, S_expr, nxK_eq, S_asg, S_asgT, asgO_some, S_aug, augO_int, augK_add, S_setix, setK_eq, setO_some, setAt_eq, setA_0, S_ite, S_for, forO_some, lock_none, lock_ol, lock_bl, S_ret, S_ret0, S_brk, S_cont, S_pass, S_raise, raiK_some, setS_eq, setSO_no, setSO_fz, setSO_ol, setSO_bl, asgR_fz, asgR_ol, asgR_plc, asgP_ol, asgP_bl, retR_fz, retR_ol, retR_plc, retP_ol, asg_v, asg1_eq, asg1O_no, asg1O_fz, asg1O_ol, asg_tp, ag_nil, ag_cons, arg_nil, arg_fz, arg_plc, argT_ol, argT_bl, argT_olf, calR_ok, calR_ex, calI_t, calI_f, calO_some, io_plc, ioO_ol, ioO_io, forC_some, endF_rt, endF_nx, endF_ex, io_f, io_t, sl_io, sl_f, sl_tl, sl_nil, o_len_t, o_len_l, o_tuple_t, o_tuple_l, o_list_t, o_list_l, o_int, o_neg, o_sum, o_any, o_all, o_max, o_isN, o_notN, o_add, o_sub, o_band, o_bor, o_lt, o_le, o_gt, o_ge, o_eq, o_ne, o_ixT, o_ixL, at_0, at_1, m_pop, m_pop0, hp, decide_true, decide_false, Bool.false_eq_true, reduceIte, Bool.not_true, Bool.not_false]
      rw [ec, st_ok, if_pos rfl, es, List.reverse_append, List.reverse_singleton, List.singleton_append, List.flatMap_cons]
      rw [mu_app] at hm hm2
      have hmu1 : mu kept.length [e] = 2 ^ (kept.length - e.2.1) := by unfold mu; simp
      have hpos : 0 < 2 ^ (kept.length - e.2.1) := Nat.pos_of_ne_zero (by simp)
      by_cases hs : e.1.length = size
      · rw [if_pos hs, ext_leaf hs, List.find?_append]
        cases hc : cvp lots full e.1 with
        | true =>
          rw [if_pos rfl, tu_rt]
          refine ⟨[.bl (nl lots), .bl (nl kept), .fz (.int (full : Int)), .fz (.int (size : Int)), .ol (W'.map eT), .fz (tT e.1), .fz (.int (e.2.1 : Int)), .fz (.int (e.2.2 : Int)), z8'], rfl, ?_⟩
          simp [hc]
        | false =>
          rw [if_neg (by simp), tu_ct]
          obtain ⟨en, hl, e2⟩ := cov_loop lots kept hk hn full size hsz k W' (.fz (tT e.1)) (.fz (.int (e.2.1 : Int))) (.fz (.int (e.2.2 : Int))) z8' (fun q hq => hW q (by simp [hq])) (by omega) (by omega) rfl rfl rfl hz8
          refine ⟨en, hl, e2.trans ?_⟩
          simp [hc]
      · have hlt : e.1.length < size := by have := he.len; omega
        rw [if_neg hs, tu_nx]
        have hmn := mu_node (n := kept.length) (kept.length - e.2.1) e.2.1 lots kept e rfl he.pl
        obtain ⟨en, hl, e2⟩ := cov_loop lots kept hk hn full size hsz k (W' ++ ((List.range' e.2.1 (kept.length - e.2.1)).map (child lots kept e)).reverse) (.fz (tT e.1)) (.fz (.int (e.2.1 : Int))) (.fz (.int (e.2.2 : Int))) z8' (fun q hq => by
            rcases List.mem_append.mp hq with hq | hq
            · exact hW q (by simp [hq])
            · obtain ⟨f, hf, rfl⟩ := List.mem_map.mp (List.mem_reverse.mp hq)
              have hf := List.mem_range'_1.mp hf
              have hpl := he.pl
              refine ⟨?_, ?_, ?_⟩
              · show f + 1 ≤ kept.length; omega
              · show (e.1 ++ [lot kept f]).length ≤ size; simp; omega
              · show e.2.2 ||| lot lots (lot kept f) = cv lots (e.1 ++ [lot kept f]); rw [cv_snoc, he.cov]) (by rw [mu_app, mu_rev]; omega) (by rw [mu_app, mu_rev]; omega) rfl rfl rfl hz8
        refine ⟨en, hl, e2.trans ?_⟩
        rw [List.reverse_append, List.reverse_reverse, List.flatMap_append]
        have en2 := ext_node (lots := lots) (kept := kept) (size := size) (kept.length - e.2.1) e.1 e.2.2 e.2.1 rfl he.pl hlt
        rw [show ext kept size e = ext kept size (e.1, e.2.1, e.2.2) from rfl, en2]
theorem cover_ok (lots kept : List Nat) (hk : ∀ k ∈ kept, k < lots.length) (hn : kept.length ≤ 7) (full size : Nat) (hsz : size < 1000) :
    evD sg Φ mk FU (sg 2) ⟨9, ir_first_cover⟩ [.lst (nl lots), .lst (nl kept), .int (full : Int), .int (size : Int)] = .ok (.fz (oT ((combos kept size).find? (cvp lots full)))) [] := by
  rw [evD_eq, show sg 2 = ⟨4, false, [true, true, false, false]⟩ from rfl]
  have e0 : ir_first_cover = (.cons (.asg (.v 4) (.lst (.cons (.tup (.cons (.tup .nil) (.cons (.lit (.int 0)) (.cons (.lit (.int 0)) .nil)))) .nil))) (.cons (.whl covC covB) (.cons (.ret (.lit .non)) .nil))) := rfl
  rw [e0]
  have hm : mu kept.length [(([] : List Nat), 0, 0)] ≤ 128 := by
    have : mu kept.length [(([] : List Nat), 0, 0)] = 2 ^ kept.length := by unfold mu; simp
    rw [this]
    exact Nat.pow_le_pow_right (by decide) hn
  obtain ⟨en, hl, e⟩ := cov_loop Φ lots kept hk hn full size hsz FU [([], 0, 0)] .no .no .no .no (fun e he => by simp at he; subst he; exact ⟨Nat.zero_le _, Nat.zero_le _, rfl⟩) (by unfold FU; omega) (by omega) rfl rfl rfl rfl
  have ex : ext kept size ([], 0, 0) = combos kept size := by unfold ext; simp
  simp only [List.reverse_singleton, List.flatMap_cons, List.flatMap_nil, List.append_nil, ex] at e
  have ei : [(([] : List Nat), 0, 0)].map eT = [.tup [.tup [], .int 0, .int 0]] := rfl
  rw [ei] at e
  simp only [sl_io, sl_f, sl_tl, sl_nil, List.length_cons, List.length_nil, List.replicate, List.cons_append, List.nil_append]
  simp only [List.getElem?_cons_zero, List.getElem?_cons_succ, List.set_cons_zero, List.set_cons_succ, List.getD_cons_zero, List.getD_cons_succ, ob_some, om_some, b_ok, b_ex, st_ok, st_ex, sq_nx, sq_rt, sq_bk, sq_ct, sq_ex, tu_nx, tu_rt, tu_bk, tu_ct, tu_ex, varR_fz, varR_ol, varR_bl, varR_io, v_var, v_lit, v_tup, v_lst, tupK_0, tupK_1, tupK_2, tupK_3, lstK_0, lstK_1, lstK_2, lstK_3, v_p1, p1K_eq, v_p2, p2K_eq, v_and, v_or, v_not, v_ite, v_call, v_mth, mth0_some, mthK_eq, mthO_some, own_eq, ownO_ol, ownO_io, mkOwn_t, mkOwn_f, v_sl, compK_eq, compT_some, v_comp, compC_none, wipe_nil, wipe_cons, rest_nil, rest_cons, fin_ok, con_fz, con_ol, con_plc, slCon_some, scon_fz, scon_ol, scon_bl, scon_io, set_fz, set_plc, set_ol, lift_some, bool_bl, opt_int, opt_non, toV_fz, toV_ol, toV_plc, toVO_ol, V_nil, V_cons, A_nil, A_cons, I_it1, itK_tup, itK_lst, itK_ol, itK_plc, itS_ol, itS_bl, I_rng1, I_rng2, I_rng3, S_nil, S_cons, S_expr, nxK_eq, S_asg, S_asgT, asgO_some, S_aug, augO_int, augK_add, S_setix, setK_eq, setO_some, setAt_eq, setA_0, S_ite, S_for, forO_some, lock_none, lock_ol, lock_bl, S_ret, S_ret0, S_brk, S_cont, S_pass, S_raise, raiK_some, setS_eq, setSO_no, setSO_fz, setSO_ol, setSO_bl, asgR_fz, asgR_ol, asgR_plc, asgP_ol, asgP_bl, retR_fz, retR_ol, retR_plc, retP_ol, asg_v, asg1_eq, asg1O_no, asg1O_fz, asg1O_ol, asg_tp, ag_nil, ag_cons, arg_nil, arg_fz, arg_plc, argT_ol, argT_bl, argT_olf, calR_ok, calR_ex, calI_t, calI_f, calO_some, io_plc, ioO_ol, ioO_io, forC_some, endF_rt, endF_nx, endF_ex, io_f, io_t, sl_io, sl_f, sl_tl, sl_nil, o_len_t, o_len_l, o_tuple_t, o_tuple_l, o_list_t, o_list_l, o_int, o_neg, o_sum, o_any, o_all, o_max, o_isN, o_notN, o_add, o_sub, o_band, o_bor, o_lt, o_le, o_gt, o_ge, o_eq, o_ne, o_ixT, o_ixL, at_0, at_1, m_pop, m_pop0, S_whl, e]
  cases (combos kept size).find? (cvp lots full) with
  | some c => simp only [List.getElem?_cons_zero, List.getElem?_cons_succ, List.set_cons_zero, List.set_cons_succ, List.getD_cons_zero, List.getD_cons_succ, ob_some, om_some, b_ok, b_ex, st_ok, st_ex, sq_nx, sq_rt, sq_bk, sq_ct, sq_ex, tu_nx, tu_rt, tu_bk, tu_ct, tu_ex, varR_fz, varR_ol, varR_bl, varR_io, v_var, v_lit, v_tup, v_lst, tupK_0, tupK_1, tupK_2, tupK_3, lstK_0, lstK_1, lstK_2, lstK_3, v_p1, p1K_eq, v_p2, p2K_eq, v_and, v_or, v_not, v_ite, v_call, v_mth, mth0_some, mthK_eq, mthO_some, own_eq, ownO_ol, ownO_io, mkOwn_t, mkOwn_f, v_sl, compK_eq, compT_some, v_comp, compC_none, wipe_nil, wipe_cons, rest_nil, rest_cons, fin_ok, con_fz, con_ol, con_plc, slCon_some, scon_fz, scon_ol, scon_bl, scon_io, set_fz, set_plc, set_ol, lift_some, bool_bl, opt_int, opt_non, toV_fz, toV_ol, toV_plc, toVO_ol, V_nil, V_cons, A_nil, A_cons, I_it1, itK_tup, itK_lst, itK_ol, itK_plc, itS_ol, itS_bl, I_rng1, I_rng2, I_rng3, S_nil, S_cons, S_expr, nxK_eq, S_asg, S_asgT, asgO_some, S_aug, augO_int, augK_add, S_setix, setK_eq, setO_some, setAt_eq, setA_0, S_ite, S_for, forO_some, lock_none, lock_ol, lock_bl, S_ret, S_ret0, S_brk, S_cont, S_pass, S_raise, raiK_some, setS_eq, setSO_no, setSO_fz, setSO_ol, setSO_bl, asgR_fz, asgR_ol, asgR_plc, asgP_ol, asgP_bl, retR_fz, retR_ol, retR_plc, retP_ol, asg_v, asg1_eq, asg1O_no, asg1O_fz, asg1O_ol, asg_tp, ag_nil, ag_cons, arg_nil, arg_fz, arg_plc, argT_ol, argT_bl, argT_olf, calR_ok, calR_ex, calI_t, calI_f, calO_some, io_plc, ioO_ol, ioO_io, forC_some, endF_rt, endF_nx, endF_ex, io_f, io_t, sl_io, sl_f, sl_tl, sl_nil, o_len_t, o_len_l, o_tuple_t, o_tuple_l, o_list_t, o_list_l, o_int, o_neg, o_sum, o_any, o_all, o_max, o_isN, o_notN, o_add, o_sub, o_band, o_bor, o_lt, o_le, o_gt, o_ge, o_eq, o_ne, o_ixT, o_ixL, at_0, at_1, m_pop, m_pop0]; rfl
  | none =>
    match en, hl with
    | [a, b, c, d, e, f, g, h, i], _ => simp only [List.getElem?_cons_zero, List.getElem?_cons_succ, List.set_cons_zero, List.set_cons_succ, List.getD_cons_zero, List.getD_cons_succ, ob_some, om_some, b_ok, b_ex, st_ok, st_ex, sq_nx, sq_rt, sq_bk, sq_ct, sq_ex, tu_nx, tu_rt, tu_bk, tu_ct, tu_ex, varR_fz, varR_ol, varR_bl, varR_io, v_var, v_lit, v_tup, v_lst, tupK_0, tupK_1, tupK_2, tupK_3, lstK_0, lstK_1, lstK_2, lstK_3, v_p1, p1K_eq, v_p2, p2K_eq, v_and, v_or, v_not, v_ite, v_call, v_mth, mth0_some, mthK_eq, mthO_some, own_eq, ownO_ol, ownO_io, mkOwn_t, mkOwn_f, v_sl, compK_eq, compT_some, v_comp, compC_none, wipe_nil, wipe_cons, rest_nil, rest_cons, fin_ok, con_fz, con_ol, con_plc, slCon_some, scon_fz, scon_ol, scon_bl, scon_io, set_fz, set_plc, set_ol, lift_some, bool_bl, opt_int, opt_non, toV_fz, toV_ol, toV_plc, toVO_ol, V_nil, V_cons, A_nil, A_cons, I_it1, itK_tup, itK_lst, itK_ol, itK_plc, itS_ol, itS_bl, I_rng1, I_rng2, I_rng3, S_nil, S_cons, S_expr, nxK_eq, S_asg, S_asgT, asgO_some, S_aug, augO_int, augK_add, S_setix, setK_eq, setO_some, setAt_eq, setA_0, S_ite, S_for, forO_some, lock_none, lock_ol, lock_bl, S_ret, S_ret0, S_brk, S_cont, S_pass, S_raise, raiK_some, setS_eq, setSO_no, setSO_fz, setSO_ol, setSO_bl, asgR_fz, asgR_ol, asgR_plc, asgP_ol, asgP_bl, retR_fz, retR_ol, retR_plc, retP_ol, asg_v, asg1_eq, asg1O_no, asg1O_fz, asg1O_ol, asg_tp, ag_nil, ag_cons, arg_nil, arg_fz, arg_plc, argT_ol, argT_bl, argT_olf, calR_ok, calR_ex, calI_t, calI_f, calO_some, io_plc, ioO_ol, ioO_io, forC_some, endF_rt, endF_nx, endF_ex, io_f, io_t, sl_io, sl_f, sl_tl, sl_nil, o_len_t, o_len_l, o_tuple_t, o_tuple_l, o_list_t, o_list_l, o_int, o_neg, o_sum, o_any, o_all, o_max, o_isN, o_notN, o_add, o_sub, o_band, o_bor, o_lt, o_le, o_gt, o_ge, o_eq, o_ne, o_ixT, o_ixL, at_0, at_1, m_pop, m_pop0]; rfl
end
end K73

set_option Elab.async false
set_option linter.all false
set_option autoImplicit false
set_option maxRecDepth 100000
set_option maxHeartbeats 1000000
namespace K73
open PySem Ev
/-! ### bits -/
def ofB : List Bool → Nat
  | [] => 0
  | b :: r => b.toNat + 2 * ofB r
theorem ofB_snoc (b : Bool) : ∀ l : List Bool, ofB (l ++ [b]) = ofB l + b.toNat * 2 ^ l.length
  | [] => by simp [ofB]
  | a :: l => by
    rw [List.cons_append, ofB, ofB_snoc b l, ofB, List.length_cons, Nat.pow_succ, Nat.mul_add, Nat.mul_comm (2 ^ l.length) 2, ← Nat.mul_assoc, ← Nat.mul_assoc, Nat.mul_comm 2 b.toNat]
    omega
theorem ofB_bit : ∀ (l : List Bool) (i : Nat), (ofB l).testBit i = l.getD i false
  | [], i => by simp [ofB]
  | b :: l, 0 => by
    rw [Nat.testBit_zero, ofB]
    cases b <;> simp <;> omega
  | b :: l, i + 1 => by
    rw [Nat.testBit_succ, ofB]
    have : (b.toNat + 2 * ofB l) / 2 = ofB l := by cases b <;> simp <;> omega
    rw [this, ofB_bit l i]
    simp
def vd (vs : List Int) (f s : Nat) : Bool := !decide (vs.getD f 0 = vs.getD s 0)
def pbits (vs : List Int) : List Bool := (List.range vs.length).flatMap fun f => (List.range' (f + 1) (vs.length - (f + 1))).map (vd vs f)
theorem at_v {vs : List Int} {f : Nat} (hf : f < vs.length) : L2.atI (il vs) (f : Int) = some (.int (vs.getD f 0)) := by
  rw [at_il hf]
  have e3 : vs.getD f 0 = vs[f] := by rw [List.getD_eq_getElem?_getD, List.getElem?_eq_getElem hf]; rfl
  rw [e3]
section
variable (Φ : Tab)
/-! ### parted_pairs -/
def ppB : S := (.cons (.ite (.p2 .ne (.p2 .ix (.var 0) (.var 3)) (.p2 .ix (.var 0) (.var 4))) (.cons (.aug 1 .add (.p2 .shl (.lit (.int 1)) (.var 2))) .nil) .nil) (.cons (.aug 2 .add (.lit (.int 1))) .nil))
theorem shl_nat (n : Nat) : (1 : Int) * 2 ^ ((n : Int)).toNat = ((2 ^ n : Nat) : Int) := by
  rw [Int.one_mul, Int.toNat_natCast]
  simp
theorem pp_step (vs : List Int) (f s : Nat) (hf : f < vs.length) (hs : s < vs.length) (bs : List Bool) (hb : bs.length < 1000) :
    evS sg Φ mk FU ppB [.fz (.tup (il vs)), .fz (.int (ofB bs : Int)), .fz (.int (bs.length : Int)), .fz (.int (f : Int)), .fz (.int (s : Int))] = .nx [.fz (.tup (il vs)), .fz (.int (ofB (bs ++ [vd vs f s]) : Int)), .fz (.int ((bs ++ [vd vs f s]).length : Int)), .fz (.int (f : Int)), .fz (.int (s : Int))] := by
  unfold ppB
  have hsh : shlOk 1 (bs.length : Int) := ⟨by omega, by omega, by decide⟩
  have el : ((bs ++ [vd vs f s]).length : Int) = (bs.length : Int) + 1 := by simp
  rw [el, ofB_snoc]
  have hv : vd vs f s = !decide (vs.getD f 0 = vs.getD s 0) := rfl
  simp only [List.getElem?_cons_zero, List.getElem?_cons_succ, List.set_cons_zero, List.set_cons_succ, List.getD_cons_zero, List.getD_cons_succ, ob_some, om_some, b_ok, b_ex, st_ok, st_ex, sq_nx, sq_rt, sq_bk, sq_ct, sq_ex, tu_nx, tu_rt, tu_bk, tu_ct, tu_ex, varR_fz, varR_ol, varR_bl, varR_io, v_var, v_lit, v_tup, v_lst, tupK_0, tupK_1, tupK_2, tupK_3, lstK_0, lstK_1, lstK_2, lstK_3, v_p1, p1K_eq, v_p2, p2K_eq, v_and, v_or, v_not, v_ite, v_call, v_mth, mth0_some, mthK_eq, mthO_some, own_eq, ownO_ol, ownO_io, mkOwn_t, mkOwn_f, v_sl, compK_eq, compT_some, v_comp, compC_none, wipe_nil, wipe_cons, rest_nil, rest_cons, fin_ok, con_fz, con_ol, con_plc, slCon_some, scon_fz, scon_ol, scon_bl, scon_io, set_fz, set_plc, set_ol, lift_some, bool_bl, opt_int, opt_non, toV_fz, toV_ol, toV_plc, toVO_ol, V_nil, V_cons, A_nil, A_cons, I_it1, itK_tup, itK_lst, itK_ol, itK_plc, itS_ol, itS_bl, I_rng1, I_rng2, I_rng3, S_nil, S_cons, S_expr, nxK_eq, S_asg, S_asgT, asgO_some, S_aug, augO_int, augK_add, S_setix, setK_eq, setO_some, setAt_eq, setA_0, S_ite, S_for, forO_some, lock_none, lock_ol, lock_bl, S_ret, S_ret0, S_brk, S_cont, S_pass, S_raise, raiK_some, setS_eq, setSO_no, setSO_fz, setSO_ol, setSO_bl, asgR_fz, asgR_ol, asgR_plc, asgP_ol, asgP_bl, retR_fz, retR_ol, retR_plc, retP_ol, asg_v, asg1_eq, asg1O_no, asg1O_fz, asg1O_ol, asg_tp, ag_nil, ag_cons, arg_nil, arg_fz, arg_plc, argT_ol, argT_bl, argT_olf, calR_ok, calR_ex, calI_t, calI_f, calO_some, io_plc, ioO_ol, ioO_io, forC_some, endF_rt, endF_nx, endF_ex, io_f, io_t, sl_io, sl_f, sl_tl, sl_nil, o_len_t, o_len_l, o_tuple_t, o_tuple_l, o_list_t, o_list_l, o_int, o_neg, o_sum, o_any, o_all, o_max, o_isN, o_notN, o_add, o_sub, o_band, o_bor, o_lt, o_le, o_gt, o_ge, o_eq, o_ne, o_ixT, o_ixL, at_0, at_1, m_pop, m_pop0, at_v hf, at_v hs]
  rw [← hv]
  cases vd vs f s with
  | true =>
    have e2 : ((ofB bs : Int) + ((2 ^ bs.length : Nat) : Int)) = ((ofB bs + true.toNat * 2 ^ bs.length : Nat) : Int) := by simp
    simp only [List.getElem?_cons_zero, List.getElem?_cons_succ, List.set_cons_zero, List.set_cons_succ, List.getD_cons_zero, List.getD_cons_succ, ob_some, om_some, b_ok, b_ex, st_ok, st_ex, sq_nx, sq_rt, sq_bk, sq_ct, sq_ex, tu_nx, tu_rt, tu_bk, tu_ct, tu_ex, varR_fz, varR_ol, varR_bl, varR_io, v_var, v_lit, v_tup, v_lst, tupK_0, tupK_1, tupK_2, tupK_3, lstK_0, lstK_1, lstK_2, lstK_3, v_p1, p1K_eq, v_p2, p2K_eq, v_and, v_or, v_not, v_ite, v_call, v_mth, mth0_some, mthK_eq, mthO_some, own_eq, ownO_ol, ownO_io, mkOwn_t, mkOwn_f, v_sl, compK_eq, compT_some, v_comp, compC_none, wipe_nil, wipe_cons, rest_nil, rest_cons, fin_ok, con_fz, con_ol, con_plc, slCon_some, scon_fz, scon_ol, scon_bl, scon_io, set_fz, set_plc, set_ol, lift_some, bool_bl, opt_int, opt_non, toV_fz, toV_ol, toV_plc, toVO_ol, V_nil, V_cons, A_nil, A_cons, I_it1, itK_tup, itK_lst, itK_ol, itK_plc, itS_ol, itS_bl, I_rng1, I_rng2, I_rng3, S_nil, S_cons, S_expr, nxK_eq, S_asg, S_asgT, asgO_some, S_aug, augO_int, augK_add, S_setix, setK_eq, setO_some, setAt_eq, setA_0, S_ite, S_for, forO_some, lock_none, lock_ol, lock_bl, S_ret, S_ret0, S_brk, S_cont, S_pass, S_raise, raiK_some, setS_eq, setSO_no, setSO_fz, setSO_ol, setSO_bl, asgR_fz, asgR_ol, asgR_plc, asgP_ol, asgP_bl, retR_fz, retR_ol, retR_plc, retP_ol, asg_v, asg1_eq, asg1O_no, asg1O_fz, asg1O_ol, asg_tp, ag_nil, ag_cons, arg_nil, arg_fz, arg_plc, argT_ol, argT_bl, argT_olf, calR_ok, calR_ex, calI_t, calI_f, calO_some, io_plc, ioO_ol, ioO_io, forC_some, endF_rt, endF_nx, endF_ex, io_f, io_t, sl_io, sl_f, sl_tl, sl_nil, o_len_t, o_len_l, o_tuple_t, o_tuple_l, o_list_t, o_list_l, o_int, o_neg, o_sum, o_any, o_all, o_max, o_isN, o_notN, o_add, o_sub, o_band, o_bor, o_lt, o_le, o_gt, o_ge, o_eq, o_ne, o_ixT, o_ixL, at_0, at_1, m_pop, m_pop0, decide_true, decide_false, Bool.false_eq_true, reduceIte, Bool.not_true, Bool.not_false, o_shl hsh, shl_nat, e2]
  | false =>
    have e2 : (ofB bs : Int) = ((ofB bs + false.toNat * 2 ^ bs.length : Nat) : Int) := by simp
    simp only [List.getElem?_cons_zero, List.getElem?_cons_succ, List.set_cons_zero, List.set_cons_succ, List.getD_cons_zero, List.getD_cons_succ, ob_some, om_some, b_ok, b_ex, st_ok, st_ex, sq_nx, sq_rt, sq_bk, sq_ct, sq_ex, tu_nx, tu_rt, tu_bk, tu_ct, tu_ex, varR_fz, varR_ol, varR_bl, varR_io, v_var, v_lit, v_tup, v_lst, tupK_0, tupK_1, tupK_2, tupK_3, lstK_0, lstK_1, lstK_2, lstK_3, v_p1, p1K_eq, v_p2, p2K_eq, v_and, v_or, v_not, v_ite, v_call, v_mth, mth0_some, mthK_eq, mthO_some, own_eq, ownO_ol, ownO_io, mkOwn_t, mkOwn_f, v_sl, compK_eq, compT_some, v_comp, compC_none, wipe_nil, wipe_cons, rest_nil, rest_cons, fin_ok, con_fz, con_ol, con_plc, slCon_some, scon_fz, scon_ol, scon_bl, scon_io, set_fz, set_plc, set_ol, lift_some, bool_bl, opt_int, opt_non, toV_fz, toV_ol, toV_plc, toVO_ol, V_nil, V_cons, A_nil, A_cons, I_it1, itK_tup, itK_lst, itK_ol, itK_plc, itS_ol, itS_bl, I_rng1, I_rng2, I_rng3, S_nil, S_cons, S_expr, nxK_eq, S_asg, S_asgT, asgO_some, S_aug, augO_int, augK_add, S_setix, setK_eq, setO_some, setAt_eq, setA_0, S_ite, S_for, forO_some, lock_none, lock_ol, lock_bl, S_ret, S_ret0, S_brk, S_cont, S_pass, S_raise, raiK_some, setS_eq, setSO_no, setSO_fz, setSO_ol, setSO_bl, asgR_fz, asgR_ol, asgR_plc, asgP_ol, asgP_bl, retR_fz, retR_ol, retR_plc, retP_ol, asg_v, asg1_eq, asg1O_no, asg1O_fz, asg1O_ol, asg_tp, ag_nil, ag_cons, arg_nil, arg_fz, arg_plc, argT_ol, argT_bl, argT_olf, calR_ok, calR_ex, calI_t, calI_f, calO_some, io_plc, ioO_ol, ioO_io, forC_some, endF_rt, endF_nx, endF_ex, io_f, io_t, sl_io, sl_f, sl_tl, sl_nil, o_len_t, o_len_l, o_tuple_t, o_tuple_l, o_list_t, o_list_l, o_int, o_neg, o_sum, o_any, o_all, o_max, o_isN, o_notN, o_add, o_sub, o_band, o_bor, o_lt, o_le, o_gt, o_ge, o_eq, o_ne, o_ixT, o_ixL, at_0, at_1, m_pop, m_pop0, decide_true, decide_false, Bool.false_eq_true, reduceIte, Bool.not_true, Bool.not_false]
    rw [← e2]
theorem pp_in (vs : List Int) (f : Nat) (hf : f < vs.length) : ∀ (ss : List Nat) (bs : List Bool) (z : Sl), (∀ s ∈ ss, s < vs.length) → bs.length + ss.length < 1000 → z.isIo = false →
    ∃ z', z'.isIo = false ∧ forL (asgT (.v 4)) (evS sg Φ mk FU ppB) (nl ss) [.fz (.tup (il vs)), .fz (.int (ofB bs : Int)), .fz (.int (bs.length : Int)), .fz (.int (f : Int)), z] = .nx [.fz (.tup (il vs)), .fz (.int (ofB (bs ++ ss.map (vd vs f)) : Int)), .fz (.int ((bs ++ ss.map (vd vs f)).length : Int)), .fz (.int (f : Int)), z']
  | [], bs, z, _, _, hz => ⟨z, hz, by simp [nl, for_nil]⟩
  | s :: r, bs, z, hs, hl, hz => by
    have e1 : asgT (.v 4) (.int (s : Int)) [.fz (.tup (il vs)), .fz (.int (ofB bs : Int)), .fz (.int (bs.length : Int)), .fz (.int (f : Int)), z] = some [.fz (.tup (il vs)), .fz (.int (ofB bs : Int)), .fz (.int (bs.length : Int)), .fz (.int (f : Int)), .fz (.int (s : Int))] := by
      rw [asgT]
      cases z <;> first | rfl | (cases hz; done)
    obtain ⟨z', hz', e⟩ := pp_in vs f hf r (bs ++ [vd vs f s]) (.fz (.int (s : Int))) (fun q hq => hs q (List.mem_cons_of_mem _ hq)) (by simp at hl ⊢; omega) rfl
    refine ⟨z', hz', ?_⟩
    rw [show nl (s :: r) = .int (s : Int) :: nl r from rfl, for_cons, e1, forC_some, pp_step Φ vs f s hf (hs s (List.mem_cons_self ..)) bs (by simp at hl; omega), tu_nx, e]
    simp
def ppO (vs : List Int) (fs : List Nat) : List Bool := fs.flatMap fun f => (List.range' (f + 1) (vs.length - (f + 1))).map (vd vs f)
theorem pp_out (vs : List Int) (hv : vs.length ≤ 10) : ∀ (fs : List Nat) (bs : List Bool) (z z4 : Sl), (∀ f ∈ fs, f < vs.length) → bs.length + 10 * fs.length < 900 → z.isIo = false → z4.isIo = false →
    ∃ z' z4', forL (asgT (.v 3)) (evS sg Φ mk FU (.cons (.for (.v 4) (.rng2 (.p2 .add (.var 3) (.lit (.int 1))) (.p1 .len (.var 0))) ppB) .nil)) (nl fs) [.fz (.tup (il vs)), .fz (.int (ofB bs : Int)), .fz (.int (bs.length : Int)), z, z4] = .nx [.fz (.tup (il vs)), .fz (.int (ofB (bs ++ ppO vs fs) : Int)), .fz (.int ((bs ++ ppO vs fs).length : Int)), z', z4']
  | [], bs, z, z4, _, _, _, _ => ⟨z, z4, by simp [nl, for_nil, ppO]⟩
  | f :: r, bs, z, z4, hf, hl, hz, hz4 => by
    have hf0 := hf f (List.mem_cons_self ..)
    have e1 : asgT (.v 3) (.int (f : Int)) [.fz (.tup (il vs)), .fz (.int (ofB bs : Int)), .fz (.int (bs.length : Int)), z, z4] = some [.fz (.tup (il vs)), .fz (.int (ofB bs : Int)), .fz (.int (bs.length : Int)), .fz (.int (f : Int)), z4] := by
      rw [asgT]
      cases z <;> first | rfl | (cases hz; done)
    obtain ⟨z', hz', e⟩ := pp_in Φ vs f hf0 (List.range' (f + 1) (vs.length - (f + 1))) bs z4 (fun s hs => by have := List.mem_range'_1.mp hs; omega) (by simp at hl ⊢; omega) hz4
    have b1 : inBig ((f : Int) + 1) = true := by unfold inBig; exact decide_eq_true (by omega)
    have b2 : inBig (vs.length : Int) = true := by unfold inBig; exact decide_eq_true (by omega)
    have ei : rangeI ((f : Int) + 1) ((vs.length : Int) - ((f : Int) + 1)).toNat = nl (List.range' (f + 1) (vs.length - (f + 1))) := by
      rw [show ((vs.length : Int) - ((f : Int) + 1)).toNat = vs.length - (f + 1) by omega, show ((f : Int) + 1) = ((f + 1 : Nat) : Int) by omega, rangeI_nl]
    have ek : ((il vs).length : Int) = (vs.length : Int) := by rw [il_len]
    obtain ⟨y, y4, e2⟩ := pp_out vs hv r (bs ++ (List.range' (f + 1) (vs.length - (f + 1))).map (vd vs f)) (.fz (.int (f : Int))) z' (fun q hq => hf q (List.mem_cons_of_mem _ hq)) (by simp at hl ⊢; omega) rfl hz'
    refine ⟨y, y4, ?_⟩
    rw [show nl (f :: r) = .int (f : Int) :: nl r from rfl, for_cons, e1]
    simp only [List.getElem?_cons_zero, List.getElem?_cons_succ, List.set_cons_zero, List.set_cons_succ, List.getD_cons_zero, List.getD_cons_succ, ob_some, om_some, b_ok, b_ex, st_ok, st_ex, sq_nx, sq_rt, sq_bk, sq_ct, sq_ex, tu_nx, tu_rt, tu_bk, tu_ct, tu_ex, varR_fz, varR_ol, varR_bl, varR_io, v_var, v_lit, v_tup, v_lst, tupK_0, tupK_1, tupK_2, tupK_3, lstK_0, lstK_1, lstK_2, lstK_3, v_p1, p1K_eq, v_p2, p2K_eq, v_and, v_or, v_not, v_ite, v_call, v_mth, mth0_some, mthK_eq, mthO_some, own_eq, ownO_ol, ownO_io, mkOwn_t, mkOwn_f, v_sl, compK_eq, compT_some, v_comp, compC_none, wipe_nil, wipe_cons, rest_nil, rest_cons, fin_ok, con_fz, con_ol, con_plc, slCon_some, scon_fz, scon_ol, scon_bl, scon_io, set_fz, set_plc, set_ol, lift_some, bool_bl, opt_int, opt_non, toV_fz, toV_ol, toV_plc, toVO_ol, V_nil, V_cons, A_nil, A_cons, I_it1, itK_tup, itK_lst, itK_ol, itK_plc, itS_ol, itS_bl, I_rng1, I_rng2, I_rng3, S_nil, S_cons, S_expr, nxK_eq, S_asg, S_asgT, asgO_some, S_aug, augO_int, augK_add, S_setix, setK_eq, setO_some, setAt_eq, setA_0, S_ite, S_for, forO_some, lock_none, lock_ol, lock_bl, S_ret, S_ret0, S_brk, S_cont, S_pass, S_raise, raiK_some, setS_eq, setSO_no, setSO_fz, setSO_ol, setSO_bl, asgR_fz, asgR_ol, asgR_plc, asgP_ol, asgP_bl, retR_fz, retR_ol, retR_plc, retP_ol, asg_v, asg1_eq, asg1O_no, asg1O_fz, asg1O_ol, asg_tp, ag_nil, ag_cons, arg_nil, arg_fz, arg_plc, argT_ol, argT_bl, argT_olf, calR_ok, calR_ex, calI_t, calI_f, calO_some, io_plc, ioO_ol, ioO_io, forC_some, endF_rt, endF_nx, endF_ex, io_f, io_t, sl_io, sl_f, sl_tl, sl_nil, o_len_t, o_len_l, o_tuple_t, o_tuple_l, o_list_t, o_list_l, o_int, o_neg, o_sum, o_any, o_all, o_max, o_isN, o_notN, o_add, o_sub, o_band, o_bor, o_lt, o_le, o_gt, o_ge, o_eq, o_ne, o_ixT, o_ixL, at_0, at_1, m_pop, m_pop0, ek, rg2_ok b1 b2, ei, e]
    rw [e2]
    simp [ppO]
theorem pp_ok (vs : List Int) (hv : vs.length ≤ 10) : evD sg Φ mk FU (sg 0) ⟨5, ir_parted_pairs⟩ [.tup (il vs)] = .ok (.fz (.int (ofB (pbits vs) : Int))) [] := by
  rw [evD_eq, show sg 0 = ⟨1, false, [false]⟩ from rfl]
  have e0 : ir_parted_pairs = (.cons (.asg (.v 1) (.lit (.int 0))) (.cons (.asg (.v 2) (.lit (.int 0))) (.cons (.for (.v 3) (.rng1 (.p1 .len (.var 0))) (.cons (.for (.v 4) (.rng2 (.p2 .add (.var 3) (.lit (.int 1))) (.p1 .len (.var 0))) ppB) .nil)) (.cons (.ret (.var 1)) .nil)))) := rfl
  rw [e0]
  have ek : ((il vs).length : Int) = (vs.length : Int) := by rw [il_len]
  have b2 : inBig (vs.length : Int) = true := by unfold inBig; exact decide_eq_true (by omega)
  obtain ⟨y, y4, e2⟩ := pp_out Φ vs hv (List.range vs.length) [] .no .no (fun f hf => List.mem_range.mp hf) (by simp; omega) rfl rfl
  have ez : ((ofB [] : Nat) : Int) = 0 := rfl
  have el : ((([] : List Bool).length : Nat) : Int) = 0 := rfl
  rw [ez, el, ← rangeI_nl0] at e2
  simp only [sl_io, sl_f, sl_tl, sl_nil, List.length_cons, List.length_nil, List.replicate, List.cons_append, List.nil_append]
  simp only [List.getElem?_cons_zero, List.getElem?_cons_succ, List.set_cons_zero, List.set_cons_succ, List.getD_cons_zero, List.getD_cons_succ, ob_some, om_some, b_ok, b_ex, st_ok, st_ex, sq_nx, sq_rt, sq_bk, sq_ct, sq_ex, tu_nx, tu_rt, tu_bk, tu_ct, tu_ex, varR_fz, varR_ol, varR_bl, varR_io, v_var, v_lit, v_tup, v_lst, tupK_0, tupK_1, tupK_2, tupK_3, lstK_0, lstK_1, lstK_2, lstK_3, v_p1, p1K_eq, v_p2, p2K_eq, v_and, v_or, v_not, v_ite, v_call, v_mth, mth0_some, mthK_eq, mthO_some, own_eq, ownO_ol, ownO_io, mkOwn_t, mkOwn_f, v_sl, compK_eq, compT_some, v_comp, compC_none, wipe_nil, wipe_cons, rest_nil, rest_cons, fin_ok, con_fz, con_ol, con_plc, slCon_some, scon_fz, scon_ol, scon_bl, scon_io, set_fz, set_plc, set_ol, lift_some, bool_bl, opt_int, opt_non, toV_fz, toV_ol, toV_plc, toVO_ol, V_nil, V_cons, A_nil, A_cons, I_it1, itK_tup, itK_lst, itK_ol, itK_plc, itS_ol, itS_bl, I_rng1, I_rng2, I_rng3, S_nil, S_cons, S_expr, nxK_eq, S_asg, S_asgT, asgO_some, S_aug, augO_int, augK_add, S_setix, setK_eq, setO_some, setAt_eq, setA_0, S_ite, S_for, forO_some, lock_none, lock_ol, lock_bl, S_ret, S_ret0, S_brk, S_cont, S_pass, S_raise, raiK_some, setS_eq, setSO_no, setSO_fz, setSO_ol, setSO_bl, asgR_fz, asgR_ol, asgR_plc, asgP_ol, asgP_bl, retR_fz, retR_ol, retR_plc, retP_ol, asg_v, asg1_eq, asg1O_no, asg1O_fz, asg1O_ol, asg_tp, ag_nil, ag_cons, arg_nil, arg_fz, arg_plc, argT_ol, argT_bl, argT_olf, calR_ok, calR_ex, calI_t, calI_f, calO_some, io_plc, ioO_ol, ioO_io, forC_some, endF_rt, endF_nx, endF_ex, io_f, io_t, sl_io, sl_f, sl_tl, sl_nil, o_len_t, o_len_l, o_tuple_t, o_tuple_l, o_list_t, o_list_l, o_int, o_neg, o_sum, o_any, o_all, o_max, o_isN, o_notN, o_add, o_sub, o_band, o_bor, o_lt, o_le, o_gt, o_ge, o_eq, o_ne, o_ixT, o_ixL, at_0, at_1, m_pop, m_pop0, ek, rg1_ok b2, Int.toNat_natCast, e2]
  rfl
/-! ### parted_from -/
def fbits (vs : List Int) (t : Nat) : List Bool := (List.range vs.length).map fun o => vd vs o t
def fsum (vs : List Int) (t : Nat) (os : List Nat) : List Int := (os.filter fun o => vd vs o t).map fun o => ((2 ^ o : Nat) : Int)
theorem fsum_ofB (vs : List Int) (t : Nat) : ∀ n : Nat, (fsum vs t (List.range n)).sum = ((ofB ((List.range n).map fun o => vd vs o t) : Nat) : Int)
  | 0 => rfl
  | n + 1 => by
    rw [List.range_succ, List.map_append, List.map_singleton, ofB_snoc, List.length_map, List.length_range]
    unfold fsum
    rw [List.filter_append, List.map_append, List.sum_append]
    have ih := fsum_ofB vs t n
    unfold fsum at ih
    rw [ih]
    cases h : vd vs n t <;> simp [List.filter, h]
theorem pf_loop (vs : List Int) (t : Nat) (ht : t < vs.length) : ∀ (os : List Nat) (acc : List Int) (z : Sl), (∀ o ∈ os, o < vs.length ∧ o < 1000) → acc.length + os.length < 1000 → z.isIo = false →
    ∃ z', compL (compK sg Φ (.p2 .shl (.lit (.int 1)) (.var 2)) (.v 2) (.p2 .ne (.p2 .ix (.var 0) (.var 2)) (.p2 .ix (.var 0) (.var 1)))) none [2] (nl os) (il acc) [.fz (.tup (il vs)), .fz (.int (t : Int)), z] = .ok (il (acc ++ fsum vs t os)) [.fz (.tup (il vs)), .fz (.int (t : Int)), z']
  | [], acc, z, _, _, _ => ⟨z, by simp [nl, comp_nil, fsum]⟩
  | o :: r, acc, z, ho, hl, hz => by
    obtain ⟨h1, h2⟩ := ho o (List.mem_cons_self ..)
    have hsh : shlOk 1 (o : Int) := ⟨by omega, by omega, by decide⟩
    have b1 : (il acc).length < sizeLine := by rw [il_len, sizeLine_eq]; simp at hl; omega
    have hv : vd vs o t = !decide (vs.getD o 0 = vs.getD t 0) := rfl
    rw [show nl (o :: r) = .int (o : Int) :: nl r from rfl, comp_cons]
    simp only [List.getElem?_cons_zero, List.getElem?_cons_succ, List.set_cons_zero, List.set_cons_succ, List.getD_cons_zero, List.getD_cons_succ, ob_some, om_some, b_ok, b_ex, st_ok, st_ex, sq_nx, sq_rt, sq_bk, sq_ct, sq_ex, tu_nx, tu_rt, tu_bk, tu_ct, tu_ex, varR_fz, varR_ol, varR_bl, varR_io, v_var, v_lit, v_tup, v_lst, tupK_0, tupK_1, tupK_2, tupK_3, lstK_0, lstK_1, lstK_2, lstK_3, v_p1, p1K_eq, v_p2, p2K_eq, v_and, v_or, v_not, v_ite, v_call, v_mth, mth0_some, mthK_eq, mthO_some, own_eq, ownO_ol, ownO_io, mkOwn_t, mkOwn_f, v_sl, compK_eq, compT_some, v_comp, compC_none, wipe_nil, wipe_cons, rest_nil, rest_cons, fin_ok, con_fz, con_ol, con_plc, slCon_some, scon_fz, scon_ol, scon_bl, scon_io, set_fz, set_plc, set_ol, lift_some, bool_bl, opt_int, opt_non, toV_fz, toV_ol, toV_plc, toVO_ol, V_nil, V_cons, A_nil, A_cons, I_it1, itK_tup, itK_lst, itK_ol, itK_plc, itS_ol, itS_bl, I_rng1, I_rng2, I_rng3, S_nil, S_cons, S_expr, nxK_eq, S_asg, S_asgT, asgO_some, S_aug, augO_int, augK_add, S_setix, setK_eq, setO_some, setAt_eq, setA_0, S_ite, S_for, forO_some, lock_none, lock_ol, lock_bl, S_ret, S_ret0, S_brk, S_cont, S_pass, S_raise, raiK_some, setS_eq, setSO_no, setSO_fz, setSO_ol, setSO_bl, asgR_fz, asgR_ol, asgR_plc, asgP_ol, asgP_bl, retR_fz, retR_ol, retR_plc, retP_ol, asg_v, asg1_eq, asg1O_no, asg1O_fz, asg1O_ol, asg_tp, ag_nil, ag_cons, arg_nil, arg_fz, arg_plc, argT_ol, argT_bl, argT_olf, calR_ok, calR_ex, calI_t, calI_f, calO_some, io_plc, ioO_ol, ioO_io, forC_some, endF_rt, endF_nx, endF_ex, io_f, io_t, sl_io, sl_f, sl_tl, sl_nil, o_len_t, o_len_l, o_tuple_t, o_tuple_l, o_list_t, o_list_l, o_int, o_neg, o_sum, o_any, o_all, o_max, o_isN, o_notN, o_add, o_sub, o_band, o_bor, o_lt, o_le, o_gt, o_ge, o_eq, o_ne, o_ixT, o_ixL, at_0, at_1, m_pop, m_pop0, at_v h1, at_v ht]
    rw [← hv]
    cases hvd : vd vs o t with
    | true =>
      obtain ⟨z', e⟩ := pf_loop vs t ht r (acc ++ [((2 ^ o : Nat) : Int)]) (.fz (.int (o : Int))) (fun q hq => ho q (List.mem_cons_of_mem _ hq)) (by simp at hl ⊢; omega) rfl
      refine ⟨z', ?_⟩
      simp only [List.getElem?_cons_zero, List.getElem?_cons_succ, List.set_cons_zero, List.set_cons_succ, List.getD_cons_zero, List.getD_cons_succ, ob_some, om_some, b_ok, b_ex, st_ok, st_ex, sq_nx, sq_rt, sq_bk, sq_ct, sq_ex, tu_nx, tu_rt, tu_bk, tu_ct, tu_ex, varR_fz, varR_ol, varR_bl, varR_io, v_var, v_lit, v_tup, v_lst, tupK_0, tupK_1, tupK_2, tupK_3, lstK_0, lstK_1, lstK_2, lstK_3, v_p1, p1K_eq, v_p2, p2K_eq, v_and, v_or, v_not, v_ite, v_call, v_mth, mth0_some, mthK_eq, mthO_some, own_eq, ownO_ol, ownO_io, mkOwn_t, mkOwn_f, v_sl, compK_eq, compT_some, v_comp, compC_none, wipe_nil, wipe_cons, rest_nil, rest_cons, fin_ok, con_fz, con_ol, con_plc, slCon_some, scon_fz, scon_ol, scon_bl, scon_io, set_fz, set_plc, set_ol, lift_some, bool_bl, opt_int, opt_non, toV_fz, toV_ol, toV_plc, toVO_ol, V_nil, V_cons, A_nil, A_cons, I_it1, itK_tup, itK_lst, itK_ol, itK_plc, itS_ol, itS_bl, I_rng1, I_rng2, I_rng3, S_nil, S_cons, S_expr, nxK_eq, S_asg, S_asgT, asgO_some, S_aug, augO_int, augK_add, S_setix, setK_eq, setO_some, setAt_eq, setA_0, S_ite, S_for, forO_some, lock_none, lock_ol, lock_bl, S_ret, S_ret0, S_brk, S_cont, S_pass, S_raise, raiK_some, setS_eq, setSO_no, setSO_fz, setSO_ol, setSO_bl, asgR_fz, asgR_ol, asgR_plc, asgP_ol, asgP_bl, retR_fz, retR_ol, retR_plc, retP_ol, asg_v, asg1_eq, asg1O_no, asg1O_fz, asg1O_ol, asg_tp, ag_nil, ag_cons, arg_nil, arg_fz, arg_plc, argT_ol, argT_bl, argT_olf, calR_ok, calR_ex, calI_t, calI_f, calO_some, io_plc, ioO_ol, ioO_io, forC_some, endF_rt, endF_nx, endF_ex, io_f, io_t, sl_io, sl_f, sl_tl, sl_nil, o_len_t, o_len_l, o_tuple_t, o_tuple_l, o_list_t, o_list_l, o_int, o_neg, o_sum, o_any, o_all, o_max, o_isN, o_notN, o_add, o_sub, o_band, o_bor, o_lt, o_le, o_gt, o_ge, o_eq, o_ne, o_ixT, o_ixL, at_0, at_1, m_pop, m_pop0, decide_true, decide_false, Bool.false_eq_true, reduceIte, Bool.not_true, Bool.not_false, o_shl hsh, shl_nat, compC_some b1, il_app]
      rw [e]
      simp [fsum, List.filter_cons, hvd]
    | false =>
      obtain ⟨z', e⟩ := pf_loop vs t ht r acc (.fz (.int (o : Int))) (fun q hq => ho q (List.mem_cons_of_mem _ hq)) (by simp at hl ⊢; omega) rfl
      refine ⟨z', ?_⟩
      simp only [List.getElem?_cons_zero, List.getElem?_cons_succ, List.set_cons_zero, List.set_cons_succ, List.getD_cons_zero, List.getD_cons_succ, ob_some, om_some, b_ok, b_ex, st_ok, st_ex, sq_nx, sq_rt, sq_bk, sq_ct, sq_ex, tu_nx, tu_rt, tu_bk, tu_ct, tu_ex, varR_fz, varR_ol, varR_bl, varR_io, v_var, v_lit, v_tup, v_lst, tupK_0, tupK_1, tupK_2, tupK_3, lstK_0, lstK_1, lstK_2, lstK_3, v_p1, p1K_eq, v_p2, p2K_eq, v_and, v_or, v_not, v_ite, v_call, v_mth, mth0_some, mthK_eq, mthO_some, own_eq, ownO_ol, ownO_io, mkOwn_t, mkOwn_f, v_sl, compK_eq, compT_some, v_comp, compC_none, wipe_nil, wipe_cons, rest_nil, rest_cons, fin_ok, con_fz, con_ol, con_plc, slCon_some, scon_fz, scon_ol, scon_bl, scon_io, set_fz, set_plc, set_ol, lift_some, bool_bl, opt_int, opt_non, toV_fz, toV_ol, toV_plc, toVO_ol, V_nil, V_cons, A_nil, A_cons, I_it1, itK_tup, itK_lst, itK_ol, itK_plc, itS_ol, itS_bl, I_rng1, I_rng2, I_rng3, S_nil, S_cons, S_expr, nxK_eq, S_asg, S_asgT, asgO_some, S_aug, augO_int, augK_add, S_setix, setK_eq, setO_some, setAt_eq, setA_0, S_ite, S_for, forO_some, lock_none, lock_ol, lock_bl, S_ret, S_ret0, S_brk, S_cont, S_pass, S_raise, raiK_some, setS_eq, setSO_no, setSO_fz, setSO_ol, setSO_bl, asgR_fz, asgR_ol, asgR_plc, asgP_ol, asgP_bl, retR_fz, retR_ol, retR_plc, retP_ol, asg_v, asg1_eq, asg1O_no, asg1O_fz, asg1O_ol, asg_tp, ag_nil, ag_cons, arg_nil, arg_fz, arg_plc, argT_ol, argT_bl, argT_olf, calR_ok, calR_ex, calI_t, calI_f, calO_some, io_plc, ioO_ol, ioO_io, forC_some, endF_rt, endF_nx, endF_ex, io_f, io_t, sl_io, sl_f, sl_tl, sl_nil, o_len_t, o_len_l, o_tuple_t, o_tuple_l, o_list_t, o_list_l, o_int, o_neg, o_sum, o_any, o_all, o_max, o_isN, o_notN, o_add, o_sub, o_band, o_bor, o_lt, o_le, o_gt, o_ge, o_eq, o_ne, o_ixT, o_ixL, at_0, at_1, m_pop, m_pop0, decide_true, decide_false, Bool.false_eq_true, reduceIte, Bool.not_true, Bool.not_false]
      rw [e]
      simp [fsum, List.filter_cons, hvd]
theorem pf_ok (vs : List Int) (hv : vs.length ≤ 10) (t : Nat) (ht : t < vs.length) : evD sg Φ mk FU (sg 4) ⟨3, ir_parted_from⟩ [.tup (il vs), .int (t : Int)] = .ok (.fz (.int (ofB (fbits vs t) : Int))) [] := by
  rw [evD_eq, show sg 4 = ⟨2, false, [false, false]⟩ from rfl]
  unfold ir_parted_from
  have ek : ((il vs).length : Int) = (vs.length : Int) := by rw [il_len]
  have b2 : inBig (vs.length : Int) = true := by unfold inBig; exact decide_eq_true (by omega)
  obtain ⟨z', e⟩ := pf_loop Φ vs t ht (List.range vs.length) [] .no (fun o ho => by have := List.mem_range.mp ho; omega) (by simp; omega) rfl
  rw [show il [] = [] from rfl, List.nil_append, ← rangeI_nl0] at e
  have es := fsum_ofB vs t vs.length
  simp only [sl_io, sl_f, sl_tl, sl_nil, List.length_cons, List.length_nil, List.replicate, List.cons_append, List.nil_append]
  simp only [List.getElem?_cons_zero, List.getElem?_cons_succ, List.set_cons_zero, List.set_cons_succ, List.getD_cons_zero, List.getD_cons_succ, ob_some, om_some, b_ok, b_ex, st_ok, st_ex, sq_nx, sq_rt, sq_bk, sq_ct, sq_ex, tu_nx, tu_rt, tu_bk, tu_ct, tu_ex, varR_fz, varR_ol, varR_bl, varR_io, v_var, v_lit, v_tup, v_lst, tupK_0, tupK_1, tupK_2, tupK_3, lstK_0, lstK_1, lstK_2, lstK_3, v_p1, p1K_eq, v_p2, p2K_eq, v_and, v_or, v_not, v_ite, v_call, v_mth, mth0_some, mthK_eq, mthO_some, own_eq, ownO_ol, ownO_io, mkOwn_t, mkOwn_f, v_sl, compK_eq, compT_some, v_comp, compC_none, wipe_nil, wipe_cons, rest_nil, rest_cons, fin_ok, con_fz, con_ol, con_plc, slCon_some, scon_fz, scon_ol, scon_bl, scon_io, set_fz, set_plc, set_ol, lift_some, bool_bl, opt_int, opt_non, toV_fz, toV_ol, toV_plc, toVO_ol, V_nil, V_cons, A_nil, A_cons, I_it1, itK_tup, itK_lst, itK_ol, itK_plc, itS_ol, itS_bl, I_rng1, I_rng2, I_rng3, S_nil, S_cons, S_expr, nxK_eq, S_asg, S_asgT, asgO_some, S_aug, augO_int, augK_add, S_setix, setK_eq, setO_some, setAt_eq, setA_0, S_ite, S_for, forO_some, lock_none, lock_ol, lock_bl, S_ret, S_ret0, S_brk, S_cont, S_pass, S_raise, raiK_some, setS_eq, setSO_no, setSO_fz, setSO_ol, setSO_bl, asgR_fz, asgR_ol, asgR_plc, asgP_ol, asgP_bl, retR_fz, retR_ol, retR_plc, retP_ol, asg_v, asg1_eq, asg1O_no, asg1O_fz, asg1O_ol, asg_tp, ag_nil, ag_cons, arg_nil, arg_fz, arg_plc, argT_ol, argT_bl, argT_olf, calR_ok, calR_ex, calI_t, calI_f, calO_some, io_plc, ioO_ol, ioO_io, forC_some, endF_rt, endF_nx, endF_ex, io_f, io_t, sl_io, sl_f, sl_tl, sl_nil, o_len_t, o_len_l, o_tuple_t, o_tuple_l, o_list_t, o_list_l, o_int, o_neg, o_sum, o_any, o_all, o_max, o_isN, o_notN, o_add, o_sub, o_band, o_bor, o_lt, o_le, o_gt, o_ge, o_eq, o_ne, o_ixT, o_ixL, at_0, at_1, m_pop, m_pop0, ek, rg1_ok b2, Int.toNat_natCast]
  rw [compE_eq (by rfl)]
  simp only [e]
  unfold il
  simp only [List.getElem?_cons_zero, List.getElem?_cons_succ, List.set_cons_zero, List.set_cons_succ, List.getD_cons_zero, List.getD_cons_succ, ob_some, om_some, b_ok, b_ex, st_ok, st_ex, sq_nx, sq_rt, sq_bk, sq_ct, sq_ex, tu_nx, tu_rt, tu_bk, tu_ct, tu_ex, varR_fz, varR_ol, varR_bl, varR_io, v_var, v_lit, v_tup, v_lst, tupK_0, tupK_1, tupK_2, tupK_3, lstK_0, lstK_1, lstK_2, lstK_3, v_p1, p1K_eq, v_p2, p2K_eq, v_and, v_or, v_not, v_ite, v_call, v_mth, mth0_some, mthK_eq, mthO_some, own_eq, ownO_ol, ownO_io, mkOwn_t, mkOwn_f, v_sl, compK_eq, compT_some, v_comp, compC_none, wipe_nil, wipe_cons, rest_nil, rest_cons, fin_ok, con_fz, con_ol, con_plc, slCon_some, scon_fz, scon_ol, scon_bl, scon_io, set_fz, set_plc, set_ol, lift_some, bool_bl, opt_int, opt_non, toV_fz, toV_ol, toV_plc, toVO_ol, V_nil, V_cons, A_nil, A_cons, I_it1, itK_tup, itK_lst, itK_ol, itK_plc, itS_ol, itS_bl, I_rng1, I_rng2, I_rng3, S_nil, S_cons, S_expr, nxK_eq, S_asg, S_asgT, asgO_some, S_aug, augO_int, augK_add, S_setix, setK_eq, setO_some, setAt_eq, setA_0, S_ite, S_for, forO_some, lock_none, lock_ol, lock_bl, S_ret, S_ret0, S_brk, S_cont, S_pass, S_raise, raiK_some, setS_eq, setSO_no, setSO_fz, setSO_ol, setSO_bl, asgR_fz, asgR_ol, asgR_plc, asgP_ol, asgP_bl, retR_fz, retR_ol, retR_plc, retP_ol, asg_v, asg1_eq, asg1O_no, asg1O_fz, asg1O_ol, asg_tp, ag_nil, ag_cons, arg_nil, arg_fz, arg_plc, argT_ol, argT_bl, argT_olf, calR_ok, calR_ex, calI_t, calI_f, calO_some, io_plc, ioO_ol, ioO_io, forC_some, endF_rt, endF_nx, endF_ex, io_f, io_t, sl_io, sl_f, sl_tl, sl_nil, o_len_t, o_len_l, o_tuple_t, o_tuple_l, o_list_t, o_list_l, o_int, o_neg, o_sum, o_any, o_all, o_max, o_isN, o_notN, o_add, o_sub, o_band, o_bor, o_lt, o_le, o_gt, o_ge, o_eq, o_ne, o_ixT, o_ixL, at_0, at_1, m_pop, m_pop0, o_sum, es]
  rfl
end
end K73

set_option Elab.async false
set_option linter.all false
set_option autoImplicit false
set_option maxRecDepth 100000
set_option maxHeartbeats 1000000
namespace K73
open PySem Ev
def orAll (lots : List Nat) : Nat := lots.foldl (fun c l => c ||| l) 0
def searchR (lots : List Nat) (full : Nat) : Option (List Nat) := if orAll lots = full then hit (cvp lots full) (combos (und lots lots.length)) (und lots lots.length).length else none
def fullP (m : Nat) : Nat := 2 ^ (m * (m - 1) / 2) - 1
def fullT (m t : Nat) : Nat := 2 ^ m - 1 - 2 ^ t
def H0 (Φ : Tab) : Prop := ∀ vs : List Int, vs.length ≤ 10 → Φ 0 [.tup (il vs)] = .ok (.fz (.int (ofB (pbits vs) : Int))) []
def H1 (Φ : Tab) : Prop := ∀ lots : List Nat, lots.length ≤ 7 → Φ 1 [.lst (nl lots)] = .ok (.ol (nl (und lots lots.length))) []
def H2 (Φ : Tab) : Prop := ∀ (lots kept : List Nat), (∀ k ∈ kept, k < lots.length) → kept.length ≤ 7 → ∀ full size : Nat, size < 1000 → Φ 2 [.lst (nl lots), .lst (nl kept), .int (full : Int), .int (size : Int)] = .ok (.fz (oT ((combos kept size).find? (cvp lots full)))) []
def H4 (Φ : Tab) : Prop := ∀ vs : List Int, vs.length ≤ 10 → ∀ t : Nat, t < vs.length → Φ 4 [.tup (il vs), .int (t : Int)] = .ok (.fz (.int (ofB (fbits vs t) : Int))) []
theorem und_lt (lots : List Nat) : ∀ k ∈ und lots lots.length, k < lots.length := (und_kept lots lots.length).lt
theorem und_len (lots : List Nat) : (und lots lots.length).length ≤ lots.length := by
  have := (sub_of (und_kept lots lots.length).si (List.pairwise_lt_range (n := lots.length)) fun x hx => List.mem_range.mpr (und_lt lots x hx)).length_le
  simpa using this
theorem oT_non (o : Option (List Nat)) : decide (oT o = .non) = o.isNone := by
  cases o with
  | none => rfl
  | some c => exact decide_eq_false (by unfold oT tT; intro z; cases z)
def lotP (a : Ask) : Nat := ofB (pbits a.1)
def lotF (t : Nat) (a : Ask) : Nat := ofB (fbits a.1 t)
theorem nl_map {α : Type} (f : α → Nat) (l : List α) (x : α) : nl (l.map f) ++ [.int (f x : Int)] = nl ((l ++ [x]).map f) := by unfold nl; simp
section
variable (Φ : Tab)

/-! least -/
theorem lots_least (h : H0 Φ) (many : T) (as0 : List Ask) (A B C D E F G : Sl) : ∀ (as : List Ask) (acc : List Ask) (zv zl : Sl), (∀ a ∈ as, a.1.length ≤ 10 ) → acc.length + as.length < 1000 → zv.isIo = false → zl.isIo = false →
    ∃ zv' zl', compL (compK sg Φ (.call 0 (.cons (.var 3) .nil)) (.tp (.cons (.v 3) (.cons (.v 4) .nil))) (.lit (.bl true))) none [3, 4] (as.map askT) (nl (acc.map lotP)) [.fz (asksT as0), .fz many, A, zv, zl, B, C, D, E, F, G] = .ok (nl ((acc ++ as).map lotP)) [.fz (asksT as0), .fz many, A, zv', zl', B, C, D, E, F, G]
  | [], acc, zv, zl, _, _, _, _ => ⟨zv, zl, by simp [comp_nil]⟩
  | a :: r, acc, zv, zl, ha, hl, hv, hz => by
    obtain h10 := ha a (List.mem_cons_self ..)
    have b1 : (nl (acc.map lotP)).length < sizeLine := by rw [nl_len, sizeLine_eq]; simp at hl ⊢; omega
    obtain ⟨zv', zl', e⟩ := lots_least h many as0 A B C D E F G r (acc ++ [a]) (.fz (.tup (il a.1))) (.fz (.tup [.int a.2])) (fun q hq => ha q (List.mem_cons_of_mem _ hq)) (by simp at hl ⊢; omega) rfl rfl
    refine ⟨zv', zl', ?_⟩
    have sk : sg 0 = ⟨1, false, [false]⟩ := rfl
    rw [List.map_cons, comp_cons]
    simp only [List.getElem?_cons_zero, List.getElem?_cons_succ, List.set_cons_zero, List.set_cons_succ, List.getD_cons_zero, List.getD_cons_succ, ob_some, om_some, b_ok, b_ex, st_ok, st_ex, sq_nx, sq_rt, sq_bk, sq_ct, sq_ex, tu_nx, tu_rt, tu_bk, tu_ct, tu_ex, varR_fz, varR_ol, varR_bl, varR_io, v_var, v_lit, v_tup, v_lst, tupK_0, tupK_1, tupK_2, tupK_3, lstK_0, lstK_1, lstK_2, lstK_3, v_p1, p1K_eq, v_p2, p2K_eq, v_and, v_or, v_not, v_ite, v_call, v_mth, mth0_some, mthK_eq, mthO_some, own_eq, ownO_ol, ownO_io, mkOwn_t, mkOwn_f, v_sl, compK_eq, compT_some, v_comp, compC_none, wipe_nil, wipe_cons, rest_nil, rest_cons, fin_ok, con_fz, con_ol, con_plc, slCon_some, scon_fz, scon_ol, scon_bl, scon_io, set_fz, set_plc, set_ol, lift_some, bool_bl, opt_int, opt_non, toV_fz, toV_ol, toV_plc, toVO_ol, V_nil, V_cons, A_nil, A_cons, I_it1, itK_tup, itK_lst, itK_ol, itK_plc, itS_ol, itS_bl, I_rng1, I_rng2, I_rng3, S_nil, S_cons, S_expr, nxK_eq, S_asg, S_asgT, asgO_some, S_aug, augO_int, augK_add, S_setix, setK_eq, setO_some, setAt_eq, setA_0, S_ite, S_for, forO_some, lock_none, lock_ol, lock_bl, S_ret, S_ret0, S_brk, S_cont, S_pass, S_raise, raiK_some, setS_eq, setSO_no, setSO_fz, setSO_ol, setSO_bl, asgR_fz, asgR_ol, asgR_plc, asgP_ol, asgP_bl, retR_fz, retR_ol, retR_plc, retP_ol, asg_v, asg1_eq, asg1O_no, asg1O_fz, asg1O_ol, asg_tp, ag_nil, ag_cons, arg_nil, arg_fz, arg_plc, argT_ol, argT_bl, argT_olf, calR_ok, calR_ex, calI_t, calI_f, calO_some, io_plc, ioO_ol, ioO_io, forC_some, endF_rt, endF_nx, endF_ex, io_f, io_t, sl_io, sl_f, sl_tl, sl_nil, o_len_t, o_len_l, o_tuple_t, o_tuple_l, o_list_t, o_list_l, o_int, o_neg, o_sum, o_any, o_all, o_max, o_isN, o_notN, o_add, o_sub, o_band, o_bor, o_lt, o_le, o_gt, o_ge, o_eq, o_ne, o_ixT, o_ixL, at_0, at_1, m_pop, m_pop0, askT, decide_true, decide_false, Bool.false_eq_true, reduceIte, Bool.not_true, Bool.not_false, call_plain sk, h a.1 h10, compC_some b1]
    have e2 := nl_map (lotP) acc a
    unfold lotP at e2 e ⊢
    rw [e2, e]
    simp
theorem or_least (many : T) (as0 : List Ask) (A D E F G : Sl) : ∀ (ls : List Nat) (c : Nat) (z : Sl), z.isIo = false →
    ∃ z', forL (asgT (.v 7)) (evS sg Φ mk FU (.cons (.asg (.v 6) (.p2 .bor (.var 6) (.var 7))) .nil)) (nl ls) [.fz (asksT as0), .fz many, A, .no, .no, D, .fz (.int (c : Int)), z, E, F, G] = .nx [.fz (asksT as0), .fz many, A, .no, .no, D, .fz (.int (ls.foldl (fun c l => c ||| l) c : Nat)), z', E, F, G]
  | [], c, z, _ => ⟨z, by simp [nl, for_nil]⟩
  | l :: r, c, z, hz => by
    have e1 : asgT (.v 7) (.int (l : Int)) [.fz (asksT as0), .fz many, A, .no, .no, D, .fz (.int (c : Int)), z, E, F, G] = some [.fz (asksT as0), .fz many, A, .no, .no, D, .fz (.int (c : Int)), .fz (.int (l : Int)), E, F, G] := by
      rw [asgT]
      cases z <;> first | rfl | (cases hz; done)
    obtain ⟨z', e⟩ := or_least many as0 A D E F G r (c ||| l) (.fz (.int (l : Int))) rfl
    refine ⟨z', ?_⟩
    rw [show nl (l :: r) = .int (l : Int) :: nl r from rfl, for_cons, e1]
    simp only [List.getElem?_cons_zero, List.getElem?_cons_succ, List.set_cons_zero, List.set_cons_succ, List.getD_cons_zero, List.getD_cons_succ, ob_some, om_some, b_ok, b_ex, st_ok, st_ex, sq_nx, sq_rt, sq_bk, sq_ct, sq_ex, tu_nx, tu_rt, tu_bk, tu_ct, tu_ex, varR_fz, varR_ol, varR_bl, varR_io, v_var, v_lit, v_tup, v_lst, tupK_0, tupK_1, tupK_2, tupK_3, lstK_0, lstK_1, lstK_2, lstK_3, v_p1, p1K_eq, v_p2, p2K_eq, v_and, v_or, v_not, v_ite, v_call, v_mth, mth0_some, mthK_eq, mthO_some, own_eq, ownO_ol, ownO_io, mkOwn_t, mkOwn_f, v_sl, compK_eq, compT_some, v_comp, compC_none, wipe_nil, wipe_cons, rest_nil, rest_cons, fin_ok, con_fz, con_ol, con_plc, slCon_some, scon_fz, scon_ol, scon_bl, scon_io, set_fz, set_plc, set_ol, lift_some, bool_bl, opt_int, opt_non, toV_fz, toV_ol, toV_plc, toVO_ol, V_nil, V_cons, A_nil, A_cons, I_it1, itK_tup, itK_lst, itK_ol, itK_plc, itS_ol, itS_bl, I_rng1, I_rng2, I_rng3, S_nil, S_cons, S_expr, nxK_eq, S_asg, S_asgT, asgO_some, S_aug, augO_int, augK_add, S_setix, setK_eq, setO_some, setAt_eq, setA_0, S_ite, S_for, forO_some, lock_none, lock_ol, lock_bl, S_ret, S_ret0, S_brk, S_cont, S_pass, S_raise, raiK_some, setS_eq, setSO_no, setSO_fz, setSO_ol, setSO_bl, asgR_fz, asgR_ol, asgR_plc, asgP_ol, asgP_bl, retR_fz, retR_ol, retR_plc, retP_ol, asg_v, asg1_eq, asg1O_no, asg1O_fz, asg1O_ol, asg_tp, ag_nil, ag_cons, arg_nil, arg_fz, arg_plc, argT_ol, argT_bl, argT_olf, calR_ok, calR_ex, calI_t, calI_f, calO_some, io_plc, ioO_ol, ioO_io, forC_some, endF_rt, endF_nx, endF_ex, io_f, io_t, sl_io, sl_f, sl_tl, sl_nil, o_len_t, o_len_l, o_tuple_t, o_tuple_l, o_list_t, o_list_l, o_int, o_neg, o_sum, o_any, o_all, o_max, o_isN, o_notN, o_add, o_sub, o_band, o_bor, o_lt, o_le, o_gt, o_ge, o_eq, o_ne, o_ixT, o_ixL, at_0, at_1, m_pop, m_pop0, bor_nat, e]
    rfl
def srB_least : S := (.cons (.asg (.v 10) (.call 2 (.cons (.var 2) (.cons (.var 8) (.cons (.var 5) (.cons (.var 9) .nil)))))) (.cons (.ite (.p1 .notN (.var 10)) (.cons (.ret (.var 10)) .nil) .nil) .nil))
theorem sr_least (h2 : H2 Φ) (many : T) (as0 : List Ask) (lots kept : List Nat) (hk : ∀ k ∈ kept, k < lots.length) (hn : kept.length ≤ 7) (full : Nat) (D E : Sl) : ∀ (ss : List Nat) (z7 z8 : Sl), (∀ s ∈ ss, s < 1000) → z7.isIo = false → z8.isIo = false →
    ∃ en, en.length = 11 ∧ forL (asgT (.v 9)) (evS sg Φ mk FU srB_least) (nl ss) [.fz (asksT as0), .fz many, .fz (.lst (nl lots)), .no, .no, .fz (.int (full : Int)), D, E, .ol (nl kept), z7, z8]
      = (match ss.findSome? (fun s => (combos kept s).find? (cvp lots full)) with | some c => .rt (.fz (tT c)) en | none => .nx en)
  | [], z7, z8, _, _, _ => ⟨[.fz (asksT as0), .fz many, .fz (.lst (nl lots)), .no, .no, .fz (.int (full : Int)), D, E, .ol (nl kept), z7, z8], rfl, rfl⟩
  | s :: r, z7, z8, hs, h7, h8 => by
    have hs0 := hs s (List.mem_cons_self ..)
    have e1 : asgT (.v 9) (.int (s : Int)) [.fz (asksT as0), .fz many, .fz (.lst (nl lots)), .no, .no, .fz (.int (full : Int)), D, E, .ol (nl kept), z7, z8] = some [.fz (asksT as0), .fz many, .fz (.lst (nl lots)), .no, .no, .fz (.int (full : Int)), D, E, .ol (nl kept), .fz (.int (s : Int)), z8] := by
      rw [asgT]
      cases z7 <;> first | rfl | (cases h7; done)
    have hset : ∀ q : T, setS 10 (.fz q) [.fz (asksT as0), .fz many, .fz (.lst (nl lots)), .no, .no, .fz (.int (full : Int)), D, E, .ol (nl kept), .fz (.int (s : Int)), z8] = .nx [.fz (asksT as0), .fz many, .fz (.lst (nl lots)), .no, .no, .fz (.int (full : Int)), D, E, .ol (nl kept), .fz (.int (s : Int)), .fz q] := fun q => by
      cases z8 <;> first | rfl | (cases h8; done)
    have s2 : sg 2 = ⟨4, false, [true, true, false, false]⟩ := rfl
    have eb : evS sg Φ mk FU srB_least [.fz (asksT as0), .fz many, .fz (.lst (nl lots)), .no, .no, .fz (.int (full : Int)), D, E, .ol (nl kept), .fz (.int (s : Int)), z8] = (match (combos kept s).find? (cvp lots full) with
        | some c => .rt (.fz (tT c)) [.fz (asksT as0), .fz many, .fz (.lst (nl lots)), .no, .no, .fz (.int (full : Int)), D, E, .ol (nl kept), .fz (.int (s : Int)), .fz (tT c)]
        | none => .nx [.fz (asksT as0), .fz many, .fz (.lst (nl lots)), .no, .no, .fz (.int (full : Int)), D, E, .ol (nl kept), .fz (.int (s : Int)), .fz .non]) := by
      unfold srB_least
      have ec := h2 lots kept hk hn full s hs0
      simp only [S_cons, S_asg, v_call, A_cons, v_var, List.getElem?_cons_zero, List.getElem?_cons_succ, varR_fz, varR_ol, b_ok, A_nil, set_fz, set_plc, call_plain s2, arg_fz, arg_plc, argT_ol, arg_nil, ec, calR_ok, st_ok, asgR_fz, hset, sq_nx, S_ite, v_p1, p1K_eq, con_fz, ob_some, o_notN, lift_some, bool_bl, oT_non]
      cases (combos kept s).find? (cvp lots full) with
      | some c => simp only [List.getElem?_cons_zero, List.getElem?_cons_succ, List.set_cons_zero, List.set_cons_succ, List.getD_cons_zero, List.getD_cons_succ, ob_some, om_some, b_ok, b_ex, st_ok, st_ex, sq_nx, sq_rt, sq_bk, sq_ct, sq_ex, tu_nx, tu_rt, tu_bk, tu_ct, tu_ex, varR_fz, varR_ol, varR_bl, varR_io, v_var, v_lit, v_tup, v_lst, tupK_0, tupK_1, tupK_2, tupK_3, lstK_0, lstK_1, lstK_2, lstK_3, v_p1, p1K_eq, v_p2, p2K_eq, v_and, v_or, v_not, v_ite, v_call, v_mth, mth0_some, mthK_eq, mthO_some, own_eq, ownO_ol, ownO_io, mkOwn_t, mkOwn_f, v_sl, compK_eq, compT_some, v_comp, compC_none, wipe_nil, wipe_cons, rest_nil, rest_cons, fin_ok, con_fz, con_ol, con_plc, slCon_some, scon_fz, scon_ol, scon_bl, scon_io, set_fz, set_plc, set_ol, lift_some, bool_bl, opt_int, opt_non, toV_fz, toV_ol, toV_plc, toVO_ol, V_nil, V_cons, A_nil, A_cons, I_it1, itK_tup, itK_lst, itK_ol, itK_plc, itS_ol, itS_bl, I_rng1, I_rng2, I_rng3, S_nil, S_cons, S_expr, nxK_eq, S_asg, S_asgT, asgO_some, S_aug, augO_int, augK_add, S_setix, setK_eq, setO_some, setAt_eq, setA_0, S_ite, S_for, forO_some, lock_none, lock_ol, lock_bl, S_ret, S_ret0, S_brk, S_cont, S_pass, S_raise, raiK_some, setS_eq, setSO_no, setSO_fz, setSO_ol, setSO_bl, asgR_fz, asgR_ol, asgR_plc, asgP_ol, asgP_bl, retR_fz, retR_ol, retR_plc, retP_ol, asg_v, asg1_eq, asg1O_no, asg1O_fz, asg1O_ol, asg_tp, ag_nil, ag_cons, arg_nil, arg_fz, arg_plc, argT_ol, argT_bl, argT_olf, calR_ok, calR_ex, calI_t, calI_f, calO_some, io_plc, ioO_ol, ioO_io, forC_some, endF_rt, endF_nx, endF_ex, io_f, io_t, sl_io, sl_f, sl_tl, sl_nil, o_len_t, o_len_l, o_tuple_t, o_tuple_l, o_list_t, o_list_l, o_int, o_neg, o_sum, o_any, o_all, o_max, o_isN, o_notN, o_add, o_sub, o_band, o_bor, o_lt, o_le, o_gt, o_ge, o_eq, o_ne, o_ixT, o_ixL, at_0, at_1, m_pop, m_pop0, decide_true, decide_false, Bool.false_eq_true, reduceIte, Bool.not_true, Bool.not_false, Option.isNone_some, oT]
      | none => simp only [List.getElem?_cons_zero, List.getElem?_cons_succ, List.set_cons_zero, List.set_cons_succ, List.getD_cons_zero, List.getD_cons_succ, ob_some, om_some, b_ok, b_ex, st_ok, st_ex, sq_nx, sq_rt, sq_bk, sq_ct, sq_ex, tu_nx, tu_rt, tu_bk, tu_ct, tu_ex, varR_fz, varR_ol, varR_bl, varR_io, v_var, v_lit, v_tup, v_lst, tupK_0, tupK_1, tupK_2, tupK_3, lstK_0, lstK_1, lstK_2, lstK_3, v_p1, p1K_eq, v_p2, p2K_eq, v_and, v_or, v_not, v_ite, v_call, v_mth, mth0_some, mthK_eq, mthO_some, own_eq, ownO_ol, ownO_io, mkOwn_t, mkOwn_f, v_sl, compK_eq, compT_some, v_comp, compC_none, wipe_nil, wipe_cons, rest_nil, rest_cons, fin_ok, con_fz, con_ol, con_plc, slCon_some, scon_fz, scon_ol, scon_bl, scon_io, set_fz, set_plc, set_ol, lift_some, bool_bl, opt_int, opt_non, toV_fz, toV_ol, toV_plc, toVO_ol, V_nil, V_cons, A_nil, A_cons, I_it1, itK_tup, itK_lst, itK_ol, itK_plc, itS_ol, itS_bl, I_rng1, I_rng2, I_rng3, S_nil, S_cons, S_expr, nxK_eq, S_asg, S_asgT, asgO_some, S_aug, augO_int, augK_add, S_setix, setK_eq, setO_some, setAt_eq, setA_0, S_ite, S_for, forO_some, lock_none, lock_ol, lock_bl, S_ret, S_ret0, S_brk, S_cont, S_pass, S_raise, raiK_some, setS_eq, setSO_no, setSO_fz, setSO_ol, setSO_bl, asgR_fz, asgR_ol, asgR_plc, asgP_ol, asgP_bl, retR_fz, retR_ol, retR_plc, retP_ol, asg_v, asg1_eq, asg1O_no, asg1O_fz, asg1O_ol, asg_tp, ag_nil, ag_cons, arg_nil, arg_fz, arg_plc, argT_ol, argT_bl, argT_olf, calR_ok, calR_ex, calI_t, calI_f, calO_some, io_plc, ioO_ol, ioO_io, forC_some, endF_rt, endF_nx, endF_ex, io_f, io_t, sl_io, sl_f, sl_tl, sl_nil, o_len_t, o_len_l, o_tuple_t, o_tuple_l, o_list_t, o_list_l, o_int, o_neg, o_sum, o_any, o_all, o_max, o_isN, o_notN, o_add, o_sub, o_band, o_bor, o_lt, o_le, o_gt, o_ge, o_eq, o_ne, o_ixT, o_ixL, at_0, at_1, m_pop, m_pop0, decide_true, decide_false, Bool.false_eq_true, reduceIte, Bool.not_true, Bool.not_false, Option.isNone_none, oT]
    rw [show nl (s :: r) = .int (s : Int) :: nl r from rfl, for_cons, e1, forC_some, eb, List.findSome?_cons]
    cases (combos kept s).find? (cvp lots full) with
    | some c => exact ⟨_, by rfl, rfl⟩
    | none =>
      obtain ⟨en, hl, e⟩ := sr_least h2 many as0 lots kept hk hn full D E r (.fz (.int (s : Int))) (.fz .non) (fun q hq => hs q (List.mem_cons_of_mem _ hq)) rfl rfl
      exact ⟨en, hl, e⟩
theorem ok_least (hK : H0 Φ) (h1 : H1 Φ) (h2 : H2 Φ) (as : List Ask) (hA : as.length ≤ 7) (m : Nat) (hm : m ≤ 8)  (hw : ∀ a ∈ as, a.1.length ≤ 10 ) :
    evD sg Φ mk FU (sg 3) ⟨11, ir_least_tests⟩ [asksT as, .int (m : Int)] = .ok (.fz (oT (searchR (as.map lotP) (fullP m)))) [] := by
  rw [evD_eq, show sg 3 = ⟨2, false, [false, false]⟩ from rfl]
  have e0 : ir_least_tests = (.cons (.ite (.p2 .gt (.var 1) (.lit (.int 8))) (.cons (.raise 0 (.cons (.lit (.int 8)) .nil)) .nil) .nil) (.cons (.asg (.v 2) (.comp (.call 0 (.cons (.var 3) .nil)) (.tp (.cons (.v 3) (.cons (.v 4) .nil))) (.it1 (.var 0)) (.lit (.bl true)) [3, 4])) (.cons (.asg (.v 5) (.p2 .sub (.p2 .shl (.lit (.int 1)) (.p2 .fdiv (.p2 .mul (.var 1) (.p2 .sub (.var 1) (.lit (.int 1)))) (.lit (.int 2)))) (.lit (.int 1)))) (.cons (.asg (.v 6) (.lit (.int 0))) (.cons (.for (.v 7) (.it1 (.var 2)) (.cons (.asg (.v 6) (.p2 .bor (.var 6) (.var 7))) .nil)) (.cons (.ite (.p2 .ne (.var 6) (.var 5)) (.cons (.ret (.lit .non)) .nil) .nil) (.cons (.asg (.v 8) (.call 1 (.cons (.var 2) .nil))) (.cons (.for (.v 9) (.rng1 (.p2 .add (.p1 .len (.var 8)) (.lit (.int 1)))) srB_least) (.cons (.ret (.lit .non)) .nil))))))))) := rfl
  rw [e0]
  have h8 : ¬ ((8 : Int) < (m : Int)) := by omega
  obtain ⟨zv, zl, e⟩ := lots_least Φ hK (.int (m : Int)) as .no .no .no .no .no .no .no as [] .no .no hw (by simp; omega) rfl rfl
  rw [show nl (([] : List Ask).map lotP) = [] from rfl, List.nil_append] at e
  have efull : shlOk 1 (((m : Int) * ((m : Int) - 1)).fdiv 2) ∧ (1 : Int) * 2 ^ (((m : Int) * ((m : Int) - 1)).fdiv 2).toNat - 1 = ((fullP m : Nat) : Int) := by
    have key : ∀ q : Nat, q ≤ 8 → (shlOk 1 (((q : Int) * ((q : Int) - 1)).fdiv 2) ∧ (1 : Int) * 2 ^ (((q : Int) * ((q : Int) - 1)).fdiv 2).toNat - 1 = ((fullP q : Nat) : Int)) := by decide +kernel
    exact key m hm
  have hlen : (as.map lotP).length ≤ 7 := by rw [List.length_map]; exact hA
  simp only [asksT] at e ⊢
  simp only [sl_io, sl_f, sl_tl, sl_nil, List.length_cons, List.length_nil, List.replicate, List.cons_append, List.nil_append]
  simp only [S_cons, S_ite, v_p2, v_var, v_lit, List.getElem?_cons_zero, List.getElem?_cons_succ, varR_fz, b_ok, p2K_eq, con_fz, set_fz, ob_some, o_gt, lift_some, st_ok, bool_bl, h8, decide_true, decide_false, Bool.false_eq_true, reduceIte, Bool.not_true, Bool.not_false, S_nil, sq_nx, S_asg, v_comp, I_it1, itK_tup]
  rw [compE_eq (by rfl)]
  simp only [e, fin_ok, rest_cons, rest_nil, List.getD_cons_zero, List.getD_cons_succ, List.set_cons_zero, List.set_cons_succ, b_ok, st_ok, asgR_ol, setS_eq, List.getElem?_cons_zero, List.getElem?_cons_succ, setSO_no, sq_nx]
  obtain ⟨z5, eo⟩ := or_least Φ (.int (m : Int)) as (.fz (.lst (nl (as.map lotP)))) (.fz (.int ((fullP m) : Int))) .no .no .no (as.map lotP) 0 .no rfl
  have ez : ((0 : Nat) : Int) = 0 := rfl
  rw [ez] at eo
  simp only [asksT] at eo
  have eor : (as.map lotP).foldl (fun c l => c ||| l) 0 = orAll (as.map lotP) := rfl
  rw [eor] at eo
  simp only [List.getElem?_cons_zero, List.getElem?_cons_succ, List.set_cons_zero, List.set_cons_succ, List.getD_cons_zero, List.getD_cons_succ, ob_some, om_some, b_ok, b_ex, st_ok, st_ex, sq_nx, sq_rt, sq_bk, sq_ct, sq_ex, tu_nx, tu_rt, tu_bk, tu_ct, tu_ex, varR_fz, varR_ol, varR_bl, varR_io, v_var, v_lit, v_tup, v_lst, tupK_0, tupK_1, tupK_2, tupK_3, lstK_0, lstK_1, lstK_2, lstK_3, v_p1, p1K_eq, v_p2, p2K_eq, v_and, v_or, v_not, v_ite, v_call, v_mth, mth0_some, mthK_eq, mthO_some, own_eq, ownO_ol, ownO_io, mkOwn_t, mkOwn_f, v_sl, compK_eq, compT_some, v_comp, compC_none, wipe_nil, wipe_cons, rest_nil, rest_cons, fin_ok, con_fz, con_ol, con_plc, slCon_some, scon_fz, scon_ol, scon_bl, scon_io, set_fz, set_plc, set_ol, lift_some, bool_bl, opt_int, opt_non, toV_fz, toV_ol, toV_plc, toVO_ol, V_nil, V_cons, A_nil, A_cons, I_it1, itK_tup, itK_lst, itK_ol, itK_plc, itS_ol, itS_bl, I_rng1, I_rng2, I_rng3, S_nil, S_cons, S_expr, nxK_eq, S_asg, S_asgT, asgO_some, S_aug, augO_int, augK_add, S_setix, setK_eq, setO_some, setAt_eq, setA_0, S_ite, S_for, forO_some, lock_none, lock_ol, lock_bl, S_ret, S_ret0, S_brk, S_cont, S_pass, S_raise, raiK_some, setS_eq, setSO_no, setSO_fz, setSO_ol, setSO_bl, asgR_fz, asgR_ol, asgR_plc, asgP_ol, asgP_bl, retR_fz, retR_ol, retR_plc, retP_ol, asg_v, asg1_eq, asg1O_no, asg1O_fz, asg1O_ol, asg_tp, ag_nil, ag_cons, arg_nil, arg_fz, arg_plc, argT_ol, argT_bl, argT_olf, calR_ok, calR_ex, calI_t, calI_f, calO_some, io_plc, ioO_ol, ioO_io, forC_some, endF_rt, endF_nx, endF_ex, io_f, io_t, sl_io, sl_f, sl_tl, sl_nil, o_len_t, o_len_l, o_tuple_t, o_tuple_l, o_list_t, o_list_l, o_int, o_neg, o_sum, o_any, o_all, o_max, o_isN, o_notN, o_add, o_sub, o_band, o_bor, o_lt, o_le, o_gt, o_ge, o_eq, o_ne, o_ixT, o_ixL, at_0, at_1, m_pop, m_pop0, o_mul (show mulOk (m : Int) ((m : Int) - 1) from .inl (by omega)), o_fdiv (show divOk 2 by decide), o_shl efull.1, efull.2, eo]
  have ed : decide (((orAll (as.map lotP) : Nat) : Int) = (((fullP m) : Nat) : Int)) = decide (orAll (as.map lotP) = (fullP m)) := by rw [decide_eq_decide]; omega
  simp only [ed]
  unfold searchR
  by_cases ho : orAll (as.map lotP) = (fullP m)
  · have s1 : sg 1 = ⟨1, false, [true]⟩ := rfl
    have ek : ((nl (und (as.map lotP) (as.map lotP).length)).length : Int) + 1 = (((und (as.map lotP) (as.map lotP).length).length + 1 : Nat) : Int) := by rw [nl_len]; rfl
    have hu := und_len (as.map lotP)
    have b1 : inBig (((und (as.map lotP) (as.map lotP).length).length + 1 : Nat) : Int) = true := by unfold inBig; exact decide_eq_true (by omega)
    obtain ⟨en, hl, es⟩ := sr_least Φ h2 (.int (m : Int)) as (as.map lotP) (und (as.map lotP) (as.map lotP).length) (und_lt _) (by omega) (fullP m) (.fz (.int ((orAll (as.map lotP) : Nat) : Int))) z5 (List.range ((und (as.map lotP) (as.map lotP).length).length + 1)) .no .no (fun s hs => by have := List.mem_range.mp hs; omega) rfl rfl
    rw [← rangeI_nl0] at es
    simp only [asksT] at es
    rw [if_pos ho]
    simp only [ho] at es ⊢
    simp only [List.getElem?_cons_zero, List.getElem?_cons_succ, List.set_cons_zero, List.set_cons_succ, List.getD_cons_zero, List.getD_cons_succ, ob_some, om_some, b_ok, b_ex, st_ok, st_ex, sq_nx, sq_rt, sq_bk, sq_ct, sq_ex, tu_nx, tu_rt, tu_bk, tu_ct, tu_ex, varR_fz, varR_ol, varR_bl, varR_io, v_var, v_lit, v_tup, v_lst, tupK_0, tupK_1, tupK_2, tupK_3, lstK_0, lstK_1, lstK_2, lstK_3, v_p1, p1K_eq, v_p2, p2K_eq, v_and, v_or, v_not, v_ite, v_call, v_mth, mth0_some, mthK_eq, mthO_some, own_eq, ownO_ol, ownO_io, mkOwn_t, mkOwn_f, v_sl, compK_eq, compT_some, v_comp, compC_none, wipe_nil, wipe_cons, rest_nil, rest_cons, fin_ok, con_fz, con_ol, con_plc, slCon_some, scon_fz, scon_ol, scon_bl, scon_io, set_fz, set_plc, set_ol, lift_some, bool_bl, opt_int, opt_non, toV_fz, toV_ol, toV_plc, toVO_ol, V_nil, V_cons, A_nil, A_cons, I_it1, itK_tup, itK_lst, itK_ol, itK_plc, itS_ol, itS_bl, I_rng1, I_rng2, I_rng3, S_nil, S_cons, S_expr, nxK_eq, S_asg, S_asgT, asgO_some, S_aug, augO_int, augK_add, S_setix, setK_eq, setO_some, setAt_eq, setA_0, S_ite, S_for, forO_some, lock_none, lock_ol, lock_bl, S_ret, S_ret0, S_brk, S_cont, S_pass, S_raise, raiK_some, setS_eq, setSO_no, setSO_fz, setSO_ol, setSO_bl, asgR_fz, asgR_ol, asgR_plc, asgP_ol, asgP_bl, retR_fz, retR_ol, retR_plc, retP_ol, asg_v, asg1_eq, asg1O_no, asg1O_fz, asg1O_ol, asg_tp, ag_nil, ag_cons, arg_nil, arg_fz, arg_plc, argT_ol, argT_bl, argT_olf, calR_ok, calR_ex, calI_t, calI_f, calO_some, io_plc, ioO_ol, ioO_io, forC_some, endF_rt, endF_nx, endF_ex, io_f, io_t, sl_io, sl_f, sl_tl, sl_nil, o_len_t, o_len_l, o_tuple_t, o_tuple_l, o_list_t, o_list_l, o_int, o_neg, o_sum, o_any, o_all, o_max, o_isN, o_notN, o_add, o_sub, o_band, o_bor, o_lt, o_le, o_gt, o_ge, o_eq, o_ne, o_ixT, o_ixL, at_0, at_1, m_pop, m_pop0, decide_true, decide_false, Bool.false_eq_true, reduceIte, Bool.not_true, Bool.not_false, call_plain s1, h1 _ hlen, ek, rg1_ok b1, Int.toNat_natCast, es]
    unfold hit
    cases (List.range ((und (as.map lotP) (as.map lotP).length).length + 1)).findSome? (fun s => (combos (und (as.map lotP) (as.map lotP).length) s).find? (cvp (as.map lotP) (fullP m))) with
    | some c => simp only [List.getElem?_cons_zero, List.getElem?_cons_succ, List.set_cons_zero, List.set_cons_succ, List.getD_cons_zero, List.getD_cons_succ, ob_some, om_some, b_ok, b_ex, st_ok, st_ex, sq_nx, sq_rt, sq_bk, sq_ct, sq_ex, tu_nx, tu_rt, tu_bk, tu_ct, tu_ex, varR_fz, varR_ol, varR_bl, varR_io, v_var, v_lit, v_tup, v_lst, tupK_0, tupK_1, tupK_2, tupK_3, lstK_0, lstK_1, lstK_2, lstK_3, v_p1, p1K_eq, v_p2, p2K_eq, v_and, v_or, v_not, v_ite, v_call, v_mth, mth0_some, mthK_eq, mthO_some, own_eq, ownO_ol, ownO_io, mkOwn_t, mkOwn_f, v_sl, compK_eq, compT_some, v_comp, compC_none, wipe_nil, wipe_cons, rest_nil, rest_cons, fin_ok, con_fz, con_ol, con_plc, slCon_some, scon_fz, scon_ol, scon_bl, scon_io, set_fz, set_plc, set_ol, lift_some, bool_bl, opt_int, opt_non, toV_fz, toV_ol, toV_plc, toVO_ol, V_nil, V_cons, A_nil, A_cons, I_it1, itK_tup, itK_lst, itK_ol, itK_plc, itS_ol, itS_bl, I_rng1, I_rng2, I_rng3, S_nil, S_cons, S_expr, nxK_eq, S_asg, S_asgT, asgO_some, S_aug, augO_int, augK_add, S_setix, setK_eq, setO_some, setAt_eq, setA_0, S_ite, S_for, forO_some, lock_none, lock_ol, lock_bl, S_ret, S_ret0, S_brk, S_cont, S_pass, S_raise, raiK_some, setS_eq, setSO_no, setSO_fz, setSO_ol, setSO_bl, asgR_fz, asgR_ol, asgR_plc, asgP_ol, asgP_bl, retR_fz, retR_ol, retR_plc, retP_ol, asg_v, asg1_eq, asg1O_no, asg1O_fz, asg1O_ol, asg_tp, ag_nil, ag_cons, arg_nil, arg_fz, arg_plc, argT_ol, argT_bl, argT_olf, calR_ok, calR_ex, calI_t, calI_f, calO_some, io_plc, ioO_ol, ioO_io, forC_some, endF_rt, endF_nx, endF_ex, io_f, io_t, sl_io, sl_f, sl_tl, sl_nil, o_len_t, o_len_l, o_tuple_t, o_tuple_l, o_list_t, o_list_l, o_int, o_neg, o_sum, o_any, o_all, o_max, o_isN, o_notN, o_add, o_sub, o_band, o_bor, o_lt, o_le, o_gt, o_ge, o_eq, o_ne, o_ixT, o_ixL, at_0, at_1, m_pop, m_pop0]; rfl
    | none =>
      match en, hl with
      | [a, b, c, d, e, f, g, h, i, j, k], _ => simp only [List.getElem?_cons_zero, List.getElem?_cons_succ, List.set_cons_zero, List.set_cons_succ, List.getD_cons_zero, List.getD_cons_succ, ob_some, om_some, b_ok, b_ex, st_ok, st_ex, sq_nx, sq_rt, sq_bk, sq_ct, sq_ex, tu_nx, tu_rt, tu_bk, tu_ct, tu_ex, varR_fz, varR_ol, varR_bl, varR_io, v_var, v_lit, v_tup, v_lst, tupK_0, tupK_1, tupK_2, tupK_3, lstK_0, lstK_1, lstK_2, lstK_3, v_p1, p1K_eq, v_p2, p2K_eq, v_and, v_or, v_not, v_ite, v_call, v_mth, mth0_some, mthK_eq, mthO_some, own_eq, ownO_ol, ownO_io, mkOwn_t, mkOwn_f, v_sl, compK_eq, compT_some, v_comp, compC_none, wipe_nil, wipe_cons, rest_nil, rest_cons, fin_ok, con_fz, con_ol, con_plc, slCon_some, scon_fz, scon_ol, scon_bl, scon_io, set_fz, set_plc, set_ol, lift_some, bool_bl, opt_int, opt_non, toV_fz, toV_ol, toV_plc, toVO_ol, V_nil, V_cons, A_nil, A_cons, I_it1, itK_tup, itK_lst, itK_ol, itK_plc, itS_ol, itS_bl, I_rng1, I_rng2, I_rng3, S_nil, S_cons, S_expr, nxK_eq, S_asg, S_asgT, asgO_some, S_aug, augO_int, augK_add, S_setix, setK_eq, setO_some, setAt_eq, setA_0, S_ite, S_for, forO_some, lock_none, lock_ol, lock_bl, S_ret, S_ret0, S_brk, S_cont, S_pass, S_raise, raiK_some, setS_eq, setSO_no, setSO_fz, setSO_ol, setSO_bl, asgR_fz, asgR_ol, asgR_plc, asgP_ol, asgP_bl, retR_fz, retR_ol, retR_plc, retP_ol, asg_v, asg1_eq, asg1O_no, asg1O_fz, asg1O_ol, asg_tp, ag_nil, ag_cons, arg_nil, arg_fz, arg_plc, argT_ol, argT_bl, argT_olf, calR_ok, calR_ex, calI_t, calI_f, calO_some, io_plc, ioO_ol, ioO_io, forC_some, endF_rt, endF_nx, endF_ex, io_f, io_t, sl_io, sl_f, sl_tl, sl_nil, o_len_t, o_len_l, o_tuple_t, o_tuple_l, o_list_t, o_list_l, o_int, o_neg, o_sum, o_any, o_all, o_max, o_isN, o_notN, o_add, o_sub, o_band, o_bor, o_lt, o_le, o_gt, o_ge, o_eq, o_ne, o_ixT, o_ixL, at_0, at_1, m_pop, m_pop0]; rfl
  · rw [if_neg ho]
    simp only [List.getElem?_cons_zero, List.getElem?_cons_succ, List.set_cons_zero, List.set_cons_succ, List.getD_cons_zero, List.getD_cons_succ, ob_some, om_some, b_ok, b_ex, st_ok, st_ex, sq_nx, sq_rt, sq_bk, sq_ct, sq_ex, tu_nx, tu_rt, tu_bk, tu_ct, tu_ex, varR_fz, varR_ol, varR_bl, varR_io, v_var, v_lit, v_tup, v_lst, tupK_0, tupK_1, tupK_2, tupK_3, lstK_0, lstK_1, lstK_2, lstK_3, v_p1, p1K_eq, v_p2, p2K_eq, v_and, v_or, v_not, v_ite, v_call, v_mth, mth0_some, mthK_eq, mthO_some, own_eq, ownO_ol, ownO_io, mkOwn_t, mkOwn_f, v_sl, compK_eq, compT_some, v_comp, compC_none, wipe_nil, wipe_cons, rest_nil, rest_cons, fin_ok, con_fz, con_ol, con_plc, slCon_some, scon_fz, scon_ol, scon_bl, scon_io, set_fz, set_plc, set_ol, lift_some, bool_bl, opt_int, opt_non, toV_fz, toV_ol, toV_plc, toVO_ol, V_nil, V_cons, A_nil, A_cons, I_it1, itK_tup, itK_lst, itK_ol, itK_plc, itS_ol, itS_bl, I_rng1, I_rng2, I_rng3, S_nil, S_cons, S_expr, nxK_eq, S_asg, S_asgT, asgO_some, S_aug, augO_int, augK_add, S_setix, setK_eq, setO_some, setAt_eq, setA_0, S_ite, S_for, forO_some, lock_none, lock_ol, lock_bl, S_ret, S_ret0, S_brk, S_cont, S_pass, S_raise, raiK_some, setS_eq, setSO_no, setSO_fz, setSO_ol, setSO_bl, asgR_fz, asgR_ol, asgR_plc, asgP_ol, asgP_bl, retR_fz, retR_ol, retR_plc, retP_ol, asg_v, asg1_eq, asg1O_no, asg1O_fz, asg1O_ol, asg_tp, ag_nil, ag_cons, arg_nil, arg_fz, arg_plc, argT_ol, argT_bl, argT_olf, calR_ok, calR_ex, calI_t, calI_f, calO_some, io_plc, ioO_ol, ioO_io, forC_some, endF_rt, endF_nx, endF_ex, io_f, io_t, sl_io, sl_f, sl_tl, sl_nil, o_len_t, o_len_l, o_tuple_t, o_tuple_l, o_list_t, o_list_l, o_int, o_neg, o_sum, o_any, o_all, o_max, o_isN, o_notN, o_add, o_sub, o_band, o_bor, o_lt, o_le, o_gt, o_ge, o_eq, o_ne, o_ixT, o_ixL, at_0, at_1, m_pop, m_pop0, ho, decide_true, decide_false, Bool.false_eq_true, reduceIte, Bool.not_true, Bool.not_false]
    rfl

/-! lesson -/
theorem lots_lesson (h : H4 Φ) (many : T) (as0 : List Ask) (t : Nat) (A B C D E F G : Sl) : ∀ (as : List Ask) (acc : List Ask) (zv zl : Sl), (∀ a ∈ as, a.1.length ≤ 10 ∧ t < a.1.length) → acc.length + as.length < 1000 → zv.isIo = false → zl.isIo = false →
    ∃ zv' zl', compL (compK sg Φ (.call 4 (.cons (.var 4) (.cons (.var 2) .nil))) (.tp (.cons (.v 4) (.cons (.v 5) .nil))) (.lit (.bl true))) none [4, 5] (as.map askT) (nl (acc.map (lotF t))) [.fz (asksT as0), .fz many, .fz (.int (t : Int)), A, zv, zl, B, C, D, E, F, G] = .ok (nl ((acc ++ as).map (lotF t))) [.fz (asksT as0), .fz many, .fz (.int (t : Int)), A, zv', zl', B, C, D, E, F, G]
  | [], acc, zv, zl, _, _, _, _ => ⟨zv, zl, by simp [comp_nil]⟩
  | a :: r, acc, zv, zl, ha, hl, hv, hz => by
    obtain ⟨h10, ht10⟩ := ha a (List.mem_cons_self ..)
    have b1 : (nl (acc.map (lotF t))).length < sizeLine := by rw [nl_len, sizeLine_eq]; simp at hl ⊢; omega
    obtain ⟨zv', zl', e⟩ := lots_lesson h many as0 t A B C D E F G r (acc ++ [a]) (.fz (.tup (il a.1))) (.fz (.tup [.int a.2])) (fun q hq => ha q (List.mem_cons_of_mem _ hq)) (by simp at hl ⊢; omega) rfl rfl
    refine ⟨zv', zl', ?_⟩
    have sk : sg 4 = ⟨2, false, [false, false]⟩ := rfl
    rw [List.map_cons, comp_cons]
    simp only [List.getElem?_cons_zero, List.getElem?_cons_succ, List.set_cons_zero, List.set_cons_succ, List.getD_cons_zero, List.getD_cons_succ, ob_some, om_some, b_ok, b_ex, st_ok, st_ex, sq_nx, sq_rt, sq_bk, sq_ct, sq_ex, tu_nx, tu_rt, tu_bk, tu_ct, tu_ex, varR_fz, varR_ol, varR_bl, varR_io, v_var, v_lit, v_tup, v_lst, tupK_0, tupK_1, tupK_2, tupK_3, lstK_0, lstK_1, lstK_2, lstK_3, v_p1, p1K_eq, v_p2, p2K_eq, v_and, v_or, v_not, v_ite, v_call, v_mth, mth0_some, mthK_eq, mthO_some, own_eq, ownO_ol, ownO_io, mkOwn_t, mkOwn_f, v_sl, compK_eq, compT_some, v_comp, compC_none, wipe_nil, wipe_cons, rest_nil, rest_cons, fin_ok, con_fz, con_ol, con_plc, slCon_some, scon_fz, scon_ol, scon_bl, scon_io, set_fz, set_plc, set_ol, lift_some, bool_bl, opt_int, opt_non, toV_fz, toV_ol, toV_plc, toVO_ol, V_nil, V_cons, A_nil, A_cons, I_it1, itK_tup, itK_lst, itK_ol, itK_plc, itS_ol, itS_bl, I_rng1, I_rng2, I_rng3, S_nil, S_cons, S_expr, nxK_eq, S_asg, S_asgT, asgO_some, S_aug, augO_int, augK_add, S_setix, setK_eq, setO_some, setAt_eq, setA_0, S_ite, S_for, forO_some, lock_none, lock_ol, lock_bl, S_ret, S_ret0, S_brk, S_cont, S_pass, S_raise, raiK_some, setS_eq, setSO_no, setSO_fz, setSO_ol, setSO_bl, asgR_fz, asgR_ol, asgR_plc, asgP_ol, asgP_bl, retR_fz, retR_ol, retR_plc, retP_ol, asg_v, asg1_eq, asg1O_no, asg1O_fz, asg1O_ol, asg_tp, ag_nil, ag_cons, arg_nil, arg_fz, arg_plc, argT_ol, argT_bl, argT_olf, calR_ok, calR_ex, calI_t, calI_f, calO_some, io_plc, ioO_ol, ioO_io, forC_some, endF_rt, endF_nx, endF_ex, io_f, io_t, sl_io, sl_f, sl_tl, sl_nil, o_len_t, o_len_l, o_tuple_t, o_tuple_l, o_list_t, o_list_l, o_int, o_neg, o_sum, o_any, o_all, o_max, o_isN, o_notN, o_add, o_sub, o_band, o_bor, o_lt, o_le, o_gt, o_ge, o_eq, o_ne, o_ixT, o_ixL, at_0, at_1, m_pop, m_pop0, askT, decide_true, decide_false, Bool.false_eq_true, reduceIte, Bool.not_true, Bool.not_false, call_plain sk, h a.1 h10 t ht10, compC_some b1]
    have e2 := nl_map ((lotF t)) acc a
    unfold lotF at e2 e ⊢
    rw [e2, e]
    simp
theorem or_lesson (many : T) (as0 : List Ask) (t : Nat) (A D E F G : Sl) : ∀ (ls : List Nat) (c : Nat) (z : Sl), z.isIo = false →
    ∃ z', forL (asgT (.v 8)) (evS sg Φ mk FU (.cons (.asg (.v 7) (.p2 .bor (.var 7) (.var 8))) .nil)) (nl ls) [.fz (asksT as0), .fz many, .fz (.int (t : Int)), A, .no, .no, D, .fz (.int (c : Int)), z, E, F, G] = .nx [.fz (asksT as0), .fz many, .fz (.int (t : Int)), A, .no, .no, D, .fz (.int (ls.foldl (fun c l => c ||| l) c : Nat)), z', E, F, G]
  | [], c, z, _ => ⟨z, by simp [nl, for_nil]⟩
  | l :: r, c, z, hz => by
    have e1 : asgT (.v 8) (.int (l : Int)) [.fz (asksT as0), .fz many, .fz (.int (t : Int)), A, .no, .no, D, .fz (.int (c : Int)), z, E, F, G] = some [.fz (asksT as0), .fz many, .fz (.int (t : Int)), A, .no, .no, D, .fz (.int (c : Int)), .fz (.int (l : Int)), E, F, G] := by
      rw [asgT]
      cases z <;> first | rfl | (cases hz; done)
    obtain ⟨z', e⟩ := or_lesson many as0 t A D E F G r (c ||| l) (.fz (.int (l : Int))) rfl
    refine ⟨z', ?_⟩
    rw [show nl (l :: r) = .int (l : Int) :: nl r from rfl, for_cons, e1]
    simp only [List.getElem?_cons_zero, List.getElem?_cons_succ, List.set_cons_zero, List.set_cons_succ, List.getD_cons_zero, List.getD_cons_succ, ob_some, om_some, b_ok, b_ex, st_ok, st_ex, sq_nx, sq_rt, sq_bk, sq_ct, sq_ex, tu_nx, tu_rt, tu_bk, tu_ct, tu_ex, varR_fz, varR_ol, varR_bl, varR_io, v_var, v_lit, v_tup, v_lst, tupK_0, tupK_1, tupK_2, tupK_3, lstK_0, lstK_1, lstK_2, lstK_3, v_p1, p1K_eq, v_p2, p2K_eq, v_and, v_or, v_not, v_ite, v_call, v_mth, mth0_some, mthK_eq, mthO_some, own_eq, ownO_ol, ownO_io, mkOwn_t, mkOwn_f, v_sl, compK_eq, compT_some, v_comp, compC_none, wipe_nil, wipe_cons, rest_nil, rest_cons, fin_ok, con_fz, con_ol, con_plc, slCon_some, scon_fz, scon_ol, scon_bl, scon_io, set_fz, set_plc, set_ol, lift_some, bool_bl, opt_int, opt_non, toV_fz, toV_ol, toV_plc, toVO_ol, V_nil, V_cons, A_nil, A_cons, I_it1, itK_tup, itK_lst, itK_ol, itK_plc, itS_ol, itS_bl, I_rng1, I_rng2, I_rng3, S_nil, S_cons, S_expr, nxK_eq, S_asg, S_asgT, asgO_some, S_aug, augO_int, augK_add, S_setix, setK_eq, setO_some, setAt_eq, setA_0, S_ite, S_for, forO_some, lock_none, lock_ol, lock_bl, S_ret, S_ret0, S_brk, S_cont, S_pass, S_raise, raiK_some, setS_eq, setSO_no, setSO_fz, setSO_ol, setSO_bl, asgR_fz, asgR_ol, asgR_plc, asgP_ol, asgP_bl, retR_fz, retR_ol, retR_plc, retP_ol, asg_v, asg1_eq, asg1O_no, asg1O_fz, asg1O_ol, asg_tp, ag_nil, ag_cons, arg_nil, arg_fz, arg_plc, argT_ol, argT_bl, argT_olf, calR_ok, calR_ex, calI_t, calI_f, calO_some, io_plc, ioO_ol, ioO_io, forC_some, endF_rt, endF_nx, endF_ex, io_f, io_t, sl_io, sl_f, sl_tl, sl_nil, o_len_t, o_len_l, o_tuple_t, o_tuple_l, o_list_t, o_list_l, o_int, o_neg, o_sum, o_any, o_all, o_max, o_isN, o_notN, o_add, o_sub, o_band, o_bor, o_lt, o_le, o_gt, o_ge, o_eq, o_ne, o_ixT, o_ixL, at_0, at_1, m_pop, m_pop0, bor_nat, e]
    rfl
def srB_lesson : S := (.cons (.asg (.v 11) (.call 2 (.cons (.var 3) (.cons (.var 9) (.cons (.var 6) (.cons (.var 10) .nil)))))) (.cons (.ite (.p1 .notN (.var 11)) (.cons (.ret (.var 11)) .nil) .nil) .nil))
theorem sr_lesson (h2 : H2 Φ) (many : T) (as0 : List Ask) (t : Nat) (lots kept : List Nat) (hk : ∀ k ∈ kept, k < lots.length) (hn : kept.length ≤ 7) (full : Nat) (D E : Sl) : ∀ (ss : List Nat) (z7 z8 : Sl), (∀ s ∈ ss, s < 1000) → z7.isIo = false → z8.isIo = false →
    ∃ en, en.length = 12 ∧ forL (asgT (.v 10)) (evS sg Φ mk FU srB_lesson) (nl ss) [.fz (asksT as0), .fz many, .fz (.int (t : Int)), .fz (.lst (nl lots)), .no, .no, .fz (.int (full : Int)), D, E, .ol (nl kept), z7, z8]
      = (match ss.findSome? (fun s => (combos kept s).find? (cvp lots full)) with | some c => .rt (.fz (tT c)) en | none => .nx en)
  | [], z7, z8, _, _, _ => ⟨[.fz (asksT as0), .fz many, .fz (.int (t : Int)), .fz (.lst (nl lots)), .no, .no, .fz (.int (full : Int)), D, E, .ol (nl kept), z7, z8], rfl, rfl⟩
  | s :: r, z7, z8, hs, h7, h8 => by
    have hs0 := hs s (List.mem_cons_self ..)
    have e1 : asgT (.v 10) (.int (s : Int)) [.fz (asksT as0), .fz many, .fz (.int (t : Int)), .fz (.lst (nl lots)), .no, .no, .fz (.int (full : Int)), D, E, .ol (nl kept), z7, z8] = some [.fz (asksT as0), .fz many, .fz (.int (t : Int)), .fz (.lst (nl lots)), .no, .no, .fz (.int (full : Int)), D, E, .ol (nl kept), .fz (.int (s : Int)), z8] := by
      rw [asgT]
      cases z7 <;> first | rfl | (cases h7; done)
    have hset : ∀ q : T, setS 11 (.fz q) [.fz (asksT as0), .fz many, .fz (.int (t : Int)), .fz (.lst (nl lots)), .no, .no, .fz (.int (full : Int)), D, E, .ol (nl kept), .fz (.int (s : Int)), z8] = .nx [.fz (asksT as0), .fz many, .fz (.int (t : Int)), .fz (.lst (nl lots)), .no, .no, .fz (.int (full : Int)), D, E, .ol (nl kept), .fz (.int (s : Int)), .fz q] := fun q => by
      cases z8 <;> first | rfl | (cases h8; done)
    have s2 : sg 2 = ⟨4, false, [true, true, false, false]⟩ := rfl
    have eb : evS sg Φ mk FU srB_lesson [.fz (asksT as0), .fz many, .fz (.int (t : Int)), .fz (.lst (nl lots)), .no, .no, .fz (.int (full : Int)), D, E, .ol (nl kept), .fz (.int (s : Int)), z8] = (match (combos kept s).find? (cvp lots full) with
        | some c => .rt (.fz (tT c)) [.fz (asksT as0), .fz many, .fz (.int (t : Int)), .fz (.lst (nl lots)), .no, .no, .fz (.int (full : Int)), D, E, .ol (nl kept), .fz (.int (s : Int)), .fz (tT c)]
        | none => .nx [.fz (asksT as0), .fz many, .fz (.int (t : Int)), .fz (.lst (nl lots)), .no, .no, .fz (.int (full : Int)), D, E, .ol (nl kept), .fz (.int (s : Int)), .fz .non]) := by
      unfold srB_lesson
      have ec := h2 lots kept hk hn full s hs0
      simp only [S_cons, S_asg, v_call, A_cons, v_var, List.getElem?_cons_zero, List.getElem?_cons_succ, varR_fz, varR_ol, b_ok, A_nil, set_fz, set_plc, call_plain s2, arg_fz, arg_plc, argT_ol, arg_nil, ec, calR_ok, st_ok, asgR_fz, hset, sq_nx, S_ite, v_p1, p1K_eq, con_fz, ob_some, o_notN, lift_some, bool_bl, oT_non]
      cases (combos kept s).find? (cvp lots full) with
      | some c => simp only [List.getElem?_cons_zero, List.getElem?_cons_succ, List.set_cons_zero, List.set_cons_succ, List.getD_cons_zero, List.getD_cons_succ, ob_some, om_some, b_ok, b_ex, st_ok, st_ex, sq_nx, sq_rt, sq_bk, sq_ct, sq_ex, tu_nx, tu_rt, tu_bk, tu_ct, tu_ex, varR_fz, varR_ol, varR_bl, varR_io, v_var, v_lit, v_tup, v_lst, tupK_0, tupK_1, tupK_2, tupK_3, lstK_0, lstK_1, lstK_2, lstK_3, v_p1, p1K_eq, v_p2, p2K_eq, v_and, v_or, v_not, v_ite, v_call, v_mth, mth0_some, mthK_eq, mthO_some, own_eq, ownO_ol, ownO_io, mkOwn_t, mkOwn_f, v_sl, compK_eq, compT_some, v_comp, compC_none, wipe_nil, wipe_cons, rest_nil, rest_cons, fin_ok, con_fz, con_ol, con_plc, slCon_some, scon_fz, scon_ol, scon_bl, scon_io, set_fz, set_plc, set_ol, lift_some, bool_bl, opt_int, opt_non, toV_fz, toV_ol, toV_plc, toVO_ol, V_nil, V_cons, A_nil, A_cons, I_it1, itK_tup, itK_lst, itK_ol, itK_plc, itS_ol, itS_bl, I_rng1, I_rng2, I_rng3, S_nil, S_cons, S_expr, nxK_eq, S_asg, S_asgT, asgO_some, S_aug, augO_int, augK_add, S_setix, setK_eq, setO_some, setAt_eq, setA_0, S_ite, S_for, forO_some, lock_none, lock_ol, lock_bl, S_ret, S_ret0, S_brk, S_cont, S_pass, S_raise, raiK_some, setS_eq, setSO_no, setSO_fz, setSO_ol, setSO_bl, asgR_fz, asgR_ol, asgR_plc, asgP_ol, asgP_bl, retR_fz, retR_ol, retR_plc, retP_ol, asg_v, asg1_eq, asg1O_no, asg1O_fz, asg1O_ol, asg_tp, ag_nil, ag_cons, arg_nil, arg_fz, arg_plc, argT_ol, argT_bl, argT_olf, calR_ok, calR_ex, calI_t, calI_f, calO_some, io_plc, ioO_ol, ioO_io, forC_some, endF_rt, endF_nx, endF_ex, io_f, io_t, sl_io, sl_f, sl_tl, sl_nil, o_len_t, o_len_l, o_tuple_t, o_tuple_l, o_list_t, o_list_l, o_int, o_neg, o_sum, o_any, o_all, o_max, o_isN, o_notN, o_add, o_sub, o_band, o_bor, o_lt, o_le, o_gt, o_ge, o_eq, o_ne, o_ixT, o_ixL, at_0, at_1, m_pop, m_pop0, decide_true, decide_false, Bool.false_eq_true, reduceIte, Bool.not_true, Bool.not_false, Option.isNone_some, oT]
      | none => simp only [List.getElem?_cons_zero, List.getElem?_cons_succ, List.set_cons_zero, List.set_cons_succ, List.getD_cons_zero, List.getD_cons_succ, ob_some, om_some, b_ok, b_ex, st_ok, st_ex, sq_nx, sq_rt, sq_bk, sq_ct, sq_ex, tu_nx, tu_rt, tu_bk, tu_ct, tu_ex, varR_fz, varR_ol, varR_bl, varR_io, v_var, v_lit, v_tup, v_lst, tupK_0, tupK_1, tupK_2, tupK_3, lstK_0, lstK_1, lstK_2, lstK_3, v_p1, p1K_eq, v_p2, p2K_eq, v_and, v_or, v_not, v_ite, v_call, v_mth, mth0_some, mthK_eq, mthO_some, own_eq, ownO_ol, ownO_io, mkOwn_t, mkOwn_f, v_sl, compK_eq, compT_some, v_comp, compC_none, wipe_nil, wipe_cons, rest_nil, rest_cons, fin_ok, con_fz, con_ol, con_plc, slCon_some, scon_fz, scon_ol, scon_bl, scon_io, set_fz, set_plc, set_ol, lift_some, bool_bl, opt_int, opt_non, toV_fz, toV_ol, toV_plc, toVO_ol, V_nil, V_cons, A_nil, A_cons, I_it1, itK_tup, itK_lst, itK_ol, itK_plc, itS_ol, itS_bl, I_rng1, I_rng2, I_rng3, S_nil, S_cons, S_expr, nxK_eq, S_asg, S_asgT, asgO_some, S_aug, augO_int, augK_add, S_setix, setK_eq, setO_some, setAt_eq, setA_0, S_ite, S_for, forO_some, lock_none, lock_ol, lock_bl, S_ret, S_ret0, S_brk, S_cont, S_pass, S_raise, raiK_some, setS_eq, setSO_no, setSO_fz, setSO_ol, setSO_bl, asgR_fz, asgR_ol, asgR_plc, asgP_ol, asgP_bl, retR_fz, retR_ol, retR_plc, retP_ol, asg_v, asg1_eq, asg1O_no, asg1O_fz, asg1O_ol, asg_tp, ag_nil, ag_cons, arg_nil, arg_fz, arg_plc, argT_ol, argT_bl, argT_olf, calR_ok, calR_ex, calI_t, calI_f, calO_some, io_plc, ioO_ol, ioO_io, forC_some, endF_rt, endF_nx, endF_ex, io_f, io_t, sl_io, sl_f, sl_tl, sl_nil, o_len_t, o_len_l, o_tuple_t, o_tuple_l, o_list_t, o_list_l, o_int, o_neg, o_sum, o_any, o_all, o_max, o_isN, o_notN, o_add, o_sub, o_band, o_bor, o_lt, o_le, o_gt, o_ge, o_eq, o_ne, o_ixT, o_ixL, at_0, at_1, m_pop, m_pop0, decide_true, decide_false, Bool.false_eq_true, reduceIte, Bool.not_true, Bool.not_false, Option.isNone_none, oT]
    rw [show nl (s :: r) = .int (s : Int) :: nl r from rfl, for_cons, e1, forC_some, eb, List.findSome?_cons]
    cases (combos kept s).find? (cvp lots full) with
    | some c => exact ⟨_, by rfl, rfl⟩
    | none =>
      obtain ⟨en, hl, e⟩ := sr_lesson h2 many as0 t lots kept hk hn full D E r (.fz (.int (s : Int))) (.fz .non) (fun q hq => hs q (List.mem_cons_of_mem _ hq)) rfl rfl
      exact ⟨en, hl, e⟩
theorem ok_lesson (hK : H4 Φ) (h1 : H1 Φ) (h2 : H2 Φ) (as : List Ask) (hA : as.length ≤ 7) (m : Nat) (hm : m ≤ 8) (t : Nat) (ht : t < m) (hw : ∀ a ∈ as, a.1.length ≤ 10 ∧ t < a.1.length) :
    evD sg Φ mk FU (sg 5) ⟨12, ir_lesson⟩ [asksT as, .int (m : Int), .int (t : Int)] = .ok (.fz (oT (searchR (as.map (lotF t)) (fullT m t)))) [] := by
  rw [evD_eq, show sg 5 = ⟨3, false, [false, false, false]⟩ from rfl]
  have e0 : ir_lesson = (.cons (.ite (.p2 .gt (.var 1) (.lit (.int 8))) (.cons (.raise 0 (.cons (.lit (.int 8)) .nil)) .nil) .nil) (.cons (.asg (.v 3) (.comp (.call 4 (.cons (.var 4) (.cons (.var 2) .nil))) (.tp (.cons (.v 4) (.cons (.v 5) .nil))) (.it1 (.var 0)) (.lit (.bl true)) [4, 5])) (.cons (.asg (.v 6) (.p2 .sub (.p2 .sub (.p2 .shl (.lit (.int 1)) (.var 1)) (.lit (.int 1))) (.p2 .shl (.lit (.int 1)) (.var 2)))) (.cons (.asg (.v 7) (.lit (.int 0))) (.cons (.for (.v 8) (.it1 (.var 3)) (.cons (.asg (.v 7) (.p2 .bor (.var 7) (.var 8))) .nil)) (.cons (.ite (.p2 .ne (.var 7) (.var 6)) (.cons (.ret (.lit .non)) .nil) .nil) (.cons (.asg (.v 9) (.call 1 (.cons (.var 3) .nil))) (.cons (.for (.v 10) (.rng1 (.p2 .add (.p1 .len (.var 9)) (.lit (.int 1)))) srB_lesson) (.cons (.ret (.lit .non)) .nil))))))))) := rfl
  rw [e0]
  have h8 : ¬ ((8 : Int) < (m : Int)) := by omega
  obtain ⟨zv, zl, e⟩ := lots_lesson Φ hK (.int (m : Int)) as t .no .no .no .no .no .no .no as [] .no .no hw (by simp; omega) rfl rfl
  rw [show nl (([] : List Ask).map (lotF t)) = [] from rfl, List.nil_append] at e
  have efull : (shlOk 1 (m : Int) ∧ shlOk 1 (t : Int)) ∧ (1 : Int) * 2 ^ ((m : Int)).toNat - 1 - (1 : Int) * 2 ^ ((t : Int)).toNat = ((fullT m t : Nat) : Int) := by
    have key : ∀ q : Nat, q ≤ 8 → ∀ r : Nat, r < q → ((shlOk 1 (q : Int) ∧ shlOk 1 (r : Int)) ∧ (1 : Int) * 2 ^ ((q : Int)).toNat - 1 - (1 : Int) * 2 ^ ((r : Int)).toNat = ((fullT q r : Nat) : Int)) := by decide +kernel
    exact key m hm t ht
  have hlen : (as.map (lotF t)).length ≤ 7 := by rw [List.length_map]; exact hA
  simp only [asksT] at e ⊢
  simp only [sl_io, sl_f, sl_tl, sl_nil, List.length_cons, List.length_nil, List.replicate, List.cons_append, List.nil_append]
  simp only [S_cons, S_ite, v_p2, v_var, v_lit, List.getElem?_cons_zero, List.getElem?_cons_succ, varR_fz, b_ok, p2K_eq, con_fz, set_fz, ob_some, o_gt, lift_some, st_ok, bool_bl, h8, decide_true, decide_false, Bool.false_eq_true, reduceIte, Bool.not_true, Bool.not_false, S_nil, sq_nx, S_asg, v_comp, I_it1, itK_tup]
  rw [compE_eq (by rfl)]
  simp only [e, fin_ok, rest_cons, rest_nil, List.getD_cons_zero, List.getD_cons_succ, List.set_cons_zero, List.set_cons_succ, b_ok, st_ok, asgR_ol, setS_eq, List.getElem?_cons_zero, List.getElem?_cons_succ, setSO_no, sq_nx]
  obtain ⟨z5, eo⟩ := or_lesson Φ (.int (m : Int)) as t (.fz (.lst (nl (as.map (lotF t))))) (.fz (.int ((fullT m t) : Int))) .no .no .no (as.map (lotF t)) 0 .no rfl
  have ez : ((0 : Nat) : Int) = 0 := rfl
  rw [ez] at eo
  simp only [asksT] at eo
  have eor : (as.map (lotF t)).foldl (fun c l => c ||| l) 0 = orAll (as.map (lotF t)) := rfl
  rw [eor] at eo
  simp only [List.getElem?_cons_zero, List.getElem?_cons_succ, List.set_cons_zero, List.set_cons_succ, List.getD_cons_zero, List.getD_cons_succ, ob_some, om_some, b_ok, b_ex, st_ok, st_ex, sq_nx, sq_rt, sq_bk, sq_ct, sq_ex, tu_nx, tu_rt, tu_bk, tu_ct, tu_ex, varR_fz, varR_ol, varR_bl, varR_io, v_var, v_lit, v_tup, v_lst, tupK_0, tupK_1, tupK_2, tupK_3, lstK_0, lstK_1, lstK_2, lstK_3, v_p1, p1K_eq, v_p2, p2K_eq, v_and, v_or, v_not, v_ite, v_call, v_mth, mth0_some, mthK_eq, mthO_some, own_eq, ownO_ol, ownO_io, mkOwn_t, mkOwn_f, v_sl, compK_eq, compT_some, v_comp, compC_none, wipe_nil, wipe_cons, rest_nil, rest_cons, fin_ok, con_fz, con_ol, con_plc, slCon_some, scon_fz, scon_ol, scon_bl, scon_io, set_fz, set_plc, set_ol, lift_some, bool_bl, opt_int, opt_non, toV_fz, toV_ol, toV_plc, toVO_ol, V_nil, V_cons, A_nil, A_cons, I_it1, itK_tup, itK_lst, itK_ol, itK_plc, itS_ol, itS_bl, I_rng1, I_rng2, I_rng3, S_nil, S_cons, S_expr, nxK_eq, S_asg, S_asgT, asgO_some, S_aug, augO_int, augK_add, S_setix, setK_eq, setO_some, setAt_eq, setA_0, S_ite, S_for, forO_some, lock_none, lock_ol, lock_bl, S_ret, S_ret0, S_brk, S_cont, S_pass, S_raise, raiK_some, setS_eq, setSO_no, setSO_fz, setSO_ol, setSO_bl, asgR_fz, asgR_ol, asgR_plc, asgP_ol, asgP_bl, retR_fz, retR_ol, retR_plc, retP_ol, asg_v, asg1_eq, asg1O_no, asg1O_fz, asg1O_ol, asg_tp, ag_nil, ag_cons, arg_nil, arg_fz, arg_plc, argT_ol, argT_bl, argT_olf, calR_ok, calR_ex, calI_t, calI_f, calO_some, io_plc, ioO_ol, ioO_io, forC_some, endF_rt, endF_nx, endF_ex, io_f, io_t, sl_io, sl_f, sl_tl, sl_nil, o_len_t, o_len_l, o_tuple_t, o_tuple_l, o_list_t, o_list_l, o_int, o_neg, o_sum, o_any, o_all, o_max, o_isN, o_notN, o_add, o_sub, o_band, o_bor, o_lt, o_le, o_gt, o_ge, o_eq, o_ne, o_ixT, o_ixL, at_0, at_1, m_pop, m_pop0, o_shl efull.1.1, o_shl efull.1.2, efull.2, eo]
  have ed : decide (((orAll (as.map (lotF t)) : Nat) : Int) = (((fullT m t) : Nat) : Int)) = decide (orAll (as.map (lotF t)) = (fullT m t)) := by rw [decide_eq_decide]; omega
  simp only [ed]
  unfold searchR
  by_cases ho : orAll (as.map (lotF t)) = (fullT m t)
  · have s1 : sg 1 = ⟨1, false, [true]⟩ := rfl
    have ek : ((nl (und (as.map (lotF t)) (as.map (lotF t)).length)).length : Int) + 1 = (((und (as.map (lotF t)) (as.map (lotF t)).length).length + 1 : Nat) : Int) := by rw [nl_len]; rfl
    have hu := und_len (as.map (lotF t))
    have b1 : inBig (((und (as.map (lotF t)) (as.map (lotF t)).length).length + 1 : Nat) : Int) = true := by unfold inBig; exact decide_eq_true (by omega)
    obtain ⟨en, hl, es⟩ := sr_lesson Φ h2 (.int (m : Int)) as t (as.map (lotF t)) (und (as.map (lotF t)) (as.map (lotF t)).length) (und_lt _) (by omega) (fullT m t) (.fz (.int ((orAll (as.map (lotF t)) : Nat) : Int))) z5 (List.range ((und (as.map (lotF t)) (as.map (lotF t)).length).length + 1)) .no .no (fun s hs => by have := List.mem_range.mp hs; omega) rfl rfl
    rw [← rangeI_nl0] at es
    simp only [asksT] at es
    rw [if_pos ho]
    simp only [ho] at es ⊢
    simp only [List.getElem?_cons_zero, List.getElem?_cons_succ, List.set_cons_zero, List.set_cons_succ, List.getD_cons_zero, List.getD_cons_succ, ob_some, om_some, b_ok, b_ex, st_ok, st_ex, sq_nx, sq_rt, sq_bk, sq_ct, sq_ex, tu_nx, tu_rt, tu_bk, tu_ct, tu_ex, varR_fz, varR_ol, varR_bl, varR_io, v_var, v_lit, v_tup, v_lst, tupK_0, tupK_1, tupK_2, tupK_3, lstK_0, lstK_1, lstK_2, lstK_3, v_p1, p1K_eq, v_p2, p2K_eq, v_and, v_or, v_not, v_ite, v_call, v_mth, mth0_some, mthK_eq, mthO_some, own_eq, ownO_ol, ownO_io, mkOwn_t, mkOwn_f, v_sl, compK_eq, compT_some, v_comp, compC_none, wipe_nil, wipe_cons, rest_nil, rest_cons, fin_ok, con_fz, con_ol, con_plc, slCon_some, scon_fz, scon_ol, scon_bl, scon_io, set_fz, set_plc, set_ol, lift_some, bool_bl, opt_int, opt_non, toV_fz, toV_ol, toV_plc, toVO_ol, V_nil, V_cons, A_nil, A_cons, I_it1, itK_tup, itK_lst, itK_ol, itK_plc, itS_ol, itS_bl, I_rng1, I_rng2, I_rng3, S_nil, S_cons, S_expr, nxK_eq, S_asg, S_asgT, asgO_some, S_aug, augO_int, augK_add, S_setix, setK_eq, setO_some, setAt_eq, setA_0, S_ite, S_for, forO_some, lock_none, lock_ol, lock_bl, S_ret, S_ret0, S_brk, S_cont, S_pass, S_raise, raiK_some, setS_eq, setSO_no, setSO_fz, setSO_ol, setSO_bl, asgR_fz, asgR_ol, asgR_plc, asgP_ol, asgP_bl, retR_fz, retR_ol, retR_plc, retP_ol, asg_v, asg1_eq, asg1O_no, asg1O_fz, asg1O_ol, asg_tp, ag_nil, ag_cons, arg_nil, arg_fz, arg_plc, argT_ol, argT_bl, argT_olf, calR_ok, calR_ex, calI_t, calI_f, calO_some, io_plc, ioO_ol, ioO_io, forC_some, endF_rt, endF_nx, endF_ex, io_f, io_t, sl_io, sl_f, sl_tl, sl_nil, o_len_t, o_len_l, o_tuple_t, o_tuple_l, o_list_t, o_list_l, o_int, o_neg, o_sum, o_any, o_all, o_max, o_isN, o_notN, o_add, o_sub, o_band, o_bor, o_lt, o_le, o_gt, o_ge, o_eq, o_ne, o_ixT, o_ixL, at_0, at_1, m_pop, m_pop0, decide_true, decide_false, Bool.false_eq_true, reduceIte, Bool.not_true, Bool.not_false, call_plain s1, h1 _ hlen, ek, rg1_ok b1, Int.toNat_natCast, es]
    unfold hit
    cases (List.range ((und (as.map (lotF t)) (as.map (lotF t)).length).length + 1)).findSome? (fun s => (combos (und (as.map (lotF t)) (as.map (lotF t)).length) s).find? (cvp (as.map (lotF t)) (fullT m t))) with
    | some c => simp only [List.getElem?_cons_zero, List.getElem?_cons_succ, List.set_cons_zero, List.set_cons_succ, List.getD_cons_zero, List.getD_cons_succ, ob_some, om_some, b_ok, b_ex, st_ok, st_ex, sq_nx, sq_rt, sq_bk, sq_ct, sq_ex, tu_nx, tu_rt, tu_bk, tu_ct, tu_ex, varR_fz, varR_ol, varR_bl, varR_io, v_var, v_lit, v_tup, v_lst, tupK_0, tupK_1, tupK_2, tupK_3, lstK_0, lstK_1, lstK_2, lstK_3, v_p1, p1K_eq, v_p2, p2K_eq, v_and, v_or, v_not, v_ite, v_call, v_mth, mth0_some, mthK_eq, mthO_some, own_eq, ownO_ol, ownO_io, mkOwn_t, mkOwn_f, v_sl, compK_eq, compT_some, v_comp, compC_none, wipe_nil, wipe_cons, rest_nil, rest_cons, fin_ok, con_fz, con_ol, con_plc, slCon_some, scon_fz, scon_ol, scon_bl, scon_io, set_fz, set_plc, set_ol, lift_some, bool_bl, opt_int, opt_non, toV_fz, toV_ol, toV_plc, toVO_ol, V_nil, V_cons, A_nil, A_cons, I_it1, itK_tup, itK_lst, itK_ol, itK_plc, itS_ol, itS_bl, I_rng1, I_rng2, I_rng3, S_nil, S_cons, S_expr, nxK_eq, S_asg, S_asgT, asgO_some, S_aug, augO_int, augK_add, S_setix, setK_eq, setO_some, setAt_eq, setA_0, S_ite, S_for, forO_some, lock_none, lock_ol, lock_bl, S_ret, S_ret0, S_brk, S_cont, S_pass, S_raise, raiK_some, setS_eq, setSO_no, setSO_fz, setSO_ol, setSO_bl, asgR_fz, asgR_ol, asgR_plc, asgP_ol, asgP_bl, retR_fz, retR_ol, retR_plc, retP_ol, asg_v, asg1_eq, asg1O_no, asg1O_fz, asg1O_ol, asg_tp, ag_nil, ag_cons, arg_nil, arg_fz, arg_plc, argT_ol, argT_bl, argT_olf, calR_ok, calR_ex, calI_t, calI_f, calO_some, io_plc, ioO_ol, ioO_io, forC_some, endF_rt, endF_nx, endF_ex, io_f, io_t, sl_io, sl_f, sl_tl, sl_nil, o_len_t, o_len_l, o_tuple_t, o_tuple_l, o_list_t, o_list_l, o_int, o_neg, o_sum, o_any, o_all, o_max, o_isN, o_notN, o_add, o_sub, o_band, o_bor, o_lt, o_le, o_gt, o_ge, o_eq, o_ne, o_ixT, o_ixL, at_0, at_1, m_pop, m_pop0]; rfl
    | none =>
      match en, hl with
      | [a, b, c, d, e, f, g, h, i, j, k, l], _ => simp only [List.getElem?_cons_zero, List.getElem?_cons_succ, List.set_cons_zero, List.set_cons_succ, List.getD_cons_zero, List.getD_cons_succ, ob_some, om_some, b_ok, b_ex, st_ok, st_ex, sq_nx, sq_rt, sq_bk, sq_ct, sq_ex, tu_nx, tu_rt, tu_bk, tu_ct, tu_ex, varR_fz, varR_ol, varR_bl, varR_io, v_var, v_lit, v_tup, v_lst, tupK_0, tupK_1, tupK_2, tupK_3, lstK_0, lstK_1, lstK_2, lstK_3, v_p1, p1K_eq, v_p2, p2K_eq, v_and, v_or, v_not, v_ite, v_call, v_mth, mth0_some, mthK_eq, mthO_some, own_eq, ownO_ol, ownO_io, mkOwn_t, mkOwn_f, v_sl, compK_eq, compT_some, v_comp, compC_none, wipe_nil, wipe_cons, rest_nil, rest_cons, fin_ok, con_fz, con_ol, con_plc, slCon_some, scon_fz, scon_ol, scon_bl, scon_io, set_fz, set_plc, set_ol, lift_some, bool_bl, opt_int, opt_non, toV_fz, toV_ol, toV_plc, toVO_ol, V_nil, V_cons, A_nil, A_cons, I_it1, itK_tup, itK_lst, itK_ol, itK_plc, itS_ol, itS_bl, I_rng1, I_rng2, I_rng3, S_nil, S_cons, S_expr, nxK_eq, S_asg, S_asgT, asgO_some, S_aug, augO_int, augK_add, S_setix, setK_eq, setO_some, setAt_eq, setA_0, S_ite, S_for, forO_some, lock_none, lock_ol, lock_bl, S_ret, S_ret0, S_brk, S_cont, S_pass, S_raise, raiK_some, setS_eq, setSO_no, setSO_fz, setSO_ol, setSO_bl, asgR_fz, asgR_ol, asgR_plc, asgP_ol, asgP_bl, retR_fz, retR_ol, retR_plc, retP_ol, asg_v, asg1_eq, asg1O_no, asg1O_fz, asg1O_ol, asg_tp, ag_nil, ag_cons, arg_nil, arg_fz, arg_plc, argT_ol, argT_bl, argT_olf, calR_ok, calR_ex, calI_t, calI_f, calO_some, io_plc, ioO_ol, ioO_io, forC_some, endF_rt, endF_nx, endF_ex, io_f, io_t, sl_io, sl_f, sl_tl, sl_nil, o_len_t, o_len_l, o_tuple_t, o_tuple_l, o_list_t, o_list_l, o_int, o_neg, o_sum, o_any, o_all, o_max, o_isN, o_notN, o_add, o_sub, o_band, o_bor, o_lt, o_le, o_gt, o_ge, o_eq, o_ne, o_ixT, o_ixL, at_0, at_1, m_pop, m_pop0]; rfl
  · rw [if_neg ho]
    simp only [List.getElem?_cons_zero, List.getElem?_cons_succ, List.set_cons_zero, List.set_cons_succ, List.getD_cons_zero, List.getD_cons_succ, ob_some, om_some, b_ok, b_ex, st_ok, st_ex, sq_nx, sq_rt, sq_bk, sq_ct, sq_ex, tu_nx, tu_rt, tu_bk, tu_ct, tu_ex, varR_fz, varR_ol, varR_bl, varR_io, v_var, v_lit, v_tup, v_lst, tupK_0, tupK_1, tupK_2, tupK_3, lstK_0, lstK_1, lstK_2, lstK_3, v_p1, p1K_eq, v_p2, p2K_eq, v_and, v_or, v_not, v_ite, v_call, v_mth, mth0_some, mthK_eq, mthO_some, own_eq, ownO_ol, ownO_io, mkOwn_t, mkOwn_f, v_sl, compK_eq, compT_some, v_comp, compC_none, wipe_nil, wipe_cons, rest_nil, rest_cons, fin_ok, con_fz, con_ol, con_plc, slCon_some, scon_fz, scon_ol, scon_bl, scon_io, set_fz, set_plc, set_ol, lift_some, bool_bl, opt_int, opt_non, toV_fz, toV_ol, toV_plc, toVO_ol, V_nil, V_cons, A_nil, A_cons, I_it1, itK_tup, itK_lst, itK_ol, itK_plc, itS_ol, itS_bl, I_rng1, I_rng2, I_rng3, S_nil, S_cons, S_expr, nxK_eq, S_asg, S_asgT, asgO_some, S_aug, augO_int, augK_add, S_setix, setK_eq, setO_some, setAt_eq, setA_0, S_ite, S_for, forO_some, lock_none, lock_ol, lock_bl, S_ret, S_ret0, S_brk, S_cont, S_pass, S_raise, raiK_some, setS_eq, setSO_no, setSO_fz, setSO_ol, setSO_bl, asgR_fz, asgR_ol, asgR_plc, asgP_ol, asgP_bl, retR_fz, retR_ol, retR_plc, retP_ol, asg_v, asg1_eq, asg1O_no, asg1O_fz, asg1O_ol, asg_tp, ag_nil, ag_cons, arg_nil, arg_fz, arg_plc, argT_ol, argT_bl, argT_olf, calR_ok, calR_ex, calI_t, calI_f, calO_some, io_plc, ioO_ol, ioO_io, forC_some, endF_rt, endF_nx, endF_ex, io_f, io_t, sl_io, sl_f, sl_tl, sl_nil, o_len_t, o_len_l, o_tuple_t, o_tuple_l, o_list_t, o_list_l, o_int, o_neg, o_sum, o_any, o_all, o_max, o_isN, o_notN, o_add, o_sub, o_band, o_bor, o_lt, o_le, o_gt, o_ge, o_eq, o_ne, o_ixT, o_ixL, at_0, at_1, m_pop, m_pop0, ho, decide_true, decide_false, Bool.false_eq_true, reduceIte, Bool.not_true, Bool.not_false]
    rfl

theorem ex_least (as : List Ask) : evD sg Φ mk FU (sg 3) ⟨11, ir_least_tests⟩ [asksT as, .int 9] = .ex ⟨0, [("limit", .int 8)]⟩ [] := by
  rw [evD_eq, show sg 3 = ⟨2, false, [false, false]⟩ from rfl]
  unfold ir_least_tests
  have h8 : ((8 : Int) < 9) = True := by simp
  have em : mk 0 [.int 8] = some ⟨0, [("limit", .int 8)]⟩ := rfl
  simp only [sl_io, sl_f, sl_tl, sl_nil, List.length_cons, List.length_nil, List.replicate, List.cons_append, List.nil_append]
  simp only [List.getElem?_cons_zero, List.getElem?_cons_succ, List.set_cons_zero, List.set_cons_succ, List.getD_cons_zero, List.getD_cons_succ, ob_some, om_some, b_ok, b_ex, st_ok, st_ex, sq_nx, sq_rt, sq_bk, sq_ct, sq_ex, tu_nx, tu_rt, tu_bk, tu_ct, tu_ex, varR_fz, varR_ol, varR_bl, varR_io, v_var, v_lit, v_tup, v_lst, tupK_0, tupK_1, tupK_2, tupK_3, lstK_0, lstK_1, lstK_2, lstK_3, v_p1, p1K_eq, v_p2, p2K_eq, v_and, v_or, v_not, v_ite, v_call, v_mth, mth0_some, mthK_eq, mthO_some, own_eq, ownO_ol, ownO_io, mkOwn_t, mkOwn_f, v_sl, compK_eq, compT_some, v_comp, compC_none, wipe_nil, wipe_cons, rest_nil, rest_cons, fin_ok, con_fz, con_ol, con_plc, slCon_some, scon_fz, scon_ol, scon_bl, scon_io, set_fz, set_plc, set_ol, lift_some, bool_bl, opt_int, opt_non, toV_fz, toV_ol, toV_plc, toVO_ol, V_nil, V_cons, A_nil, A_cons, I_it1, itK_tup, itK_lst, itK_ol, itK_plc, itS_ol, itS_bl, I_rng1, I_rng2, I_rng3, S_nil, S_cons, S_expr, nxK_eq, S_asg, S_asgT, asgO_some, S_aug, augO_int, augK_add, S_setix, setK_eq, setO_some, setAt_eq, setA_0, S_ite, S_for, forO_some, lock_none, lock_ol, lock_bl, S_ret, S_ret0, S_brk, S_cont, S_pass, S_raise, raiK_some, setS_eq, setSO_no, setSO_fz, setSO_ol, setSO_bl, asgR_fz, asgR_ol, asgR_plc, asgP_ol, asgP_bl, retR_fz, retR_ol, retR_plc, retP_ol, asg_v, asg1_eq, asg1O_no, asg1O_fz, asg1O_ol, asg_tp, ag_nil, ag_cons, arg_nil, arg_fz, arg_plc, argT_ol, argT_bl, argT_olf, calR_ok, calR_ex, calI_t, calI_f, calO_some, io_plc, ioO_ol, ioO_io, forC_some, endF_rt, endF_nx, endF_ex, io_f, io_t, sl_io, sl_f, sl_tl, sl_nil, o_len_t, o_len_l, o_tuple_t, o_tuple_l, o_list_t, o_list_l, o_int, o_neg, o_sum, o_any, o_all, o_max, o_isN, o_notN, o_add, o_sub, o_band, o_bor, o_lt, o_le, o_gt, o_ge, o_eq, o_ne, o_ixT, o_ixL, at_0, at_1, m_pop, m_pop0, h8, decide_true, decide_false, Bool.false_eq_true, reduceIte, Bool.not_true, Bool.not_false, em]
theorem ex_lesson (as : List Ask) (t : Int) : evD sg Φ mk FU (sg 5) ⟨12, ir_lesson⟩ [asksT as, .int 9, .int t] = .ex ⟨0, [("limit", .int 8)]⟩ [] := by
  rw [evD_eq, show sg 5 = ⟨3, false, [false, false, false]⟩ from rfl]
  unfold ir_lesson
  have h8 : ((8 : Int) < 9) = True := by simp
  have em : mk 0 [.int 8] = some ⟨0, [("limit", .int 8)]⟩ := rfl
  simp only [sl_io, sl_f, sl_tl, sl_nil, List.length_cons, List.length_nil, List.replicate, List.cons_append, List.nil_append]
  simp only [List.getElem?_cons_zero, List.getElem?_cons_succ, List.set_cons_zero, List.set_cons_succ, List.getD_cons_zero, List.getD_cons_succ, ob_some, om_some, b_ok, b_ex, st_ok, st_ex, sq_nx, sq_rt, sq_bk, sq_ct, sq_ex, tu_nx, tu_rt, tu_bk, tu_ct, tu_ex, varR_fz, varR_ol, varR_bl, varR_io, v_var, v_lit, v_tup, v_lst, tupK_0, tupK_1, tupK_2, tupK_3, lstK_0, lstK_1, lstK_2, lstK_3, v_p1, p1K_eq, v_p2, p2K_eq, v_and, v_or, v_not, v_ite, v_call, v_mth, mth0_some, mthK_eq, mthO_some, own_eq, ownO_ol, ownO_io, mkOwn_t, mkOwn_f, v_sl, compK_eq, compT_some, v_comp, compC_none, wipe_nil, wipe_cons, rest_nil, rest_cons, fin_ok, con_fz, con_ol, con_plc, slCon_some, scon_fz, scon_ol, scon_bl, scon_io, set_fz, set_plc, set_ol, lift_some, bool_bl, opt_int, opt_non, toV_fz, toV_ol, toV_plc, toVO_ol, V_nil, V_cons, A_nil, A_cons, I_it1, itK_tup, itK_lst, itK_ol, itK_plc, itS_ol, itS_bl, I_rng1, I_rng2, I_rng3, S_nil, S_cons, S_expr, nxK_eq, S_asg, S_asgT, asgO_some, S_aug, augO_int, augK_add, S_setix, setK_eq, setO_some, setAt_eq, setA_0, S_ite, S_for, forO_some, lock_none, lock_ol, lock_bl, S_ret, S_ret0, S_brk, S_cont, S_pass, S_raise, raiK_some, setS_eq, setSO_no, setSO_fz, setSO_ol, setSO_bl, asgR_fz, asgR_ol, asgR_plc, asgP_ol, asgP_bl, retR_fz, retR_ol, retR_plc, retP_ol, asg_v, asg1_eq, asg1O_no, asg1O_fz, asg1O_ol, asg_tp, ag_nil, ag_cons, arg_nil, arg_fz, arg_plc, argT_ol, argT_bl, argT_olf, calR_ok, calR_ex, calI_t, calI_f, calO_some, io_plc, ioO_ol, ioO_io, forC_some, endF_rt, endF_nx, endF_ex, io_f, io_t, sl_io, sl_f, sl_tl, sl_nil, o_len_t, o_len_l, o_tuple_t, o_tuple_l, o_list_t, o_list_l, o_int, o_neg, o_sum, o_any, o_all, o_max, o_isN, o_notN, o_add, o_sub, o_band, o_bor, o_lt, o_le, o_gt, o_ge, o_eq, o_ne, o_ixT, o_ixL, at_0, at_1, m_pop, m_pop0, h8, decide_true, decide_false, Bool.false_eq_true, reduceIte, Bool.not_true, Bool.not_false, em]
end
end K73

set_option Elab.async false
set_option linter.all false
set_option autoImplicit false
set_option maxRecDepth 100000
set_option maxHeartbeats 1000000
namespace K73
open PySem Ev
/-! ### what the program finds is what the law finds -/
theorem orAll_bit (lots : List Nat) (i : Nat) : (orAll lots).testBit i = lots.any fun l => l.testBit i := by
  unfold orAll
  have key : ∀ (ls : List Nat) (c : Nat), (ls.foldl (fun c l => c ||| l) c).testBit i = (c.testBit i || ls.any fun l => l.testBit i) := by
    intro ls
    induction ls with
    | nil => intro c; simp
    | cons l r ih => intro c; rw [List.foldl_cons, ih, Nat.testBit_or, List.any_cons, Bool.or_assoc]
  rw [key]
  simp
theorem lot_get {lots : List Nat} {k : Nat} (h : k < lots.length) : lot lots k = lots[k] := by unfold lot; rw [List.getD_eq_getElem?_getD, List.getElem?_eq_getElem h]; rfl
theorem orAll_cv (lots : List Nat) : orAll lots = cv lots (List.range lots.length) := by
  refine Nat.eq_of_testBit_eq fun i => ?_
  rw [orAll_bit, cv_bit, Bool.eq_iff_iff, List.any_eq_true, List.any_eq_true]
  constructor
  · rintro ⟨l, hl, hb⟩
    obtain ⟨k, hk, rfl⟩ := List.mem_iff_getElem.mp hl
    exact ⟨k, List.mem_range.mpr hk, by rw [lot_get hk]; exact hb⟩
  · rintro ⟨k, hk, hb⟩
    have hk := List.mem_range.mp hk
    rw [lot_get hk] at hb
    exact ⟨_, List.getElem_mem hk, hb⟩
theorem search_eq {lots : List Nat} {full : Nat} {q : List Nat → Bool} (sub : ∀ k, k < lots.length → ∀ i, (lot lots k).testBit i = true → full.testBit i = true) (hq : ∀ ks, (∀ k ∈ ks, k < lots.length) → cvp lots full ks = q ks) : searchR lots full = fw q lots.length := by
  rw [← fw_congr hq]
  unfold searchR
  split
  · exact same_first (und_kept lots lots.length) sub
  · rename_i h
    rw [orAll_cv] at h
    exact (no_cover sub h).symm
def pairsL (M : Nat) : List (Nat × Nat) := (List.range M).flatMap fun f => (List.range' (f + 1) (M - (f + 1))).map fun s => (f, s)
theorem mem_pairsL {M : Nat} {p : Nat × Nat} : p ∈ pairsL M ↔ p.1 < p.2 ∧ p.2 < M := by
  unfold pairsL
  simp only [List.mem_flatMap, List.mem_map, List.mem_range, List.mem_range'_1]
  constructor
  · rintro ⟨f, hf, s, hs, rfl⟩
    simp only
    omega
  · rintro ⟨h1, h2⟩
    exact ⟨p.1, by omega, p.2, by omega, rfl⟩
theorem pbits_map (vs : List Int) : pbits vs = (pairsL vs.length).map fun p => vd vs p.1 p.2 := by
  unfold pbits pairsL
  rw [List.map_flatMap]
  congr 1
  funext f
  rw [List.map_map]
  rfl
theorem lotP_bit {as : List Ask} {M k : Nat} (w : Wf as M) (hk : k < as.length) (i : Nat) : (lot (as.map lotP) k).testBit i = ((pairsL M).map fun p => diff as k p.1 p.2).getD i false := by
  rw [lot_get (by rw [List.length_map]; exact hk), List.getElem_map]
  unfold lotP
  rw [ofB_bit, pbits_map, w _ (List.getElem_mem hk)]
  have e : as.getD k ([], 0) = as[k] := by rw [List.getD_eq_getElem?_getD, List.getElem?_eq_getElem hk]; rfl
  unfold diff vat
  rw [e]
  rfl
theorem getD_true {l : List Bool} {i : Nat} : l.getD i false = true ↔ ∃ h : i < l.length, l[i] = true := by
  rw [List.getD_eq_getElem?_getD]
  by_cases h : i < l.length
  · rw [List.getElem?_eq_getElem h]
    simp [h]
  · rw [List.getElem?_eq_none (by omega)]
    simp [h]
theorem fullP_bit {M : Nat} (hM : M ≤ 8) (i : Nat) : (fullP M).testBit i = decide (i < (pairsL M).length) := by
  have key : ∀ q : Nat, q ≤ 8 → (pairsL q).length = q * (q - 1) / 2 := by decide +kernel
  unfold fullP
  rw [Nat.testBit_two_pow_sub_one, key M hM]
theorem least_law {as : List Ask} {M : Nat} (w : Wf as M) (hM : M ≤ 8) : searchR (as.map lotP) (fullP M) = fw (pa as (pairsL M)) as.length := by
  have hl : (as.map lotP).length = as.length := List.length_map ..
  have sub : ∀ k, k < (as.map lotP).length → ∀ i, (lot (as.map lotP) k).testBit i = true → (fullP M).testBit i = true := fun k hk i hb => by
    rw [lotP_bit w (by rw [← hl]; exact hk), getD_true] at hb
    obtain ⟨h, _⟩ := hb
    rw [fullP_bit hM, decide_eq_true_iff]
    simpa using h
  rw [search_eq (q := pa as (pairsL M)) sub (fun ks hk => ?_), hl]
  rw [hl] at hk
  rw [Bool.eq_iff_iff, cvp_iff fun k h => sub k (by rw [hl]; exact hk k h)]
  unfold pa
  rw [List.all_eq_true]
  constructor
  · intro h p hp
    obtain ⟨i, hi, rfl⟩ := List.mem_iff_getElem.mp hp
    obtain ⟨k, hk1, hb⟩ := h i (by rw [fullP_bit hM, decide_eq_true_iff]; exact hi)
    rw [lotP_bit w (hk k hk1), getD_true] at hb
    obtain ⟨h1, h2⟩ := hb
    rw [List.any_eq_true]
    exact ⟨k, hk1, by simpa using h2⟩
  · intro h i hi
    rw [fullP_bit hM, decide_eq_true_iff] at hi
    have := h _ (List.getElem_mem hi)
    rw [List.any_eq_true] at this
    obtain ⟨k, hk1, hb⟩ := this
    exact ⟨k, hk1, by rw [lotP_bit w (hk k hk1), getD_true]; exact ⟨by simpa using hi, by simpa using hb⟩⟩
/-- the law's own list of all pairs -/
def everyL (M : Nat) : List (Nat × Nat) := (List.range M).flatMap fun s => (List.range s).map fun f => (f, s)
theorem mem_everyL {M : Nat} {p : Nat × Nat} : p ∈ everyL M ↔ p.1 < p.2 ∧ p.2 < M := by
  unfold everyL
  simp only [List.mem_flatMap, List.mem_map, List.mem_range]
  constructor
  · rintro ⟨s, hs, f, hf, rfl⟩
    exact ⟨hf, hs⟩
  · rintro ⟨h1, h2⟩
    exact ⟨p.2, h2, p.1, h1, rfl⟩
theorem pa_congr {as : List Ask} {ps qs : List (Nat × Nat)} (h : ∀ p, p ∈ ps ↔ p ∈ qs) (ks : List Nat) : pa as ps ks = pa as qs ks := by
  unfold pa
  rw [Bool.eq_iff_iff, List.all_eq_true, List.all_eq_true]
  constructor
  · intro q p hp; exact q p ((h p).mpr hp)
  · intro q p hp; exact q p ((h p).mp hp)
theorem least_law' {as : List Ask} {M : Nat} (w : Wf as M) (hM : M ≤ 8) : searchR (as.map lotP) (fullP M) = fw (pa as (everyL M)) as.length := by
  rw [least_law w hM]
  exact fw_congr fun ks _ => pa_congr (fun p => by rw [mem_pairsL, mem_everyL]) ks
def fromL (M t : Nat) : List (Nat × Nat) := ((List.range M).filter fun o => decide (o ≠ t)).map fun o => (t, o)
theorem lotF_bit {as : List Ask} {M k t : Nat} (w : Wf as M) (hk : k < as.length) (i : Nat) : (lot (as.map (lotF t)) k).testBit i = (decide (i < M) && diff as k t i) := by
  rw [lot_get (by rw [List.length_map]; exact hk), List.getElem_map]
  unfold lotF
  have e : as.getD k ([], 0) = as[k] := by rw [List.getD_eq_getElem?_getD, List.getElem?_eq_getElem hk]; rfl
  have hM := w _ (List.getElem_mem hk)
  unfold fbits
  rw [ofB_bit, hM, Bool.eq_iff_iff, getD_true, Bool.and_eq_true, decide_eq_true_iff]
  have hv : ∀ o, vd (as[k]).1 o t = diff as k t o := fun o => by
    unfold vd diff vat
    rw [e]
    congr 1
    rw [decide_eq_decide]
    exact eq_comm
  constructor
  · rintro ⟨h1, h2⟩
    simp only [List.getElem_map, List.getElem_range, hv] at h2
    exact ⟨by simpa using h1, h2⟩
  · rintro ⟨h1, h2⟩
    exact ⟨by simpa using h1, by simp only [List.getElem_map, List.getElem_range, hv]; exact h2⟩
theorem fullT_bit {M t : Nat} (hM : M ≤ 8) (ht : t < M) (i : Nat) : (fullT M t).testBit i = (decide (i < M) && decide (i ≠ t)) := by
  have key : ∀ q : Nat, q ≤ 8 → ∀ r : Nat, r < q → (fullT q r < 2 ^ q ∧ ∀ i : Nat, i < q → (fullT q r).testBit i = decide (i ≠ r)) := by decide +kernel
  obtain ⟨h1, h2⟩ := key M hM t ht
  by_cases hi : i < M
  · rw [h2 i hi]; simp [hi]
  · rw [Nat.testBit_lt_two_pow (Nat.lt_of_lt_of_le h1 (Nat.pow_le_pow_right (by decide) (by omega)))]
    simp [hi]
theorem diff_self (as : List Ask) (k t : Nat) : diff as k t t = false := by unfold diff; simp
theorem lesson_law {as : List Ask} {M t : Nat} (w : Wf as M) (hM : M ≤ 8) (ht : t < M) : searchR (as.map (lotF t)) (fullT M t) = fw (pa as (fromL M t)) as.length := by
  have hl : (as.map (lotF t)).length = as.length := List.length_map ..
  have sub : ∀ k, k < (as.map (lotF t)).length → ∀ i, (lot (as.map (lotF t)) k).testBit i = true → (fullT M t).testBit i = true := fun k hk i hb => by
    rw [lotF_bit w (by rw [← hl]; exact hk), Bool.and_eq_true] at hb
    rw [fullT_bit hM ht, Bool.and_eq_true, decide_eq_true_iff, decide_eq_true_iff]
    refine ⟨of_decide_eq_true hb.1, fun e => ?_⟩
    rw [e, diff_self] at hb
    cases hb.2
  rw [search_eq (q := pa as (fromL M t)) sub (fun ks hk => ?_), hl]
  rw [hl] at hk
  rw [Bool.eq_iff_iff, cvp_iff fun k h => sub k (by rw [hl]; exact hk k h)]
  unfold pa
  rw [List.all_eq_true]
  constructor
  · intro h p hp
    unfold fromL at hp
    simp only [List.mem_map, List.mem_filter, List.mem_range, decide_eq_true_eq] at hp
    obtain ⟨o, ⟨ho1, ho2⟩, rfl⟩ := hp
    obtain ⟨k, hk1, hb⟩ := h o (by rw [fullT_bit hM ht, Bool.and_eq_true, decide_eq_true_iff, decide_eq_true_iff]; exact ⟨ho1, ho2⟩)
    rw [lotF_bit w (hk k hk1), Bool.and_eq_true] at hb
    rw [List.any_eq_true]
    exact ⟨k, hk1, hb.2⟩
  · intro h i hi
    rw [fullT_bit hM ht, Bool.and_eq_true, decide_eq_true_iff, decide_eq_true_iff] at hi
    have := h (t, i) (by
      unfold fromL
      simp only [List.mem_map, List.mem_filter, List.mem_range, decide_eq_true_eq]
      exact ⟨i, hi, rfl⟩)
    rw [List.any_eq_true] at this
    obtain ⟨k, hk1, hb⟩ := this
    exact ⟨k, hk1, by rw [lotF_bit w (hk k hk1), Bool.and_eq_true, decide_eq_true_iff]; exact ⟨hi.1, hb⟩⟩
end K73

set_option Elab.async false
set_option linter.all false
set_option autoImplicit false
set_option maxRecDepth 100000
set_option maxHeartbeats 1000000
namespace K73
open PySem Ev
/-! ### hardest -/
def updF (t l : Nat) : Option (Nat × Nat) → Option (Nat × Nat)
  | none => some (t, l)
  | some p => if p.2 < l then some (t, l) else some p
def hardL (Ls : Nat → Option (List Nat)) : List Nat → Option (Nat × Nat) → Option (Nat × Nat)
  | [], f => f
  | t :: r, f => match Ls t with
    | none => none
    | some c => hardL Ls r (updF t c.length f)
def hT : Option (Nat × Nat) → T
  | none => .non
  | some p => .tup [.int (p.1 : Int), .int (p.2 : Int)]
section
variable (Φ : Tab)
def harB : S := (.cons (.asg (.v 4) (.call 5 (.cons (.var 0) (.cons (.var 1) (.cons (.var 3) .nil))))) (.cons (.ite (.p1 .isN (.var 4)) (.cons (.ret (.lit .non)) .nil) .nil) (.cons (.ite (.or (.p1 .isN (.var 2)) (.p2 .gt (.p1 .len (.var 4)) (.p2 .ix (.var 2) (.lit (.int 1))))) (.cons (.asg (.v 2) (.tup (.cons (.var 3) (.cons (.p1 .len (.var 4)) .nil)))) .nil) .nil) .nil)))
theorem har_step (as : List Ask) (M : Nat) (Ls : Nat → Option (List Nat)) (t : Nat) (h5 : Φ 5 [asksT as, .int (M : Int), .int (t : Int)] = .ok (.fz (oT (Ls t))) []) (f : Option (Nat × Nat)) (z : Sl) (hz : z.isIo = false) :
    evS sg Φ mk FU harB [.fz (asksT as), .fz (.int (M : Int)), .fz (hT f), .fz (.int (t : Int)), z] = (match Ls t with
      | none => .rt (.fz .non) [.fz (asksT as), .fz (.int (M : Int)), .fz (hT f), .fz (.int (t : Int)), .fz .non]
      | some c => .nx [.fz (asksT as), .fz (.int (M : Int)), .fz (hT (updF t c.length f)), .fz (.int (t : Int)), .fz (tT c)]) := by
  unfold harB
  have s5 : sg 5 = ⟨3, false, [false, false, false]⟩ := rfl
  have hset : ∀ q : T, setS 4 (.fz q) [.fz (asksT as), .fz (.int (M : Int)), .fz (hT f), .fz (.int (t : Int)), z] = .nx [.fz (asksT as), .fz (.int (M : Int)), .fz (hT f), .fz (.int (t : Int)), .fz q] := fun q => by
    cases z <;> first | rfl | (cases hz; done)
  simp only [S_cons, S_asg, v_call, A_cons, v_var, List.getElem?_cons_zero, List.getElem?_cons_succ, varR_fz, b_ok, A_nil, set_fz, call_plain s5, arg_fz, arg_nil, h5, calR_ok, st_ok, asgR_fz, hset, sq_nx]
  cases hL : Ls t with
  | none =>
    have e : decide (oT none = .non) = true := decide_eq_true rfl
    simp only [List.getElem?_cons_zero, List.getElem?_cons_succ, List.set_cons_zero, List.set_cons_succ, List.getD_cons_zero, List.getD_cons_succ, ob_some, om_some, b_ok, b_ex, st_ok, st_ex, sq_nx, sq_rt, sq_bk, sq_ct, sq_ex, tu_nx, tu_rt, tu_bk, tu_ct, tu_ex, varR_fz, varR_ol, varR_bl, varR_io, v_var, v_lit, v_tup, v_lst, tupK_0, tupK_1, tupK_2, tupK_3, lstK_0, lstK_1, lstK_2, lstK_3, v_p1, p1K_eq, v_p2, p2K_eq, v_and, v_or, v_not, v_ite, v_call, v_mth, mth0_some, mthK_eq, mthO_some, own_eq, ownO_ol, ownO_io, mkOwn_t, mkOwn_f, v_sl, compK_eq, compT_some, v_comp, compC_none, wipe_nil, wipe_cons, rest_nil, rest_cons, fin_ok, con_fz, con_ol, con_plc, slCon_some, scon_fz, scon_ol, scon_bl, scon_io, set_fz, set_plc, set_ol, lift_some, bool_bl, opt_int, opt_non, toV_fz, toV_ol, toV_plc, toVO_ol, V_nil, V_cons, A_nil, A_cons, I_it1, itK_tup, itK_lst, itK_ol, itK_plc, itS_ol, itS_bl, I_rng1, I_rng2, I_rng3, S_nil, S_cons, S_expr, nxK_eq, S_asg, S_asgT, asgO_some, S_aug, augO_int, augK_add, S_setix, setK_eq, setO_some, setAt_eq, setA_0, S_ite, S_for, forO_some, lock_none, lock_ol, lock_bl, S_ret, S_ret0, S_brk, S_cont, S_pass, S_raise, raiK_some, setS_eq, setSO_no, setSO_fz, setSO_ol, setSO_bl, asgR_fz, asgR_ol, asgR_plc, asgP_ol, asgP_bl, retR_fz, retR_ol, retR_plc, retP_ol, asg_v, asg1_eq, asg1O_no, asg1O_fz, asg1O_ol, asg_tp, ag_nil, ag_cons, arg_nil, arg_fz, arg_plc, argT_ol, argT_bl, argT_olf, calR_ok, calR_ex, calI_t, calI_f, calO_some, io_plc, ioO_ol, ioO_io, forC_some, endF_rt, endF_nx, endF_ex, io_f, io_t, sl_io, sl_f, sl_tl, sl_nil, o_len_t, o_len_l, o_tuple_t, o_tuple_l, o_list_t, o_list_l, o_int, o_neg, o_sum, o_any, o_all, o_max, o_isN, o_notN, o_add, o_sub, o_band, o_bor, o_lt, o_le, o_gt, o_ge, o_eq, o_ne, o_ixT, o_ixL, at_0, at_1, m_pop, m_pop0, e, decide_true, decide_false, Bool.false_eq_true, reduceIte, Bool.not_true, Bool.not_false]
    rfl
  | some c =>
    have e : decide (oT (some c) = .non) = false := oT_non (some c)
    have el : ((nl c).length : Int) = (c.length : Int) := by rw [nl_len]
    cases f with
    | none =>
      have e2 : decide (hT none = .non) = true := decide_eq_true rfl
      simp only [List.getElem?_cons_zero, List.getElem?_cons_succ, List.set_cons_zero, List.set_cons_succ, List.getD_cons_zero, List.getD_cons_succ, ob_some, om_some, b_ok, b_ex, st_ok, st_ex, sq_nx, sq_rt, sq_bk, sq_ct, sq_ex, tu_nx, tu_rt, tu_bk, tu_ct, tu_ex, varR_fz, varR_ol, varR_bl, varR_io, v_var, v_lit, v_tup, v_lst, tupK_0, tupK_1, tupK_2, tupK_3, lstK_0, lstK_1, lstK_2, lstK_3, v_p1, p1K_eq, v_p2, p2K_eq, v_and, v_or, v_not, v_ite, v_call, v_mth, mth0_some, mthK_eq, mthO_some, own_eq, ownO_ol, ownO_io, mkOwn_t, mkOwn_f, v_sl, compK_eq, compT_some, v_comp, compC_none, wipe_nil, wipe_cons, rest_nil, rest_cons, fin_ok, con_fz, con_ol, con_plc, slCon_some, scon_fz, scon_ol, scon_bl, scon_io, set_fz, set_plc, set_ol, lift_some, bool_bl, opt_int, opt_non, toV_fz, toV_ol, toV_plc, toVO_ol, V_nil, V_cons, A_nil, A_cons, I_it1, itK_tup, itK_lst, itK_ol, itK_plc, itS_ol, itS_bl, I_rng1, I_rng2, I_rng3, S_nil, S_cons, S_expr, nxK_eq, S_asg, S_asgT, asgO_some, S_aug, augO_int, augK_add, S_setix, setK_eq, setO_some, setAt_eq, setA_0, S_ite, S_for, forO_some, lock_none, lock_ol, lock_bl, S_ret, S_ret0, S_brk, S_cont, S_pass, S_raise, raiK_some, setS_eq, setSO_no, setSO_fz, setSO_ol, setSO_bl, asgR_fz, asgR_ol, asgR_plc, asgP_ol, asgP_bl, retR_fz, retR_ol, retR_plc, retP_ol, asg_v, asg1_eq, asg1O_no, asg1O_fz, asg1O_ol, asg_tp, ag_nil, ag_cons, arg_nil, arg_fz, arg_plc, argT_ol, argT_bl, argT_olf, calR_ok, calR_ex, calI_t, calI_f, calO_some, io_plc, ioO_ol, ioO_io, forC_some, endF_rt, endF_nx, endF_ex, io_f, io_t, sl_io, sl_f, sl_tl, sl_nil, o_len_t, o_len_l, o_tuple_t, o_tuple_l, o_list_t, o_list_l, o_int, o_neg, o_sum, o_any, o_all, o_max, o_isN, o_notN, o_add, o_sub, o_band, o_bor, o_lt, o_le, o_gt, o_ge, o_eq, o_ne, o_ixT, o_ixL, at_0, at_1, m_pop, m_pop0, e, e2, decide_true, decide_false, Bool.false_eq_true, reduceIte, Bool.not_true, Bool.not_false]
      simp only [oT, tT, List.getElem?_cons_zero, List.getElem?_cons_succ, List.set_cons_zero, List.set_cons_succ, List.getD_cons_zero, List.getD_cons_succ, ob_some, om_some, b_ok, b_ex, st_ok, st_ex, sq_nx, sq_rt, sq_bk, sq_ct, sq_ex, tu_nx, tu_rt, tu_bk, tu_ct, tu_ex, varR_fz, varR_ol, varR_bl, varR_io, v_var, v_lit, v_tup, v_lst, tupK_0, tupK_1, tupK_2, tupK_3, lstK_0, lstK_1, lstK_2, lstK_3, v_p1, p1K_eq, v_p2, p2K_eq, v_and, v_or, v_not, v_ite, v_call, v_mth, mth0_some, mthK_eq, mthO_some, own_eq, ownO_ol, ownO_io, mkOwn_t, mkOwn_f, v_sl, compK_eq, compT_some, v_comp, compC_none, wipe_nil, wipe_cons, rest_nil, rest_cons, fin_ok, con_fz, con_ol, con_plc, slCon_some, scon_fz, scon_ol, scon_bl, scon_io, set_fz, set_plc, set_ol, lift_some, bool_bl, opt_int, opt_non, toV_fz, toV_ol, toV_plc, toVO_ol, V_nil, V_cons, A_nil, A_cons, I_it1, itK_tup, itK_lst, itK_ol, itK_plc, itS_ol, itS_bl, I_rng1, I_rng2, I_rng3, S_nil, S_cons, S_expr, nxK_eq, S_asg, S_asgT, asgO_some, S_aug, augO_int, augK_add, S_setix, setK_eq, setO_some, setAt_eq, setA_0, S_ite, S_for, forO_some, lock_none, lock_ol, lock_bl, S_ret, S_ret0, S_brk, S_cont, S_pass, S_raise, raiK_some, setS_eq, setSO_no, setSO_fz, setSO_ol, setSO_bl, asgR_fz, asgR_ol, asgR_plc, asgP_ol, asgP_bl, retR_fz, retR_ol, retR_plc, retP_ol, asg_v, asg1_eq, asg1O_no, asg1O_fz, asg1O_ol, asg_tp, ag_nil, ag_cons, arg_nil, arg_fz, arg_plc, argT_ol, argT_bl, argT_olf, calR_ok, calR_ex, calI_t, calI_f, calO_some, io_plc, ioO_ol, ioO_io, forC_some, endF_rt, endF_nx, endF_ex, io_f, io_t, sl_io, sl_f, sl_tl, sl_nil, o_len_t, o_len_l, o_tuple_t, o_tuple_l, o_list_t, o_list_l, o_int, o_neg, o_sum, o_any, o_all, o_max, o_isN, o_notN, o_add, o_sub, o_band, o_bor, o_lt, o_le, o_gt, o_ge, o_eq, o_ne, o_ixT, o_ixL, at_0, at_1, m_pop, m_pop0, el, hT, updF]
    | some p =>
      have e2 : decide (hT (some p) = .non) = false := decide_eq_false (by unfold hT; intro z; cases z)
      by_cases hlt : p.2 < c.length
      · have hl2 : ((p.2 : Int) < (c.length : Int)) = True := by simp; exact hlt
        simp only [List.getElem?_cons_zero, List.getElem?_cons_succ, List.set_cons_zero, List.set_cons_succ, List.getD_cons_zero, List.getD_cons_succ, ob_some, om_some, b_ok, b_ex, st_ok, st_ex, sq_nx, sq_rt, sq_bk, sq_ct, sq_ex, tu_nx, tu_rt, tu_bk, tu_ct, tu_ex, varR_fz, varR_ol, varR_bl, varR_io, v_var, v_lit, v_tup, v_lst, tupK_0, tupK_1, tupK_2, tupK_3, lstK_0, lstK_1, lstK_2, lstK_3, v_p1, p1K_eq, v_p2, p2K_eq, v_and, v_or, v_not, v_ite, v_call, v_mth, mth0_some, mthK_eq, mthO_some, own_eq, ownO_ol, ownO_io, mkOwn_t, mkOwn_f, v_sl, compK_eq, compT_some, v_comp, compC_none, wipe_nil, wipe_cons, rest_nil, rest_cons, fin_ok, con_fz, con_ol, con_plc, slCon_some, scon_fz, scon_ol, scon_bl, scon_io, set_fz, set_plc, set_ol, lift_some, bool_bl, opt_int, opt_non, toV_fz, toV_ol, toV_plc, toVO_ol, V_nil, V_cons, A_nil, A_cons, I_it1, itK_tup, itK_lst, itK_ol, itK_plc, itS_ol, itS_bl, I_rng1, I_rng2, I_rng3, S_nil, S_cons, S_expr, nxK_eq, S_asg, S_asgT, asgO_some, S_aug, augO_int, augK_add, S_setix, setK_eq, setO_some, setAt_eq, setA_0, S_ite, S_for, forO_some, lock_none, lock_ol, lock_bl, S_ret, S_ret0, S_brk, S_cont, S_pass, S_raise, raiK_some, setS_eq, setSO_no, setSO_fz, setSO_ol, setSO_bl, asgR_fz, asgR_ol, asgR_plc, asgP_ol, asgP_bl, retR_fz, retR_ol, retR_plc, retP_ol, asg_v, asg1_eq, asg1O_no, asg1O_fz, asg1O_ol, asg_tp, ag_nil, ag_cons, arg_nil, arg_fz, arg_plc, argT_ol, argT_bl, argT_olf, calR_ok, calR_ex, calI_t, calI_f, calO_some, io_plc, ioO_ol, ioO_io, forC_some, endF_rt, endF_nx, endF_ex, io_f, io_t, sl_io, sl_f, sl_tl, sl_nil, o_len_t, o_len_l, o_tuple_t, o_tuple_l, o_list_t, o_list_l, o_int, o_neg, o_sum, o_any, o_all, o_max, o_isN, o_notN, o_add, o_sub, o_band, o_bor, o_lt, o_le, o_gt, o_ge, o_eq, o_ne, o_ixT, o_ixL, at_0, at_1, m_pop, m_pop0, e, e2, decide_true, decide_false, Bool.false_eq_true, reduceIte, Bool.not_true, Bool.not_false]
        simp only [oT, tT, hT, List.getElem?_cons_zero, List.getElem?_cons_succ, List.set_cons_zero, List.set_cons_succ, List.getD_cons_zero, List.getD_cons_succ, ob_some, om_some, b_ok, b_ex, st_ok, st_ex, sq_nx, sq_rt, sq_bk, sq_ct, sq_ex, tu_nx, tu_rt, tu_bk, tu_ct, tu_ex, varR_fz, varR_ol, varR_bl, varR_io, v_var, v_lit, v_tup, v_lst, tupK_0, tupK_1, tupK_2, tupK_3, lstK_0, lstK_1, lstK_2, lstK_3, v_p1, p1K_eq, v_p2, p2K_eq, v_and, v_or, v_not, v_ite, v_call, v_mth, mth0_some, mthK_eq, mthO_some, own_eq, ownO_ol, ownO_io, mkOwn_t, mkOwn_f, v_sl, compK_eq, compT_some, v_comp, compC_none, wipe_nil, wipe_cons, rest_nil, rest_cons, fin_ok, con_fz, con_ol, con_plc, slCon_some, scon_fz, scon_ol, scon_bl, scon_io, set_fz, set_plc, set_ol, lift_some, bool_bl, opt_int, opt_non, toV_fz, toV_ol, toV_plc, toVO_ol, V_nil, V_cons, A_nil, A_cons, I_it1, itK_tup, itK_lst, itK_ol, itK_plc, itS_ol, itS_bl, I_rng1, I_rng2, I_rng3, S_nil, S_cons, S_expr, nxK_eq, S_asg, S_asgT, asgO_some, S_aug, augO_int, augK_add, S_setix, setK_eq, setO_some, setAt_eq, setA_0, S_ite, S_for, forO_some, lock_none, lock_ol, lock_bl, S_ret, S_ret0, S_brk, S_cont, S_pass, S_raise, raiK_some, setS_eq, setSO_no, setSO_fz, setSO_ol, setSO_bl, asgR_fz, asgR_ol, asgR_plc, asgP_ol, asgP_bl, retR_fz, retR_ol, retR_plc, retP_ol, asg_v, asg1_eq, asg1O_no, asg1O_fz, asg1O_ol, asg_tp, ag_nil, ag_cons, arg_nil, arg_fz, arg_plc, argT_ol, argT_bl, argT_olf, calR_ok, calR_ex, calI_t, calI_f, calO_some, io_plc, ioO_ol, ioO_io, forC_some, endF_rt, endF_nx, endF_ex, io_f, io_t, sl_io, sl_f, sl_tl, sl_nil, o_len_t, o_len_l, o_tuple_t, o_tuple_l, o_list_t, o_list_l, o_int, o_neg, o_sum, o_any, o_all, o_max, o_isN, o_notN, o_add, o_sub, o_band, o_bor, o_lt, o_le, o_gt, o_ge, o_eq, o_ne, o_ixT, o_ixL, at_0, at_1, m_pop, m_pop0, el, hl2, decide_true, decide_false, Bool.false_eq_true, reduceIte, Bool.not_true, Bool.not_false, updF, if_pos hlt]
      · have hl2 : ((p.2 : Int) < (c.length : Int)) = False := by simp; omega
        simp only [List.getElem?_cons_zero, List.getElem?_cons_succ, List.set_cons_zero, List.set_cons_succ, List.getD_cons_zero, List.getD_cons_succ, ob_some, om_some, b_ok, b_ex, st_ok, st_ex, sq_nx, sq_rt, sq_bk, sq_ct, sq_ex, tu_nx, tu_rt, tu_bk, tu_ct, tu_ex, varR_fz, varR_ol, varR_bl, varR_io, v_var, v_lit, v_tup, v_lst, tupK_0, tupK_1, tupK_2, tupK_3, lstK_0, lstK_1, lstK_2, lstK_3, v_p1, p1K_eq, v_p2, p2K_eq, v_and, v_or, v_not, v_ite, v_call, v_mth, mth0_some, mthK_eq, mthO_some, own_eq, ownO_ol, ownO_io, mkOwn_t, mkOwn_f, v_sl, compK_eq, compT_some, v_comp, compC_none, wipe_nil, wipe_cons, rest_nil, rest_cons, fin_ok, con_fz, con_ol, con_plc, slCon_some, scon_fz, scon_ol, scon_bl, scon_io, set_fz, set_plc, set_ol, lift_some, bool_bl, opt_int, opt_non, toV_fz, toV_ol, toV_plc, toVO_ol, V_nil, V_cons, A_nil, A_cons, I_it1, itK_tup, itK_lst, itK_ol, itK_plc, itS_ol, itS_bl, I_rng1, I_rng2, I_rng3, S_nil, S_cons, S_expr, nxK_eq, S_asg, S_asgT, asgO_some, S_aug, augO_int, augK_add, S_setix, setK_eq, setO_some, setAt_eq, setA_0, S_ite, S_for, forO_some, lock_none, lock_ol, lock_bl, S_ret, S_ret0, S_brk, S_cont, S_pass, S_raise, raiK_some, setS_eq, setSO_no, setSO_fz, setSO_ol, setSO_bl, asgR_fz, asgR_ol, asgR_plc, asgP_ol, asgP_bl, retR_fz, retR_ol, retR_plc, retP_ol, asg_v, asg1_eq, asg1O_no, asg1O_fz, asg1O_ol, asg_tp, ag_nil, ag_cons, arg_nil, arg_fz, arg_plc, argT_ol, argT_bl, argT_olf, calR_ok, calR_ex, calI_t, calI_f, calO_some, io_plc, ioO_ol, ioO_io, forC_some, endF_rt, endF_nx, endF_ex, io_f, io_t, sl_io, sl_f, sl_tl, sl_nil, o_len_t, o_len_l, o_tuple_t, o_tuple_l, o_list_t, o_list_l, o_int, o_neg, o_sum, o_any, o_all, o_max, o_isN, o_notN, o_add, o_sub, o_band, o_bor, o_lt, o_le, o_gt, o_ge, o_eq, o_ne, o_ixT, o_ixL, at_0, at_1, m_pop, m_pop0, e, e2, decide_true, decide_false, Bool.false_eq_true, reduceIte, Bool.not_true, Bool.not_false]
        simp only [oT, tT, hT, List.getElem?_cons_zero, List.getElem?_cons_succ, List.set_cons_zero, List.set_cons_succ, List.getD_cons_zero, List.getD_cons_succ, ob_some, om_some, b_ok, b_ex, st_ok, st_ex, sq_nx, sq_rt, sq_bk, sq_ct, sq_ex, tu_nx, tu_rt, tu_bk, tu_ct, tu_ex, varR_fz, varR_ol, varR_bl, varR_io, v_var, v_lit, v_tup, v_lst, tupK_0, tupK_1, tupK_2, tupK_3, lstK_0, lstK_1, lstK_2, lstK_3, v_p1, p1K_eq, v_p2, p2K_eq, v_and, v_or, v_not, v_ite, v_call, v_mth, mth0_some, mthK_eq, mthO_some, own_eq, ownO_ol, ownO_io, mkOwn_t, mkOwn_f, v_sl, compK_eq, compT_some, v_comp, compC_none, wipe_nil, wipe_cons, rest_nil, rest_cons, fin_ok, con_fz, con_ol, con_plc, slCon_some, scon_fz, scon_ol, scon_bl, scon_io, set_fz, set_plc, set_ol, lift_some, bool_bl, opt_int, opt_non, toV_fz, toV_ol, toV_plc, toVO_ol, V_nil, V_cons, A_nil, A_cons, I_it1, itK_tup, itK_lst, itK_ol, itK_plc, itS_ol, itS_bl, I_rng1, I_rng2, I_rng3, S_nil, S_cons, S_expr, nxK_eq, S_asg, S_asgT, asgO_some, S_aug, augO_int, augK_add, S_setix, setK_eq, setO_some, setAt_eq, setA_0, S_ite, S_for, forO_some, lock_none, lock_ol, lock_bl, S_ret, S_ret0, S_brk, S_cont, S_pass, S_raise, raiK_some, setS_eq, setSO_no, setSO_fz, setSO_ol, setSO_bl, asgR_fz, asgR_ol, asgR_plc, asgP_ol, asgP_bl, retR_fz, retR_ol, retR_plc, retP_ol, asg_v, asg1_eq, asg1O_no, asg1O_fz, asg1O_ol, asg_tp, ag_nil, ag_cons, arg_nil, arg_fz, arg_plc, argT_ol, argT_bl, argT_olf, calR_ok, calR_ex, calI_t, calI_f, calO_some, io_plc, ioO_ol, ioO_io, forC_some, endF_rt, endF_nx, endF_ex, io_f, io_t, sl_io, sl_f, sl_tl, sl_nil, o_len_t, o_len_l, o_tuple_t, o_tuple_l, o_list_t, o_list_l, o_int, o_neg, o_sum, o_any, o_all, o_max, o_isN, o_notN, o_add, o_sub, o_band, o_bor, o_lt, o_le, o_gt, o_ge, o_eq, o_ne, o_ixT, o_ixL, at_0, at_1, m_pop, m_pop0, el, hl2, decide_true, decide_false, Bool.false_eq_true, reduceIte, Bool.not_true, Bool.not_false, updF, if_neg hlt]
theorem har_loop (as : List Ask) (M : Nat) (Ls : Nat → Option (List Nat)) (h5 : ∀ t, t < M → Φ 5 [asksT as, .int (M : Int), .int (t : Int)] = .ok (.fz (oT (Ls t))) []) : ∀ (ts : List Nat) (f : Option (Nat × Nat)) (z3 z : Sl), (∀ t ∈ ts, t < M) → z3.isIo = false → z.isIo = false →
    ∃ en, en.length = 5 ∧ (forL (asgT (.v 3)) (evS sg Φ mk FU harB) (nl ts) [.fz (asksT as), .fz (.int (M : Int)), .fz (hT f), z3, z]).seq (evS sg Φ mk FU (.cons (.ret (.var 2)) .nil)) = .rt (.fz (hT (hardL Ls ts f))) en
  | [], f, z3, z, _, _, _ => ⟨[.fz (asksT as), .fz (.int (M : Int)), .fz (hT f), z3, z], rfl, by
      rw [show nl [] = [] from rfl, for_nil]
      simp only [List.getElem?_cons_zero, List.getElem?_cons_succ, List.set_cons_zero, List.set_cons_succ, List.getD_cons_zero, List.getD_cons_succ, ob_some, om_some, b_ok, b_ex, st_ok, st_ex, sq_nx, sq_rt, sq_bk, sq_ct, sq_ex, tu_nx, tu_rt, tu_bk, tu_ct, tu_ex, varR_fz, varR_ol, varR_bl, varR_io, v_var, v_lit, v_tup, v_lst, tupK_0, tupK_1, tupK_2, tupK_3, lstK_0, lstK_1, lstK_2, lstK_3, v_p1, p1K_eq, v_p2, p2K_eq, v_and, v_or, v_not, v_ite, v_call, v_mth, mth0_some, mthK_eq, mthO_some, own_eq, ownO_ol, ownO_io, mkOwn_t, mkOwn_f, v_sl, compK_eq, compT_some, v_comp, compC_none, wipe_nil, wipe_cons, rest_nil, rest_cons, fin_ok, con_fz, con_ol, con_plc, slCon_some, scon_fz, scon_ol, scon_bl, scon_io, set_fz, set_plc, set_ol, lift_some, bool_bl, opt_int, opt_non, toV_fz, toV_ol, toV_plc, toVO_ol, V_nil, V_cons, A_nil, A_cons, I_it1, itK_tup, itK_lst, itK_ol, itK_plc, itS_ol, itS_bl, I_rng1, I_rng2, I_rng3, S_nil, S_cons, S_expr, nxK_eq, S_asg, S_asgT, asgO_some, S_aug, augO_int, augK_add, S_setix, setK_eq, setO_some, setAt_eq, setA_0, S_ite, S_for, forO_some, lock_none, lock_ol, lock_bl, S_ret, S_ret0, S_brk, S_cont, S_pass, S_raise, raiK_some, setS_eq, setSO_no, setSO_fz, setSO_ol, setSO_bl, asgR_fz, asgR_ol, asgR_plc, asgP_ol, asgP_bl, retR_fz, retR_ol, retR_plc, retP_ol, asg_v, asg1_eq, asg1O_no, asg1O_fz, asg1O_ol, asg_tp, ag_nil, ag_cons, arg_nil, arg_fz, arg_plc, argT_ol, argT_bl, argT_olf, calR_ok, calR_ex, calI_t, calI_f, calO_some, io_plc, ioO_ol, ioO_io, forC_some, endF_rt, endF_nx, endF_ex, io_f, io_t, sl_io, sl_f, sl_tl, sl_nil, o_len_t, o_len_l, o_tuple_t, o_tuple_l, o_list_t, o_list_l, o_int, o_neg, o_sum, o_any, o_all, o_max, o_isN, o_notN, o_add, o_sub, o_band, o_bor, o_lt, o_le, o_gt, o_ge, o_eq, o_ne, o_ixT, o_ixL, at_0, at_1, m_pop, m_pop0, hardL]⟩
  | t :: r, f, z3, z, ht, h3, hz => by
    have e1 : asgT (.v 3) (.int (t : Int)) [.fz (asksT as), .fz (.int (M : Int)), .fz (hT f), z3, z] = some [.fz (asksT as), .fz (.int (M : Int)), .fz (hT f), .fz (.int (t : Int)), z] := by
      rw [asgT]
      cases z3 <;> first | rfl | (cases h3; done)
    rw [show nl (t :: r) = .int (t : Int) :: nl r from rfl, for_cons, e1, forC_some, har_step Φ as M Ls t (h5 t (ht t (List.mem_cons_self ..))) f z hz]
    unfold hardL
    cases Ls t with
    | none => exact ⟨_, by rfl, rfl⟩
    | some c =>
      obtain ⟨en, hl, e⟩ := har_loop as M Ls h5 r (updF t c.length f) (.fz (.int (t : Int))) (.fz (tT c)) (fun q hq => ht q (List.mem_cons_of_mem _ hq)) rfl rfl
      exact ⟨en, hl, e⟩
theorem hard_ok (as : List Ask) (M : Nat) (hM : M ≤ 8) (Ls : Nat → Option (List Nat)) (h5 : ∀ t, t < M → Φ 5 [asksT as, .int (M : Int), .int (t : Int)] = .ok (.fz (oT (Ls t))) []) :
    evD sg Φ mk FU (sg 6) ⟨5, ir_hardest⟩ [asksT as, .int (M : Int)] = .ok (.fz (hT (hardL Ls (List.range M) none))) [] := by
  rw [evD_eq, show sg 6 = ⟨2, false, [false, false]⟩ from rfl]
  have e0 : ir_hardest = (.cons (.asg (.v 2) (.lit .non)) (.cons (.for (.v 3) (.rng1 (.var 1)) harB) (.cons (.ret (.var 2)) .nil))) := rfl
  rw [e0]
  have b1 : inBig (M : Int) = true := by unfold inBig; exact decide_eq_true (by omega)
  obtain ⟨en, hl, e⟩ := har_loop Φ as M Ls h5 (List.range M) none .no .no (fun t ht => List.mem_range.mp ht) rfl rfl
  rw [← rangeI_nl0] at e
  rw [show hT none = .non from rfl] at e
  simp only [sl_io, sl_f, sl_tl, sl_nil, List.length_cons, List.length_nil, List.replicate, List.cons_append, List.nil_append]
  simp only [List.getElem?_cons_zero, List.getElem?_cons_succ, List.set_cons_zero, List.set_cons_succ, List.getD_cons_zero, List.getD_cons_succ, ob_some, om_some, b_ok, b_ex, st_ok, st_ex, sq_nx, sq_rt, sq_bk, sq_ct, sq_ex, tu_nx, tu_rt, tu_bk, tu_ct, tu_ex, varR_fz, varR_ol, varR_bl, varR_io, v_var, v_lit, v_tup, v_lst, tupK_0, tupK_1, tupK_2, tupK_3, lstK_0, lstK_1, lstK_2, lstK_3, v_p1, p1K_eq, v_p2, p2K_eq, v_and, v_or, v_not, v_ite, v_call, v_mth, mth0_some, mthK_eq, mthO_some, own_eq, ownO_ol, ownO_io, mkOwn_t, mkOwn_f, v_sl, compK_eq, compT_some, v_comp, compC_none, wipe_nil, wipe_cons, rest_nil, rest_cons, fin_ok, con_fz, con_ol, con_plc, slCon_some, scon_fz, scon_ol, scon_bl, scon_io, set_fz, set_plc, set_ol, lift_some, bool_bl, opt_int, opt_non, toV_fz, toV_ol, toV_plc, toVO_ol, V_nil, V_cons, A_nil, A_cons, I_it1, itK_tup, itK_lst, itK_ol, itK_plc, itS_ol, itS_bl, I_rng1, I_rng2, I_rng3, S_nil, S_cons, S_expr, nxK_eq, S_asg, S_asgT, asgO_some, S_aug, augO_int, augK_add, S_setix, setK_eq, setO_some, setAt_eq, setA_0, S_ite, S_for, forO_some, lock_none, lock_ol, lock_bl, S_ret, S_ret0, S_brk, S_cont, S_pass, S_raise, raiK_some, setS_eq, setSO_no, setSO_fz, setSO_ol, setSO_bl, asgR_fz, asgR_ol, asgR_plc, asgP_ol, asgP_bl, retR_fz, retR_ol, retR_plc, retP_ol, asg_v, asg1_eq, asg1O_no, asg1O_fz, asg1O_ol, asg_tp, ag_nil, ag_cons, arg_nil, arg_fz, arg_plc, argT_ol, argT_bl, argT_olf, calR_ok, calR_ex, calI_t, calI_f, calO_some, io_plc, ioO_ol, ioO_io, forC_some, endF_rt, endF_nx, endF_ex, io_f, io_t, sl_io, sl_f, sl_tl, sl_nil, o_len_t, o_len_l, o_tuple_t, o_tuple_l, o_list_t, o_list_l, o_int, o_neg, o_sum, o_any, o_all, o_max, o_isN, o_notN, o_add, o_sub, o_band, o_bor, o_lt, o_le, o_gt, o_ge, o_eq, o_ne, o_ixT, o_ixL, at_0, at_1, m_pop, m_pop0, rg1_ok b1, Int.toNat_natCast, e]
end
/-! ### the law's own hardest -/
theorem hard_all {Ls : Nat → Option (List Nat)} : ∀ (ts : List Nat) (f : Option (Nat × Nat)), (∃ t ∈ ts, Ls t = none) → hardL Ls ts f = none
  | [], _, h => by obtain ⟨t, h, _⟩ := h; cases h
  | t :: r, f, h => by
    unfold hardL
    cases hL : Ls t with
    | none => rfl
    | some c =>
      refine hard_all r _ ?_
      obtain ⟨q, hq, hn⟩ := h
      rcases List.mem_cons.mp hq with e | hq
      · subst e; rw [hL] at hn; cases hn
      · exact ⟨q, hq, hn⟩
end K73

set_option Elab.async false
set_option linter.all false
set_option autoImplicit false
set_option maxRecDepth 100000
set_option maxHeartbeats 1000000
namespace K73
open PySem Ev
/-- the first of the greatest -/
structure FA (g : Nat → Nat) (k : Nat) (p : Nat × Nat) : Prop where
  lt : p.1 < k
  at_ : g p.1 = p.2
  le : ∀ j, j < k → g j ≤ p.2
  first : ∀ j, j < p.1 → g j < p.2
theorem hard_fa {Ls : Nat → Option (List Nat)} {g : Nat → Nat} : ∀ (n k : Nat) (p : Nat × Nat), (∀ t, t < k + n → ∃ c, Ls t = some c ∧ c.length = g t) → FA g k p → ∃ q, hardL Ls (List.range' k n) (some p) = some q ∧ FA g (k + n) q
  | 0, k, p, _, h => ⟨p, rfl, h⟩
  | n + 1, k, p, hL, h => by
    obtain ⟨c, hc, hl⟩ := hL k (by omega)
    rw [List.range'_succ]
    unfold hardL
    rw [hc]
    simp only [updF]
    by_cases hlt : p.2 < c.length
    · rw [if_pos hlt]
      obtain ⟨q, e, fq⟩ := hard_fa n (k + 1) (k, c.length) (fun t ht => hL t (by omega)) ⟨by simp, by simp [hl], fun j hj => by
        by_cases e : j = k
        · subst e; simp [hl]
        · have := h.le j (by omega); simp; omega, fun j hj => by have := h.le j hj; simp; omega⟩
      exact ⟨q, e, by rw [show k + (n + 1) = k + 1 + n by omega]; exact fq⟩
    · rw [if_neg hlt]
      obtain ⟨q, e, fq⟩ := hard_fa n (k + 1) p (fun t ht => hL t (by omega)) ⟨by have := h.lt; omega, h.at_, fun j hj => by
        by_cases e : j = k
        · subst e; omega
        · exact h.le j (by omega), h.first⟩
      exact ⟨q, e, by rw [show k + (n + 1) = k + 1 + n by omega]; exact fq⟩
theorem hard_first {Ls : Nat → Option (List Nat)} {g : Nat → Nat} {M : Nat} (hM : 0 < M) (hL : ∀ t, t < M → ∃ c, Ls t = some c ∧ c.length = g t) : ∃ q, hardL Ls (List.range M) none = some q ∧ FA g M q := by
  obtain ⟨m, rfl⟩ : ∃ m, M = m + 1 := ⟨M - 1, by omega⟩
  obtain ⟨c, hc, hl⟩ := hL 0 (by omega)
  have er : List.range (m + 1) = 0 :: List.range' 1 m := by rw [List.range_eq_range', List.range'_succ]
  rw [er]
  unfold hardL
  rw [hc]
  simp only [updF]
  have f1 : FA g 1 (0, c.length) := ⟨by simp, by simp [hl], fun j hj => by
    have : j = 0 := by omega
    subst this
    simp [hl], fun j hj => by simp at hj⟩
  obtain ⟨q, e, fq⟩ := hard_fa m 1 (0, c.length) (fun t ht => hL t (by omega)) f1
  exact ⟨q, e, by rw [show m + 1 = 1 + m by omega]; exact fq⟩
theorem maxI_fold : ∀ (r : List Int) (x : Int), (∀ y ∈ x :: r, y ≤ r.foldl max x) ∧ (r.foldl max x ∈ x :: r)
  | [], x => by simp
  | y :: r, x => by
    obtain ⟨h1, h2⟩ := maxI_fold r (max x y)
    rw [List.foldl_cons]
    refine ⟨fun z hz => ?_, ?_⟩
    · have hm := h1 (max x y) (List.mem_cons_self ..)
      rcases List.mem_cons.mp hz with e | hz
      · subst e; omega
      · rcases List.mem_cons.mp hz with e | hz
        · subst e; omega
        · exact h1 z (List.mem_cons_of_mem _ hz)
    · rcases List.mem_cons.mp h2 with e | h2
      · rw [e]
        by_cases hxy : x ≤ y
        · rw [Int.max_eq_right hxy]; simp
        · rw [Int.max_eq_left (by omega)]; simp
      · exact List.mem_cons_of_mem _ (List.mem_cons_of_mem _ h2)
theorem max_fa {g : Nat → Nat} {M : Nat} {q : Nat × Nat} (h : FA g M q) : maxI ((List.range M).map fun t => ((g t : Nat) : Int)) = (q.2 : Int) := by
  have hM : 0 < M := by have := h.lt; omega
  obtain ⟨m, rfl⟩ : ∃ m, M = m + 1 := ⟨M - 1, by omega⟩
  have er : List.range (m + 1) = 0 :: List.range' 1 m := by rw [List.range_eq_range', List.range'_succ]
  rw [er, List.map_cons]
  show ((List.range' 1 m).map fun t => ((g t : Nat) : Int)).foldl max ((g 0 : Nat) : Int) = _
  obtain ⟨h1, h2⟩ := maxI_fold ((List.range' 1 m).map fun t => ((g t : Nat) : Int)) ((g 0 : Nat) : Int)
  have hin : ∀ y, y ∈ (((g 0 : Nat) : Int) :: (List.range' 1 m).map fun t => ((g t : Nat) : Int)) ↔ ∃ t, t < m + 1 ∧ ((g t : Nat) : Int) = y := fun y => by
    rw [← List.map_cons (f := fun t => ((g t : Nat) : Int)), ← er, List.mem_map]
    simp [List.mem_range]
  have a1 := h1 (q.2 : Int) ((hin _).mpr ⟨q.1, h.lt, by rw [h.at_]⟩)
  obtain ⟨t, ht, e⟩ := (hin _).mp h2
  have a2 := h.le t ht
  omega
theorem idx_fa {g : Nat → Nat} {M : Nat} {q : Nat × Nat} (h : FA g M q) : ((List.range M).map fun t => T.int ((g t : Nat) : Int)).findIdx? (fun z => PyData.eqv z.pd (T.int (q.2 : Int)).pd) = some q.1 := by
  rw [List.findIdx?_eq_some_iff_getElem]
  refine ⟨by simpa using h.lt, ?_, fun j hj => ?_⟩
  · simp only [List.getElem_map, List.getElem_range, h.at_]
    show ((q.2 : Int) == (q.2 : Int)) = true
    simp
  · simp only [List.getElem_map, List.getElem_range]
    have := h.first j hj
    show ¬ ((((g j : Nat) : Int) == (q.2 : Int)) = true)
    simp
    omega
end K73

set_option Elab.async false
set_option linter.all false
set_option autoImplicit false
set_option maxRecDepth 100000
set_option maxHeartbeats 2000000
namespace K73
open PySem Ev
/-! ### equality of what is told -/
theorem eqv_nl : ∀ c : List Nat, PyData.eqvAll (T.pds (nl c)) (T.pds (nl c)) = true
  | [] => rfl
  | x :: r => by
    show (((x : Int) == (x : Int)) && PyData.eqvAll (T.pds (nl r)) (T.pds (nl r))) = true
    rw [eqv_nl r]
    simp
theorem eqv_oT (o : Option (List Nat)) : PyData.eqv (oT o).pd (oT o).pd = true := by
  cases o with
  | none => rfl
  | some c => exact eqv_nl c
theorem eqv_hT (o : Option (Nat × Nat)) : PyData.eqv (hT o).pd (hT o).pd = true := by
  cases o with
  | none => rfl
  | some p =>
    show (((p.1 : Int) == (p.1 : Int)) && (((p.2 : Int) == (p.2 : Int)) && true)) = true
    simp
theorem lay_nl : ∀ c : List Nat, PyData.canLayAll0 (T.pds (nl c)) = true
  | [] => rfl
  | x :: r => by
    show (true && PyData.canLayAll0 (T.pds (nl r))) = true
    rw [lay_nl r]; rfl
theorem dep_nl : ∀ c : List Nat, PyData.depthAll (T.pds (nl c)) = 0
  | [] => rfl
  | x :: r => by
    show max 0 (PyData.depthAll (T.pds (nl r))) = 0
    rw [dep_nl r]; rfl
theorem sh_oT (o : Option (List Nat)) : SeqAt.shaped (oT o).pd = true := by
  cases o with
  | none => rfl
  | some c =>
    show (PyData.canLayAll0 (T.pds (nl c)) && decide (PyData.depthAll (T.pds (nl c)) + 1 ≤ 64)) = true
    rw [lay_nl, dep_nl]; rfl
theorem sh_hT (o : Option (Nat × Nat)) : SeqAt.shaped (hT o).pd = true := by cases o <;> rfl
theorem dep_oT (o : Option (List Nat)) : PyData.depth (oT o).pd ≤ 1 := by
  cases o with
  | none => exact Nat.zero_le _
  | some c =>
    show PyData.depthAll (T.pds (nl c)) + 1 ≤ 1
    rw [dep_nl]; exact Nat.le_refl _
theorem sh_lst (os : List (Option (List Nat))) : SeqAt.shaped (T.lst (os.map oT)).pd = true := by
  have key : ∀ os : List (Option (List Nat)), PyData.canLayAll0 (T.pds (os.map oT)) = true ∧ PyData.depthAll (T.pds (os.map oT)) ≤ 1 := by
    intro os
    induction os with
    | nil => exact ⟨rfl, Nat.zero_le _⟩
    | cons o r ih =>
      have hs := sh_oT o
      unfold SeqAt.shaped at hs
      rw [Bool.and_eq_true] at hs
      have hd := dep_oT o
      refine ⟨?_, ?_⟩
      · show (PyData.canLay0 (oT o).pd && PyData.canLayAll0 (T.pds (r.map oT))) = true
        rw [hs.1, ih.1]; rfl
      · show max (PyData.depth (oT o).pd) (PyData.depthAll (T.pds (r.map oT))) ≤ 1
        have := ih.2
        omega
  show (PyData.canLayAll0 (T.pds (os.map oT)) && decide (PyData.depthAll (T.pds (os.map oT)) + 1 ≤ 64)) = true
  have := (key os).2
  rw [(key os).1, decide_eq_true (by omega : PyData.depthAll (T.pds (os.map oT)) + 1 ≤ 64)]
  rfl
def H9 (Φ : Tab) : Prop := ∀ (ns : List Int) (m : Int), 0 < m → m < 1000 → ns.length < 1000000000 → ∃ t ns', Φ 9 [.lst (il ns), .int m] = .ok (.fz (.int t)) (il ns') ∧ 0 ≤ t ∧ t < m ∧ ns'.length ≤ ns.length
def H10 (Φ : Tab) : Prop := ∀ (ns : List Int) (L : Nat) (m : Int), L < 100 → 0 < m → m < 1000 → ns.length < 1000000000 → ∃ vs ns', Φ 10 [.lst (il ns), .int (L : Int), .int m] = .ok (.fz (.tup (il vs))) (il ns') ∧ vs.length = L ∧ ns'.length ≤ ns.length
section
variable (Φ : Tab)
/-! ### law: the asks -/
def askB : S := (.cons (.expr (.mth .append 3 (.cons (.tup (.cons (.call 10 (.cons (.var 1) (.cons (.var 2) (.cons (.p2 .add (.lit (.int 2)) (.call 9 (.cons (.var 1) (.cons (.lit (.int 2)) .nil)))) .nil)))) (.cons (.tup (.cons (.var 4) .nil)) .nil))) .nil))) .nil)
theorem ask_loop (h9 : H9 Φ) (h10 : H10 Φ) (sc : List T) (M : Nat) (hM : M ≤ 6) (a b c d e f g h i j : Sl) : ∀ (ks : List Nat) (ns : List Int) (as : List Ask) (z : Sl), ns.length < 1000 → as.length + ks.length < 1000 → Wf as M → z.isIo = false →
    ∃ ns' as' z', ns'.length < 1000 ∧ as'.length = as.length + ks.length ∧ Wf as' M ∧ (z' = z ∨ ∃ t, z' = .fz t) ∧ forL (asgT (.v 4)) (evS sg Φ mk FU askB) (nl ks) [.bl sc, .ol (il ns), .fz (.int (M : Int)), .ol (as.map askT), z, a, b, c, d, e, f, g, h, i, j]
      = .nx [.bl sc, .ol (il ns'), .fz (.int (M : Int)), .ol (as'.map askT), z', a, b, c, d, e, f, g, h, i, j]
  | [], ns, as, z, hn, _, w, hz => ⟨ns, as, z, hn, rfl, w, .inl rfl, rfl⟩
  | k :: r, ns, as, z, hn, hl, w, hz => by
    have e1 : asgT (.v 4) (.int (k : Int)) [.bl sc, .ol (il ns), .fz (.int (M : Int)), .ol (as.map askT), z, a, b, c, d, e, f, g, h, i, j] = some [.bl sc, .ol (il ns), .fz (.int (M : Int)), .ol (as.map askT), .fz (.int (k : Int)), a, b, c, d, e, f, g, h, i, j] := by
      rw [asgT]
      cases z <;> first | rfl | (cases hz; done)
    obtain ⟨t, ns1, q1, q2, q3, q4⟩ := h9 ns 2 (by omega) (by omega) (by omega)
    obtain ⟨vs, ns2, p1, p2, p3⟩ := h10 ns1 M (2 + t) (by omega) (by omega) (by omega) (by omega)
    have s9 : sg 9 = ⟨2, true, [false]⟩ := rfl
    have s10 : sg 10 = ⟨3, true, [false, false]⟩ := rfl
    have b1 : (as.map askT).length < sizeLine := by rw [List.length_map, sizeLine_eq]; simp at hl; omega
    have es : evS sg Φ mk FU askB [.bl sc, .ol (il ns), .fz (.int (M : Int)), .ol (as.map askT), .fz (.int (k : Int)), a, b, c, d, e, f, g, h, i, j] = .nx [.bl sc, .ol (il ns2), .fz (.int (M : Int)), .ol ((as ++ [(vs, (k : Int))]).map askT), .fz (.int (k : Int)), a, b, c, d, e, f, g, h, i, j] := by
      unfold askB
      have ea : (as ++ [(vs, (k : Int))]).map askT = as.map askT ++ [.tup [.tup (il vs), .tup [.int (k : Int)]]] := by rw [List.map_append]; rfl
      simp only [List.getElem?_cons_zero, List.getElem?_cons_succ, List.set_cons_zero, List.set_cons_succ, List.getD_cons_zero, List.getD_cons_succ, ob_some, om_some, b_ok, b_ex, st_ok, st_ex, sq_nx, sq_rt, sq_bk, sq_ct, sq_ex, tu_nx, tu_rt, tu_bk, tu_ct, tu_ex, varR_fz, varR_ol, varR_bl, varR_io, v_var, v_lit, v_tup, v_lst, tupK_0, tupK_1, tupK_2, tupK_3, lstK_0, lstK_1, lstK_2, lstK_3, v_p1, p1K_eq, v_p2, p2K_eq, v_and, v_or, v_not, v_ite, v_call, v_mth, mth0_some, mthK_eq, mthO_some, own_eq, ownO_ol, ownO_io, mkOwn_t, mkOwn_f, v_sl, compK_eq, compT_some, v_comp, compC_none, wipe_nil, wipe_cons, rest_nil, rest_cons, fin_ok, con_fz, con_ol, con_plc, slCon_some, scon_fz, scon_ol, scon_bl, scon_io, set_fz, set_plc, set_ol, lift_some, bool_bl, opt_int, opt_non, toV_fz, toV_ol, toV_plc, toVO_ol, V_nil, V_cons, A_nil, A_cons, I_it1, itK_tup, itK_lst, itK_ol, itK_plc, itS_ol, itS_bl, I_rng1, I_rng2, I_rng3, S_nil, S_cons, S_expr, nxK_eq, S_asg, S_asgT, asgO_some, S_aug, augO_int, augK_add, S_setix, setK_eq, setO_some, setAt_eq, setA_0, S_ite, S_for, forO_some, lock_none, lock_ol, lock_bl, S_ret, S_ret0, S_brk, S_cont, S_pass, S_raise, raiK_some, setS_eq, setSO_no, setSO_fz, setSO_ol, setSO_bl, asgR_fz, asgR_ol, asgR_plc, asgP_ol, asgP_bl, retR_fz, retR_ol, retR_plc, retP_ol, asg_v, asg1_eq, asg1O_no, asg1O_fz, asg1O_ol, asg_tp, ag_nil, ag_cons, arg_nil, arg_fz, arg_plc, argT_ol, argT_bl, argT_olf, calR_ok, calR_ex, calI_t, calI_f, calO_some, io_plc, ioO_ol, ioO_io, forC_some, endF_rt, endF_nx, endF_ex, io_f, io_t, sl_io, sl_f, sl_tl, sl_nil, o_len_t, o_len_l, o_tuple_t, o_tuple_l, o_list_t, o_list_l, o_int, o_neg, o_sum, o_any, o_all, o_max, o_isN, o_notN, o_add, o_sub, o_band, o_bor, o_lt, o_le, o_gt, o_ge, o_eq, o_ne, o_ixT, o_ixL, at_0, at_1, m_pop, m_pop0, call_io s9, call_io s10, q1, p1, m_append b1, ea]
    obtain ⟨ns', as', z', r1, r2, r3, r4, r5⟩ := ask_loop h9 h10 sc M hM a b c d e f g h i j r ns2 (as ++ [(vs, (k : Int))]) (.fz (.int (k : Int))) (by omega) (by simp at hl ⊢; omega) (fun x hx => by
      rcases List.mem_append.mp hx with hx | hx
      · exact w x hx
      · simp at hx; subst hx; exact p2) rfl
    refine ⟨ns', as', z', r1, by rw [r2]; simp; omega, r3, .inr (r4.elim (fun e => ⟨_, e⟩) id), ?_⟩
    rw [show nl (k :: r) = .int (k : Int) :: nl r from rfl, for_cons, e1, forC_some, es, tu_nx, r5]
/-! ### law: all pairs -/
theorem ev_in (s : Nat) (x0 x1 x2 x3 x4 x5 x8 x9 y1 y2 y3 y4 y5 : Sl) : ∀ (fs : List Nat) (acc : List (Nat × Nat)) (z : Sl), acc.length + fs.length < 10000 → z.isIo = false →
    ∃ z', compL (compK sg Φ (.tup (.cons (.var 7) (.cons (.var 6) .nil))) (.v 7) (.lit (.bl true))) none [7] (nl fs) (acc.map pT) [x0, x1, x2, x3, x4, x5, .fz (.int (s : Int)), z, x8, x9, y1, y2, y3, y4, y5] = .ok ((acc ++ fs.map fun f => (f, s)).map pT) [x0, x1, x2, x3, x4, x5, .fz (.int (s : Int)), z', x8, x9, y1, y2, y3, y4, y5]
  | [], acc, z, _, _ => ⟨z, by simp [nl, comp_nil]⟩
  | f :: r, acc, z, hl, hz => by
    obtain ⟨z', e⟩ := ev_in s x0 x1 x2 x3 x4 x5 x8 x9 y1 y2 y3 y4 y5 r (acc ++ [(f, s)]) (.fz (.int (f : Int))) (by simp at hl ⊢; omega) rfl
    refine ⟨z', ?_⟩
    have b1 : (acc.map pT).length < sizeLine := by rw [List.length_map, sizeLine_eq]; simp at hl; omega
    rw [show nl (f :: r) = .int (f : Int) :: nl r from rfl, comp_cons]
    simp only [List.getElem?_cons_zero, List.getElem?_cons_succ, List.set_cons_zero, List.set_cons_succ, List.getD_cons_zero, List.getD_cons_succ, ob_some, om_some, b_ok, b_ex, st_ok, st_ex, sq_nx, sq_rt, sq_bk, sq_ct, sq_ex, tu_nx, tu_rt, tu_bk, tu_ct, tu_ex, varR_fz, varR_ol, varR_bl, varR_io, v_var, v_lit, v_tup, v_lst, tupK_0, tupK_1, tupK_2, tupK_3, lstK_0, lstK_1, lstK_2, lstK_3, v_p1, p1K_eq, v_p2, p2K_eq, v_and, v_or, v_not, v_ite, v_call, v_mth, mth0_some, mthK_eq, mthO_some, own_eq, ownO_ol, ownO_io, mkOwn_t, mkOwn_f, v_sl, compK_eq, compT_some, v_comp, compC_none, wipe_nil, wipe_cons, rest_nil, rest_cons, fin_ok, con_fz, con_ol, con_plc, slCon_some, scon_fz, scon_ol, scon_bl, scon_io, set_fz, set_plc, set_ol, lift_some, bool_bl, opt_int, opt_non, toV_fz, toV_ol, toV_plc, toVO_ol, V_nil, V_cons, A_nil, A_cons, I_it1, itK_tup, itK_lst, itK_ol, itK_plc, itS_ol, itS_bl, I_rng1, I_rng2, I_rng3, S_nil, S_cons, S_expr, nxK_eq, S_asg, S_asgT, asgO_some, S_aug, augO_int, augK_add, S_setix, setK_eq, setO_some, setAt_eq, setA_0, S_ite, S_for, forO_some, lock_none, lock_ol, lock_bl, S_ret, S_ret0, S_brk, S_cont, S_pass, S_raise, raiK_some, setS_eq, setSO_no, setSO_fz, setSO_ol, setSO_bl, asgR_fz, asgR_ol, asgR_plc, asgP_ol, asgP_bl, retR_fz, retR_ol, retR_plc, retP_ol, asg_v, asg1_eq, asg1O_no, asg1O_fz, asg1O_ol, asg_tp, ag_nil, ag_cons, arg_nil, arg_fz, arg_plc, argT_ol, argT_bl, argT_olf, calR_ok, calR_ex, calI_t, calI_f, calO_some, io_plc, ioO_ol, ioO_io, forC_some, endF_rt, endF_nx, endF_ex, io_f, io_t, sl_io, sl_f, sl_tl, sl_nil, o_len_t, o_len_l, o_tuple_t, o_tuple_l, o_list_t, o_list_l, o_int, o_neg, o_sum, o_any, o_all, o_max, o_isN, o_notN, o_add, o_sub, o_band, o_bor, o_lt, o_le, o_gt, o_ge, o_eq, o_ne, o_ixT, o_ixL, at_0, at_1, m_pop, m_pop0, decide_true, decide_false, Bool.false_eq_true, reduceIte, Bool.not_true, Bool.not_false, compC_some b1]
    have e2 : acc.map pT ++ [.tup [.int (f : Int), .int (s : Int)]] = (acc ++ [(f, s)]).map pT := by rw [List.map_append]; rfl
    rw [e2, e]
    simp
def evyB : S := (.cons (.asg (.v 5) (.p2 .add (.var 5) (.comp (.tup (.cons (.var 7) (.cons (.var 6) .nil))) (.v 7) (.rng1 (.var 6)) (.lit (.bl true)) [7]))) .nil)
theorem evy_loop (x0 x1 x2 x3 x4 x8 x9 y1 y2 y3 y4 y5 : Sl) : ∀ (ss : List Nat) (acc : List (Nat × Nat)) (z : Sl), (∀ s ∈ ss, s ≤ 8) → acc.length + 8 * ss.length < 1000 → z.isIo = false →
    ∃ z', z'.isIo = false ∧ forL (asgT (.v 6)) (evS sg Φ mk FU evyB) (nl ss) [x0, x1, x2, x3, x4, .ol (acc.map pT), z, .no, x8, x9, y1, y2, y3, y4, y5] = .nx [x0, x1, x2, x3, x4, .ol ((acc ++ ss.flatMap fun s => (List.range s).map fun f => (f, s)).map pT), z', .no, x8, x9, y1, y2, y3, y4, y5]
  | [], acc, z, _, _, hz => ⟨z, hz, by simp [nl, for_nil]⟩
  | s :: r, acc, z, hs, hl, hz => by
    have hs0 := hs s (List.mem_cons_self ..)
    have e1 : asgT (.v 6) (.int (s : Int)) [x0, x1, x2, x3, x4, .ol (acc.map pT), z, .no, x8, x9, y1, y2, y3, y4, y5] = some [x0, x1, x2, x3, x4, .ol (acc.map pT), .fz (.int (s : Int)), .no, x8, x9, y1, y2, y3, y4, y5] := by
      rw [asgT]
      cases z <;> first | rfl | (cases hz; done)
    obtain ⟨z1, e⟩ := ev_in Φ s x0 x1 x2 x3 x4 (.ol (acc.map pT)) x8 x9 y1 y2 y3 y4 y5 (List.range s) [] .no (by simp; omega) rfl
    have b1 : inBig (s : Int) = true := by unfold inBig; exact decide_eq_true (by omega)
    have b3 : (acc.map pT).length + (((List.range s).map fun f => (f, s)).map pT).length ≤ sizeLine := by rw [sizeLine_eq]; simp at hl ⊢; omega
    have es : evS sg Φ mk FU evyB [x0, x1, x2, x3, x4, .ol (acc.map pT), .fz (.int (s : Int)), .no, x8, x9, y1, y2, y3, y4, y5] = .nx [x0, x1, x2, x3, x4, .ol ((acc ++ (List.range s).map fun f => (f, s)).map pT), .fz (.int (s : Int)), .no, x8, x9, y1, y2, y3, y4, y5] := by
      unfold evyB
      simp only [S_cons, S_asg, v_p2, v_var, List.getElem?_cons_zero, List.getElem?_cons_succ, varR_ol, varR_fz, b_ok, v_comp, I_rng1, rg1_ok b1, rangeI_nl0, Int.toNat_natCast]
      rw [compE_eq (by rfl)]
      rw [show ([] : List (Nat × Nat)).map pT = [] from rfl, List.nil_append] at e
      rw [e]
      simp only [List.getElem?_cons_zero, List.getElem?_cons_succ, List.set_cons_zero, List.set_cons_succ, List.getD_cons_zero, List.getD_cons_succ, ob_some, om_some, b_ok, b_ex, st_ok, st_ex, sq_nx, sq_rt, sq_bk, sq_ct, sq_ex, tu_nx, tu_rt, tu_bk, tu_ct, tu_ex, varR_fz, varR_ol, varR_bl, varR_io, v_var, v_lit, v_tup, v_lst, tupK_0, tupK_1, tupK_2, tupK_3, lstK_0, lstK_1, lstK_2, lstK_3, v_p1, p1K_eq, v_p2, p2K_eq, v_and, v_or, v_not, v_ite, v_call, v_mth, mth0_some, mthK_eq, mthO_some, own_eq, ownO_ol, ownO_io, mkOwn_t, mkOwn_f, v_sl, compK_eq, compT_some, v_comp, compC_none, wipe_nil, wipe_cons, rest_nil, rest_cons, fin_ok, con_fz, con_ol, con_plc, slCon_some, scon_fz, scon_ol, scon_bl, scon_io, set_fz, set_plc, set_ol, lift_some, bool_bl, opt_int, opt_non, toV_fz, toV_ol, toV_plc, toVO_ol, V_nil, V_cons, A_nil, A_cons, I_it1, itK_tup, itK_lst, itK_ol, itK_plc, itS_ol, itS_bl, I_rng1, I_rng2, I_rng3, S_nil, S_cons, S_expr, nxK_eq, S_asg, S_asgT, asgO_some, S_aug, augO_int, augK_add, S_setix, setK_eq, setO_some, setAt_eq, setA_0, S_ite, S_for, forO_some, lock_none, lock_ol, lock_bl, S_ret, S_ret0, S_brk, S_cont, S_pass, S_raise, raiK_some, setS_eq, setSO_no, setSO_fz, setSO_ol, setSO_bl, asgR_fz, asgR_ol, asgR_plc, asgP_ol, asgP_bl, retR_fz, retR_ol, retR_plc, retP_ol, asg_v, asg1_eq, asg1O_no, asg1O_fz, asg1O_ol, asg_tp, ag_nil, ag_cons, arg_nil, arg_fz, arg_plc, argT_ol, argT_bl, argT_olf, calR_ok, calR_ex, calI_t, calI_f, calO_some, io_plc, ioO_ol, ioO_io, forC_some, endF_rt, endF_nx, endF_ex, io_f, io_t, sl_io, sl_f, sl_tl, sl_nil, o_len_t, o_len_l, o_tuple_t, o_tuple_l, o_list_t, o_list_l, o_int, o_neg, o_sum, o_any, o_all, o_max, o_isN, o_notN, o_add, o_sub, o_band, o_bor, o_lt, o_le, o_gt, o_ge, o_eq, o_ne, o_ixT, o_ixL, at_0, at_1, m_pop, m_pop0, o_addL b3]
      rw [← List.map_append]
    obtain ⟨z', hz', e2⟩ := evy_loop x0 x1 x2 x3 x4 x8 x9 y1 y2 y3 y4 y5 r (acc ++ (List.range s).map fun f => (f, s)) (.fz (.int (s : Int))) (fun q hq => hs q (List.mem_cons_of_mem _ hq)) (by simp at hl ⊢; omega) rfl
    refine ⟨z', hz', ?_⟩
    rw [show nl (s :: r) = .int (s : Int) :: nl r from rfl, for_cons, e1, forC_some, es, tu_nx, e2]
    simp
end
end K73

set_option Elab.async false
set_option linter.all false
set_option autoImplicit false
set_option maxRecDepth 100000
set_option maxHeartbeats 2000000
namespace K73
open PySem Ev
section
variable (Φ : Tab)
/-! ### law: the lessons -/
theorem fr_in (t : Nat) (x0 x1 x2 x3 x4 x5 x6 x7 x8 x10 y2 y3 y4 : Sl) : ∀ (os : List Nat) (acc : List (Nat × Nat)) (z : Sl), acc.length + os.length < 10000 → z.isIo = false →
    ∃ z', compL (compK sg Φ (.tup (.cons (.var 9) (.cons (.var 11) .nil))) (.v 11) (.p2 .ne (.var 11) (.var 9))) none [11] (nl os) (acc.map pT) [x0, x1, x2, x3, x4, x5, x6, x7, x8, .fz (.int (t : Int)), x10, z, y2, y3, y4]
      = .ok ((acc ++ (os.filter fun o => decide (o ≠ t)).map fun o => (t, o)).map pT) [x0, x1, x2, x3, x4, x5, x6, x7, x8, .fz (.int (t : Int)), x10, z', y2, y3, y4]
  | [], acc, z, _, _ => ⟨z, by simp [nl, comp_nil]⟩
  | o :: r, acc, z, hl, hz => by
    rw [show nl (o :: r) = .int (o : Int) :: nl r from rfl, comp_cons]
    have ed : (!decide ((o : Int) = (t : Int))) = decide (o ≠ t) := by
      by_cases h : o = t
      · subst h; simp
      · have h2 : ¬ ((o : Int) = (t : Int)) := by omega
        simp [h, h2]
    by_cases h : o = t
    · obtain ⟨z', e⟩ := fr_in t x0 x1 x2 x3 x4 x5 x6 x7 x8 x10 y2 y3 y4 r acc (.fz (.int (o : Int))) (by simp at hl ⊢; omega) rfl
      have e0 : decide (o ≠ t) = false := decide_eq_false (by simp [h])
      refine ⟨z', ?_⟩
      simp only [List.getElem?_cons_zero, List.getElem?_cons_succ, List.set_cons_zero, List.set_cons_succ, List.getD_cons_zero, List.getD_cons_succ, ob_some, om_some, b_ok, b_ex, st_ok, st_ex, sq_nx, sq_rt, sq_bk, sq_ct, sq_ex, tu_nx, tu_rt, tu_bk, tu_ct, tu_ex, varR_fz, varR_ol, varR_bl, varR_io, v_var, v_lit, v_tup, v_lst, tupK_0, tupK_1, tupK_2, tupK_3, lstK_0, lstK_1, lstK_2, lstK_3, v_p1, p1K_eq, v_p2, p2K_eq, v_and, v_or, v_not, v_ite, v_call, v_mth, mth0_some, mthK_eq, mthO_some, own_eq, ownO_ol, ownO_io, mkOwn_t, mkOwn_f, v_sl, compK_eq, compT_some, v_comp, compC_none, wipe_nil, wipe_cons, rest_nil, rest_cons, fin_ok, con_fz, con_ol, con_plc, slCon_some, scon_fz, scon_ol, scon_bl, scon_io, set_fz, set_plc, set_ol, lift_some, bool_bl, opt_int, opt_non, toV_fz, toV_ol, toV_plc, toVO_ol, V_nil, V_cons, A_nil, A_cons, I_it1, itK_tup, itK_lst, itK_ol, itK_plc, itS_ol, itS_bl, I_rng1, I_rng2, I_rng3, S_nil, S_cons, S_expr, nxK_eq, S_asg, S_asgT, asgO_some, S_aug, augO_int, augK_add, S_setix, setK_eq, setO_some, setAt_eq, setA_0, S_ite, S_for, forO_some, lock_none, lock_ol, lock_bl, S_ret, S_ret0, S_brk, S_cont, S_pass, S_raise, raiK_some, setS_eq, setSO_no, setSO_fz, setSO_ol, setSO_bl, asgR_fz, asgR_ol, asgR_plc, asgP_ol, asgP_bl, retR_fz, retR_ol, retR_plc, retP_ol, asg_v, asg1_eq, asg1O_no, asg1O_fz, asg1O_ol, asg_tp, ag_nil, ag_cons, arg_nil, arg_fz, arg_plc, argT_ol, argT_bl, argT_olf, calR_ok, calR_ex, calI_t, calI_f, calO_some, io_plc, ioO_ol, ioO_io, forC_some, endF_rt, endF_nx, endF_ex, io_f, io_t, sl_io, sl_f, sl_tl, sl_nil, o_len_t, o_len_l, o_tuple_t, o_tuple_l, o_list_t, o_list_l, o_int, o_neg, o_sum, o_any, o_all, o_max, o_isN, o_notN, o_add, o_sub, o_band, o_bor, o_lt, o_le, o_gt, o_ge, o_eq, o_ne, o_ixT, o_ixL, at_0, at_1, m_pop, m_pop0, ed, e0, decide_true, decide_false, Bool.false_eq_true, reduceIte, Bool.not_true, Bool.not_false]
      rw [e, List.filter_cons, if_neg (by simp [h])]
    · obtain ⟨z', e⟩ := fr_in t x0 x1 x2 x3 x4 x5 x6 x7 x8 x10 y2 y3 y4 r (acc ++ [(t, o)]) (.fz (.int (o : Int))) (by simp at hl ⊢; omega) rfl
      have e0 : decide (o ≠ t) = true := decide_eq_true h
      have b1 : (acc.map pT).length < sizeLine := by rw [List.length_map, sizeLine_eq]; simp at hl; omega
      refine ⟨z', ?_⟩
      simp only [List.getElem?_cons_zero, List.getElem?_cons_succ, List.set_cons_zero, List.set_cons_succ, List.getD_cons_zero, List.getD_cons_succ, ob_some, om_some, b_ok, b_ex, st_ok, st_ex, sq_nx, sq_rt, sq_bk, sq_ct, sq_ex, tu_nx, tu_rt, tu_bk, tu_ct, tu_ex, varR_fz, varR_ol, varR_bl, varR_io, v_var, v_lit, v_tup, v_lst, tupK_0, tupK_1, tupK_2, tupK_3, lstK_0, lstK_1, lstK_2, lstK_3, v_p1, p1K_eq, v_p2, p2K_eq, v_and, v_or, v_not, v_ite, v_call, v_mth, mth0_some, mthK_eq, mthO_some, own_eq, ownO_ol, ownO_io, mkOwn_t, mkOwn_f, v_sl, compK_eq, compT_some, v_comp, compC_none, wipe_nil, wipe_cons, rest_nil, rest_cons, fin_ok, con_fz, con_ol, con_plc, slCon_some, scon_fz, scon_ol, scon_bl, scon_io, set_fz, set_plc, set_ol, lift_some, bool_bl, opt_int, opt_non, toV_fz, toV_ol, toV_plc, toVO_ol, V_nil, V_cons, A_nil, A_cons, I_it1, itK_tup, itK_lst, itK_ol, itK_plc, itS_ol, itS_bl, I_rng1, I_rng2, I_rng3, S_nil, S_cons, S_expr, nxK_eq, S_asg, S_asgT, asgO_some, S_aug, augO_int, augK_add, S_setix, setK_eq, setO_some, setAt_eq, setA_0, S_ite, S_for, forO_some, lock_none, lock_ol, lock_bl, S_ret, S_ret0, S_brk, S_cont, S_pass, S_raise, raiK_some, setS_eq, setSO_no, setSO_fz, setSO_ol, setSO_bl, asgR_fz, asgR_ol, asgR_plc, asgP_ol, asgP_bl, retR_fz, retR_ol, retR_plc, retP_ol, asg_v, asg1_eq, asg1O_no, asg1O_fz, asg1O_ol, asg_tp, ag_nil, ag_cons, arg_nil, arg_fz, arg_plc, argT_ol, argT_bl, argT_olf, calR_ok, calR_ex, calI_t, calI_f, calO_some, io_plc, ioO_ol, ioO_io, forC_some, endF_rt, endF_nx, endF_ex, io_f, io_t, sl_io, sl_f, sl_tl, sl_nil, o_len_t, o_len_l, o_tuple_t, o_tuple_l, o_list_t, o_list_l, o_int, o_neg, o_sum, o_any, o_all, o_max, o_isN, o_notN, o_add, o_sub, o_band, o_bor, o_lt, o_le, o_gt, o_ge, o_eq, o_ne, o_ixT, o_ixL, at_0, at_1, m_pop, m_pop0, ed, e0, decide_true, decide_false, Bool.false_eq_true, reduceIte, Bool.not_true, Bool.not_false, compC_some b1]
      have e2 : acc.map pT ++ [.tup [.int (t : Int), .int (o : Int)]] = (acc ++ [(t, o)]).map pT := by rw [List.map_append]; rfl
      rw [e2, e, List.filter_cons, if_pos (by simp [h])]
      simp
def lesB : S := (.cons (.asg (.v 10) (.call 13 (.cons (.var 3) (.cons (.comp (.tup (.cons (.var 9) (.cons (.var 11) .nil))) (.v 11) (.rng1 (.var 2)) (.p2 .ne (.var 11) (.var 9)) [11]) .nil)))) (.cons (.ite (.p2 .ne (.call 5 (.cons (.var 3) (.cons (.var 2) (.cons (.var 9) .nil)))) (.var 10)) (.cons (.ret (.lit (.bl false))) .nil) .nil) (.cons (.expr (.mth .append 8 (.cons (.var 10) .nil))) .nil)))
theorem les_loop (as : List Ask) (M : Nat) (hM : M ≤ 8) (Ls : Nat → Option (List Nat)) (h5 : ∀ t, t < M → Φ 5 [asksT as, .int (M : Int), .int (t : Int)] = .ok (.fz (oT (Ls t))) []) (h13 : ∀ t, t < M → Φ 13 [asksT as, .lst ((fromL M t).map pT)] = .ok (.fz (oT (Ls t))) [])
    (x0 x1 x4 x5 x6 x7 y2 y3 y4 : Sl) : ∀ (ts : List Nat) (os : List (Option (List Nat))) (z9 z10 : Sl), (∀ t ∈ ts, t < M) → os.length + ts.length < 1000 → z9.isIo = false → z10.isIo = false →
    ∃ z9' z10', z10'.isIo = false ∧ forL (asgT (.v 9)) (evS sg Φ mk FU lesB) (nl ts) [x0, x1, .fz (.int (M : Int)), .fz (asksT as), x4, x5, x6, x7, .ol (os.map oT), z9, z10, .no, y2, y3, y4]
      = .nx [x0, x1, .fz (.int (M : Int)), .fz (asksT as), x4, x5, x6, x7, .ol ((os ++ ts.map Ls).map oT), z9', z10', .no, y2, y3, y4]
  | [], os, z9, z10, _, _, _, h10 => ⟨z9, z10, h10, by simp [nl, for_nil]⟩
  | t :: r, os, z9, z10, ht, hl, h9, h10 => by
    have ht0 := ht t (List.mem_cons_self ..)
    have e1 : asgT (.v 9) (.int (t : Int)) [x0, x1, .fz (.int (M : Int)), .fz (asksT as), x4, x5, x6, x7, .ol (os.map oT), z9, z10, .no, y2, y3, y4] = some [x0, x1, .fz (.int (M : Int)), .fz (asksT as), x4, x5, x6, x7, .ol (os.map oT), .fz (.int (t : Int)), z10, .no, y2, y3, y4] := by
      rw [asgT]
      cases z9 <;> first | rfl | (cases h9; done)
    obtain ⟨z1, e⟩ := fr_in Φ t x0 x1 (.fz (.int (M : Int))) (.fz (asksT as)) x4 x5 x6 x7 (.ol (os.map oT)) z10 y2 y3 y4 (List.range M) [] .no (by simp; omega) rfl
    have b1 : inBig (M : Int) = true := by unfold inBig; exact decide_eq_true (by omega)
    have b2 : (os.map oT).length < sizeLine := by rw [List.length_map, sizeLine_eq]; simp at hl; omega
    have s13 : sg 13 = ⟨2, false, [false, true]⟩ := rfl
    have s5 : sg 5 = ⟨3, false, [false, false, false]⟩ := rfl
    have hset : ∀ q : T, setS 10 (.fz q) [x0, x1, .fz (.int (M : Int)), .fz (asksT as), x4, x5, x6, x7, .ol (os.map oT), .fz (.int (t : Int)), z10, .no, y2, y3, y4] = .nx [x0, x1, .fz (.int (M : Int)), .fz (asksT as), x4, x5, x6, x7, .ol (os.map oT), .fz (.int (t : Int)), .fz q, .no, y2, y3, y4] := fun q => by
      cases z10 <;> first | rfl | (cases h10; done)
    have es : evS sg Φ mk FU lesB [x0, x1, .fz (.int (M : Int)), .fz (asksT as), x4, x5, x6, x7, .ol (os.map oT), .fz (.int (t : Int)), z10, .no, y2, y3, y4] = .nx [x0, x1, .fz (.int (M : Int)), .fz (asksT as), x4, x5, x6, x7, .ol ((os ++ [Ls t]).map oT), .fz (.int (t : Int)), .fz (oT (Ls t)), .no, y2, y3, y4] := by
      unfold lesB
      rw [show ([] : List (Nat × Nat)).map pT = [] from rfl, List.nil_append] at e
      have ef : ((List.range M).filter fun o => decide (o ≠ t)).map (fun o => (t, o)) = fromL M t := rfl
      rw [ef] at e
      have en : ap2 .ne (oT (Ls t)) (oT (Ls t)) = some (.fz (.bl false)) := by
        rw [o_neT (show eqOk (oT (Ls t)) (oT (Ls t)) from ⟨sh_oT _, sh_oT _⟩), eqv_oT]; rfl
      have ea : (os ++ [Ls t]).map oT = os.map oT ++ [oT (Ls t)] := by rw [List.map_append]; rfl
      simp only [S_cons, S_asg, v_call, A_cons, v_var, List.getElem?_cons_zero, List.getElem?_cons_succ, varR_fz, b_ok, v_comp, I_rng1, rg1_ok b1, rangeI_nl0, Int.toNat_natCast]
      rw [compE_eq (by rfl)]
      rw [e]
      simp only [fin_ok, rest_cons, rest_nil, List.getD_cons_zero, List.getD_cons_succ, List.set_cons_zero, List.set_cons_succ, b_ok, A_nil, set_fz, set_ol, call_plain s13, arg_fz, arg_nil, h13 t ht0, calR_ok, st_ok, asgR_fz, hset, sq_nx]
      simp only [List.getElem?_cons_zero, List.getElem?_cons_succ, List.set_cons_zero, List.set_cons_succ, List.getD_cons_zero, List.getD_cons_succ, ob_some, om_some, b_ok, b_ex, st_ok, st_ex, sq_nx, sq_rt, sq_bk, sq_ct, sq_ex, tu_nx, tu_rt, tu_bk, tu_ct, tu_ex, varR_fz, varR_ol, varR_bl, varR_io, v_var, v_lit, v_tup, v_lst, tupK_0, tupK_1, tupK_2, tupK_3, lstK_0, lstK_1, lstK_2, lstK_3, v_p1, p1K_eq, v_p2, p2K_eq, v_and, v_or, v_not, v_ite, v_call, v_mth, mth0_some, mthK_eq, mthO_some, own_eq, ownO_ol, ownO_io, mkOwn_t, mkOwn_f, v_sl, compK_eq, compT_some, v_comp, compC_none, wipe_nil, wipe_cons, rest_nil, rest_cons, fin_ok, con_fz, con_ol, con_plc, slCon_some, scon_fz, scon_ol, scon_bl, scon_io, set_fz, set_plc, set_ol, lift_some, bool_bl, opt_int, opt_non, toV_fz, toV_ol, toV_plc, toVO_ol, V_nil, V_cons, A_nil, A_cons, I_it1, itK_tup, itK_lst, itK_ol, itK_plc, itS_ol, itS_bl, I_rng1, I_rng2, I_rng3, S_nil, S_cons, S_expr, nxK_eq, S_asg, S_asgT, asgO_some, S_aug, augO_int, augK_add, S_setix, setK_eq, setO_some, setAt_eq, setA_0, S_ite, S_for, forO_some, lock_none, lock_ol, lock_bl, S_ret, S_ret0, S_brk, S_cont, S_pass, S_raise, raiK_some, setS_eq, setSO_no, setSO_fz, setSO_ol, setSO_bl, asgR_fz, asgR_ol, asgR_plc, asgP_ol, asgP_bl, retR_fz, retR_ol, retR_plc, retP_ol, asg_v, asg1_eq, asg1O_no, asg1O_fz, asg1O_ol, asg_tp, ag_nil, ag_cons, arg_nil, arg_fz, arg_plc, argT_ol, argT_bl, argT_olf, calR_ok, calR_ex, calI_t, calI_f, calO_some, io_plc, ioO_ol, ioO_io, forC_some, endF_rt, endF_nx, endF_ex, io_f, io_t, sl_io, sl_f, sl_tl, sl_nil, o_len_t, o_len_l, o_tuple_t, o_tuple_l, o_list_t, o_list_l, o_int, o_neg, o_sum, o_any, o_all, o_max, o_isN, o_notN, o_add, o_sub, o_band, o_bor, o_lt, o_le, o_gt, o_ge, o_eq, o_ne, o_ixT, o_ixL, at_0, at_1, m_pop, m_pop0, call_plain s5, h5 t ht0, en, decide_true, decide_false, Bool.false_eq_true, reduceIte, Bool.not_true, Bool.not_false, m_append b2, ea]
    obtain ⟨z9', z10', hz, e2⟩ := les_loop as M hM Ls h5 h13 x0 x1 x4 x5 x6 x7 y2 y3 y4 r (os ++ [Ls t]) (.fz (.int (t : Int))) (.fz (oT (Ls t))) (fun q hq => ht q (List.mem_cons_of_mem _ hq)) (by simp at hl ⊢; omega) rfl rfl
    refine ⟨z9', z10', hz, ?_⟩
    rw [show nl (t :: r) = .int (t : Int) :: nl r from rfl, for_cons, e1, forC_some, es, tu_nx, e2]
    simp
end
end K73

set_option Elab.async false
set_option linter.all false
set_option autoImplicit false
set_option maxRecDepth 100000
set_option maxHeartbeats 2000000
namespace K73
open PySem Ev
theorem lay_il : ∀ c : List Int, PyData.canLayAll0 (T.pds (il c)) = true
  | [] => rfl
  | x :: r => by
    show (true && PyData.canLayAll0 (T.pds (il r))) = true
    rw [lay_il r]; rfl
theorem dep_il : ∀ c : List Int, PyData.depthAll (T.pds (il c)) = 0
  | [] => rfl
  | x :: r => by
    show max 0 (PyData.depthAll (T.pds (il r))) = 0
    rw [dep_il r]; rfl
theorem sh_il (c : List Int) : SeqAt.shaped (T.lst (il c)).pd = true := by
  show (PyData.canLayAll0 (T.pds (il c)) && decide (PyData.depthAll (T.pds (il c)) + 1 ≤ 64)) = true
  rw [lay_il, dep_il]; rfl
theorem any_non (os : List (Option (List Nat))) : ((os.map oT).any fun z => PyData.eqv z.pd T.non.pd) = os.any (·.isNone) := by
  rw [List.any_map]
  congr 1
  funext o
  cases o <;> rfl
section
variable (Φ : Tab)
theorem sl8 (L : List T) (x0 x1 x2 x3 x4 x5 x6 x7 x9 x10 x11 x12 x13 x14 : Sl) : slotIs [x0, x1, x2, x3, x4, x5, x6, x7, .ol L, x9, x10, x11, x12, x13, x14] (some (8, .ol L)) = true := decide_eq_true rfl
theorem len_loop (L : List T) (x0 x1 x2 x3 x4 x5 x6 x7 x9 x10 x11 x12 x14 : Sl) : ∀ (cs : List (List Nat)) (acc : List Int) (z : Sl), acc.length + cs.length < 1000 → z.isIo = false →
    ∃ z', compL (compK sg Φ (.p1 .len (.var 13)) (.v 13) (.lit (.bl true))) (some (8, .ol L)) [13] (cs.map tT) (il acc) [x0, x1, x2, x3, x4, x5, x6, x7, .ol L, x9, x10, x11, x12, z, x14]
      = .ok (il (acc ++ cs.map fun c => (c.length : Int))) [x0, x1, x2, x3, x4, x5, x6, x7, .ol L, x9, x10, x11, x12, z', x14]
  | [], acc, z, _, _ => ⟨z, by rw [List.map_nil, comp_nilC (sl8 ..)]; simp⟩
  | c :: r, acc, z, hl, hz => by
    obtain ⟨z', e⟩ := len_loop L x0 x1 x2 x3 x4 x5 x6 x7 x9 x10 x11 x12 x14 r (acc ++ [(c.length : Int)]) (.fz (tT c)) (by simp at hl ⊢; omega) rfl
    refine ⟨z', ?_⟩
    have b1 : (il acc).length < sizeLine := by rw [il_len, sizeLine_eq]; simp at hl; omega
    have el : ((nl c).length : Int) = (c.length : Int) := by rw [nl_len]
    rw [List.map_cons, comp_consC (sl8 ..)]
    simp only [List.getElem?_cons_zero, List.getElem?_cons_succ, List.set_cons_zero, List.set_cons_succ, List.getD_cons_zero, List.getD_cons_succ, ob_some, om_some, b_ok, b_ex, st_ok, st_ex, sq_nx, sq_rt, sq_bk, sq_ct, sq_ex, tu_nx, tu_rt, tu_bk, tu_ct, tu_ex, varR_fz, varR_ol, varR_bl, varR_io, v_var, v_lit, v_tup, v_lst, tupK_0, tupK_1, tupK_2, tupK_3, lstK_0, lstK_1, lstK_2, lstK_3, v_p1, p1K_eq, v_p2, p2K_eq, v_and, v_or, v_not, v_ite, v_call, v_mth, mth0_some, mthK_eq, mthO_some, own_eq, ownO_ol, ownO_io, mkOwn_t, mkOwn_f, v_sl, compK_eq, compT_some, v_comp, compC_none, wipe_nil, wipe_cons, rest_nil, rest_cons, fin_ok, con_fz, con_ol, con_plc, slCon_some, scon_fz, scon_ol, scon_bl, scon_io, set_fz, set_plc, set_ol, lift_some, bool_bl, opt_int, opt_non, toV_fz, toV_ol, toV_plc, toVO_ol, V_nil, V_cons, A_nil, A_cons, I_it1, itK_tup, itK_lst, itK_ol, itK_plc, itS_ol, itS_bl, I_rng1, I_rng2, I_rng3, S_nil, S_cons, S_expr, nxK_eq, S_asg, S_asgT, asgO_some, S_aug, augO_int, augK_add, S_setix, setK_eq, setO_some, setAt_eq, setA_0, S_ite, S_for, forO_some, lock_none, lock_ol, lock_bl, S_ret, S_ret0, S_brk, S_cont, S_pass, S_raise, raiK_some, setS_eq, setSO_no, setSO_fz, setSO_ol, setSO_bl, asgR_fz, asgR_ol, asgR_plc, asgP_ol, asgP_bl, retR_fz, retR_ol, retR_plc, retP_ol, asg_v, asg1_eq, asg1O_no, asg1O_fz, asg1O_ol, asg_tp, ag_nil, ag_cons, arg_nil, arg_fz, arg_plc, argT_ol, argT_bl, argT_olf, calR_ok, calR_ex, calI_t, calI_f, calO_some, io_plc, ioO_ol, ioO_io, forC_some, endF_rt, endF_nx, endF_ex, io_f, io_t, sl_io, sl_f, sl_tl, sl_nil, o_len_t, o_len_l, o_tuple_t, o_tuple_l, o_list_t, o_list_l, o_int, o_neg, o_sum, o_any, o_all, o_max, o_isN, o_notN, o_add, o_sub, o_band, o_bor, o_lt, o_le, o_gt, o_ge, o_eq, o_ne, o_ixT, o_ixL, at_0, at_1, m_pop, m_pop0, tT, decide_true, decide_false, Bool.false_eq_true, reduceIte, Bool.not_true, Bool.not_false, el, compC_some b1, il_app]
    simp only [tT] at e
    rw [e]
    simp
def lenE : E := .comp (.p1 .len (.var 13)) (.v 13) (.it1 (.var 8)) (.lit (.bl true)) [13]
theorem len_ok (L : List T) (x0 x1 x2 x3 x4 x5 x6 x7 x9 x10 x11 x12 x14 : Sl) (cs : List (List Nat)) (hL : L = cs.map tT) (hc : cs.length < 1000) : ev sg Φ lenE [x0, x1, x2, x3, x4, x5, x6, x7, .ol L, x9, x10, x11, x12, .no, x14] = .ok (.ol (il (cs.map fun c => (c.length : Int)))) [x0, x1, x2, x3, x4, x5, x6, x7, .ol L, x9, x10, x11, x12, .no, x14] := by
  obtain ⟨z', e⟩ := len_loop Φ L x0 x1 x2 x3 x4 x5 x6 x7 x9 x10 x11 x12 x14 cs [] .no (by simp; omega) rfl
  rw [show il [] = [] from rfl, List.nil_append, ← hL] at e
  unfold lenE
  simp only [v_comp, I_it1, v_var, List.getElem?_cons_zero, List.getElem?_cons_succ, varR_ol, b_ok, itK_plc, itS_ol]
  rw [compE_eq (by rfl)]
  rw [e]
  simp only [List.getElem?_cons_zero, List.getElem?_cons_succ, List.set_cons_zero, List.set_cons_succ, List.getD_cons_zero, List.getD_cons_succ, ob_some, om_some, b_ok, b_ex, st_ok, st_ex, sq_nx, sq_rt, sq_bk, sq_ct, sq_ex, tu_nx, tu_rt, tu_bk, tu_ct, tu_ex, varR_fz, varR_ol, varR_bl, varR_io, v_var, v_lit, v_tup, v_lst, tupK_0, tupK_1, tupK_2, tupK_3, lstK_0, lstK_1, lstK_2, lstK_3, v_p1, p1K_eq, v_p2, p2K_eq, v_and, v_or, v_not, v_ite, v_call, v_mth, mth0_some, mthK_eq, mthO_some, own_eq, ownO_ol, ownO_io, mkOwn_t, mkOwn_f, v_sl, compK_eq, compT_some, v_comp, compC_none, wipe_nil, wipe_cons, rest_nil, rest_cons, fin_ok, con_fz, con_ol, con_plc, slCon_some, scon_fz, scon_ol, scon_bl, scon_io, set_fz, set_plc, set_ol, lift_some, bool_bl, opt_int, opt_non, toV_fz, toV_ol, toV_plc, toVO_ol, V_nil, V_cons, A_nil, A_cons, I_it1, itK_tup, itK_lst, itK_ol, itK_plc, itS_ol, itS_bl, I_rng1, I_rng2, I_rng3, S_nil, S_cons, S_expr, nxK_eq, S_asg, S_asgT, asgO_some, S_aug, augO_int, augK_add, S_setix, setK_eq, setO_some, setAt_eq, setA_0, S_ite, S_for, forO_some, lock_none, lock_ol, lock_bl, S_ret, S_ret0, S_brk, S_cont, S_pass, S_raise, raiK_some, setS_eq, setSO_no, setSO_fz, setSO_ol, setSO_bl, asgR_fz, asgR_ol, asgR_plc, asgP_ol, asgP_bl, retR_fz, retR_ol, retR_plc, retP_ol, asg_v, asg1_eq, asg1O_no, asg1O_fz, asg1O_ol, asg_tp, ag_nil, ag_cons, arg_nil, arg_fz, arg_plc, argT_ol, argT_bl, argT_olf, calR_ok, calR_ex, calI_t, calI_f, calO_some, io_plc, ioO_ol, ioO_io, forC_some, endF_rt, endF_nx, endF_ex, io_f, io_t, sl_io, sl_f, sl_tl, sl_nil, o_len_t, o_len_l, o_tuple_t, o_tuple_l, o_list_t, o_list_l, o_int, o_neg, o_sum, o_any, o_all, o_max, o_isN, o_notN, o_add, o_sub, o_band, o_bor, o_lt, o_le, o_gt, o_ge, o_eq, o_ne, o_ixT, o_ixL, at_0, at_1, m_pop, m_pop0]
def dueB : S := .ite (.p2 .notin (.lit .non) (.var 8)) (.cons (.asg (.v 12) (.p1 .max lenE)) (.cons (.asg (.v 10) (.tup (.cons (.p2 .index lenE (.var 12)) (.cons (.var 12) .nil)))) .nil)) .nil
theorem due_ok (M : Nat) (h0 : 0 < M) (hM : M ≤ 8) (Ls : Nat → Option (List Nat)) (x0 x1 x2 x3 x4 x5 x6 x7 x9 x14 : Sl) :
    ∃ z12, evS sg Φ mk FU dueB [x0, x1, x2, x3, x4, x5, x6, x7, .ol (((List.range M).map Ls).map oT), x9, .fz .non, .no, .no, .no, x14] = .nx [x0, x1, x2, x3, x4, x5, x6, x7, .ol (((List.range M).map Ls).map oT), x9, .fz (hT (hardL Ls (List.range M) none)), .no, z12, .no, x14] := by
  have en : ap2 .notin .non (.lst (((List.range M).map Ls).map oT)) = some (.fz (.bl (!((List.range M).map Ls).any (·.isNone)))) := by
    have : eqOk T.non (.lst (((List.range M).map Ls).map oT)) := ⟨rfl, sh_lst _⟩
    show (if eqOk T.non (.lst (((List.range M).map Ls).map oT)) then _ else _) = _
    rw [if_pos this, any_non]
  unfold dueB
  cases ha : ((List.range M).map Ls).any (·.isNone) with
  | true =>
    rw [ha] at en
    rw [List.any_eq_true] at ha
    obtain ⟨o, ho, hn⟩ := ha
    obtain ⟨t, ht, rfl⟩ := List.mem_map.mp ho
    have hh : hardL Ls (List.range M) none = none := hard_all _ _ ⟨t, ht, by simpa using hn⟩
    rw [hh]
    refine ⟨.no, ?_⟩
    simp only [List.getElem?_cons_zero, List.getElem?_cons_succ, List.set_cons_zero, List.set_cons_succ, List.getD_cons_zero, List.getD_cons_succ, ob_some, om_some, b_ok, b_ex, st_ok, st_ex, sq_nx, sq_rt, sq_bk, sq_ct, sq_ex, tu_nx, tu_rt, tu_bk, tu_ct, tu_ex, varR_fz, varR_ol, varR_bl, varR_io, v_var, v_lit, v_tup, v_lst, tupK_0, tupK_1, tupK_2, tupK_3, lstK_0, lstK_1, lstK_2, lstK_3, v_p1, p1K_eq, v_p2, p2K_eq, v_and, v_or, v_not, v_ite, v_call, v_mth, mth0_some, mthK_eq, mthO_some, own_eq, ownO_ol, ownO_io, mkOwn_t, mkOwn_f, v_sl, compK_eq, compT_some, v_comp, compC_none, wipe_nil, wipe_cons, rest_nil, rest_cons, fin_ok, con_fz, con_ol, con_plc, slCon_some, scon_fz, scon_ol, scon_bl, scon_io, set_fz, set_plc, set_ol, lift_some, bool_bl, opt_int, opt_non, toV_fz, toV_ol, toV_plc, toVO_ol, V_nil, V_cons, A_nil, A_cons, I_it1, itK_tup, itK_lst, itK_ol, itK_plc, itS_ol, itS_bl, I_rng1, I_rng2, I_rng3, S_nil, S_cons, S_expr, nxK_eq, S_asg, S_asgT, asgO_some, S_aug, augO_int, augK_add, S_setix, setK_eq, setO_some, setAt_eq, setA_0, S_ite, S_for, forO_some, lock_none, lock_ol, lock_bl, S_ret, S_ret0, S_brk, S_cont, S_pass, S_raise, raiK_some, setS_eq, setSO_no, setSO_fz, setSO_ol, setSO_bl, asgR_fz, asgR_ol, asgR_plc, asgP_ol, asgP_bl, retR_fz, retR_ol, retR_plc, retP_ol, asg_v, asg1_eq, asg1O_no, asg1O_fz, asg1O_ol, asg_tp, ag_nil, ag_cons, arg_nil, arg_fz, arg_plc, argT_ol, argT_bl, argT_olf, calR_ok, calR_ex, calI_t, calI_f, calO_some, io_plc, ioO_ol, ioO_io, forC_some, endF_rt, endF_nx, endF_ex, io_f, io_t, sl_io, sl_f, sl_tl, sl_nil, o_len_t, o_len_l, o_tuple_t, o_tuple_l, o_list_t, o_list_l, o_int, o_neg, o_sum, o_any, o_all, o_max, o_isN, o_notN, o_add, o_sub, o_band, o_bor, o_lt, o_le, o_gt, o_ge, o_eq, o_ne, o_ixT, o_ixL, at_0, at_1, m_pop, m_pop0, en, decide_true, decide_false, Bool.false_eq_true, reduceIte, Bool.not_true, Bool.not_false]
    rfl
  | false =>
    rw [ha] at en
    have hall : ∀ t, t < M → ∃ c, Ls t = some c ∧ c.length = ((Ls t).getD []).length := fun t ht => by
      cases hc : Ls t with
      | some c => exact ⟨c, rfl, rfl⟩
      | none =>
        rw [List.any_eq_false] at ha
        exact absurd (by rw [hc]; rfl) (ha (Ls t) (List.mem_map.mpr ⟨t, List.mem_range.mpr ht, rfl⟩))
    obtain ⟨q, hq, fq⟩ := hard_first h0 hall
    have eL : ((List.range M).map Ls).map oT = ((List.range M).map fun t => (Ls t).getD []).map tT := by
      rw [List.map_map, List.map_map]
      refine List.map_congr_left fun t ht => ?_
      obtain ⟨c, hc, _⟩ := hall t (List.mem_range.mp ht)
      simp only [Function.comp, hc]
      rfl
    have elen : (((List.range M).map fun t => (Ls t).getD []).map fun c => (c.length : Int)) = (List.range M).map fun t => ((((Ls t).getD []).length : Nat) : Int) := by rw [List.map_map]; rfl
    have emax : ap1 .max (.lst (il ((List.range M).map fun t => ((((Ls t).getD []).length : Nat) : Int)))) = some (.fz (.int (q.2 : Int))) := by
      have h1 := max_fa fq
      obtain ⟨m, rfl⟩ : ∃ m, M = m + 1 := ⟨M - 1, by omega⟩
      have er : List.range (m + 1) = 0 :: List.range' 1 m := by rw [List.range_eq_range', List.range'_succ]
      rw [er, List.map_cons] at h1 ⊢
      rw [← h1]
      exact o_max
    have eidx : ap2 .index (.lst (il ((List.range M).map fun t => ((((Ls t).getD []).length : Nat) : Int)))) (.int (q.2 : Int)) = some (.fz (.int (q.1 : Int))) := by
      have : eqOk (T.int (q.2 : Int)) (.lst (il ((List.range M).map fun t => ((((Ls t).getD []).length : Nat) : Int)))) := ⟨rfl, sh_il _⟩
      show (if eqOk (T.int (q.2 : Int)) (.lst (il ((List.range M).map fun t => ((((Ls t).getD []).length : Nat) : Int)))) then _ else _) = _
      rw [if_pos this]
      have hi := idx_fa fq
      unfold il
      rw [List.map_map]
      have hf : (T.int ∘ fun t => ((((Ls t).getD []).length : Nat) : Int)) = fun t => T.int ((((Ls t).getD []).length : Nat) : Int) := rfl
      rw [hf, hi]
      rfl
    have hlen : ∀ z10 z12 : Sl, ev sg Φ lenE [x0, x1, x2, x3, x4, x5, x6, x7, .ol (((List.range M).map Ls).map oT), x9, z10, .no, z12, .no, x14] = .ok (.ol (il ((List.range M).map fun t => ((((Ls t).getD []).length : Nat) : Int)))) [x0, x1, x2, x3, x4, x5, x6, x7, .ol (((List.range M).map Ls).map oT), x9, z10, .no, z12, .no, x14] := fun z10 z12 => by
      rw [← elen]
      exact len_ok Φ _ x0 x1 x2 x3 x4 x5 x6 x7 x9 z10 .no z12 x14 _ eL (by simp; omega)
    rw [hq]
    refine ⟨.fz (.int (q.2 : Int)), ?_⟩
    simp only [List.getElem?_cons_zero, List.getElem?_cons_succ, List.set_cons_zero, List.set_cons_succ, List.getD_cons_zero, List.getD_cons_succ, ob_some, om_some, b_ok, b_ex, st_ok, st_ex, sq_nx, sq_rt, sq_bk, sq_ct, sq_ex, tu_nx, tu_rt, tu_bk, tu_ct, tu_ex, varR_fz, varR_ol, varR_bl, varR_io, v_var, v_lit, v_tup, v_lst, tupK_0, tupK_1, tupK_2, tupK_3, lstK_0, lstK_1, lstK_2, lstK_3, v_p1, p1K_eq, v_p2, p2K_eq, v_and, v_or, v_not, v_ite, v_call, v_mth, mth0_some, mthK_eq, mthO_some, own_eq, ownO_ol, ownO_io, mkOwn_t, mkOwn_f, v_sl, compK_eq, compT_some, v_comp, compC_none, wipe_nil, wipe_cons, rest_nil, rest_cons, fin_ok, con_fz, con_ol, con_plc, slCon_some, scon_fz, scon_ol, scon_bl, scon_io, set_fz, set_plc, set_ol, lift_some, bool_bl, opt_int, opt_non, toV_fz, toV_ol, toV_plc, toVO_ol, V_nil, V_cons, A_nil, A_cons, I_it1, itK_tup, itK_lst, itK_ol, itK_plc, itS_ol, itS_bl, I_rng1, I_rng2, I_rng3, S_nil, S_cons, S_expr, nxK_eq, S_asg, S_asgT, asgO_some, S_aug, augO_int, augK_add, S_setix, setK_eq, setO_some, setAt_eq, setA_0, S_ite, S_for, forO_some, lock_none, lock_ol, lock_bl, S_ret, S_ret0, S_brk, S_cont, S_pass, S_raise, raiK_some, setS_eq, setSO_no, setSO_fz, setSO_ol, setSO_bl, asgR_fz, asgR_ol, asgR_plc, asgP_ol, asgP_bl, retR_fz, retR_ol, retR_plc, retP_ol, asg_v, asg1_eq, asg1O_no, asg1O_fz, asg1O_ol, asg_tp, ag_nil, ag_cons, arg_nil, arg_fz, arg_plc, argT_ol, argT_bl, argT_olf, calR_ok, calR_ex, calI_t, calI_f, calO_some, io_plc, ioO_ol, ioO_io, forC_some, endF_rt, endF_nx, endF_ex, io_f, io_t, sl_io, sl_f, sl_tl, sl_nil, o_len_t, o_len_l, o_tuple_t, o_tuple_l, o_list_t, o_list_l, o_int, o_neg, o_sum, o_any, o_all, o_max, o_isN, o_notN, o_add, o_sub, o_band, o_bor, o_lt, o_le, o_gt, o_ge, o_eq, o_ne, o_ixT, o_ixL, at_0, at_1, m_pop, m_pop0, en, decide_true, decide_false, Bool.false_eq_true, reduceIte, Bool.not_true, Bool.not_false, hlen, emax, eidx]
    rfl
end
end K73

set_option Elab.async false
set_option linter.all false
set_option autoImplicit false
set_option maxRecDepth 100000
set_option maxHeartbeats 2000000
namespace K73
open PySem Ev
/-! ### _law_refused -/
def N_ref : List Str := ["which", "asks", "error"]
def c_ref : Cfg := ⟨N_ref, FT, [3, 5], CN, []⟩
def ib_ref : S := (.cons (.ite (.p2 .eq (.var 0) (.lit (.int 0))) (.cons (.expr (.call 3 (.cons (.var 1) (.cons (.lit (.int 9)) .nil)))) .nil) (.cons (.expr (.call 5 (.cons (.var 1) (.cons (.lit (.int 9)) (.cons (.p2 .sub (.var 0) (.lit (.int 1))) .nil))))) .nil)) .nil)
def rf_ref : Rf := ⟨ib_ref, "ColumnError", "error", 2, "TooMany", "limit", .lit (.int 8)⟩
theorem rfOk_ref : rfB c_ref 60 (L2.defScope st__law_refused) (L2.defBody st__law_refused) = some rf_ref := by kernel_rfl
theorem sc_ref : L2.FnScope N_ref ["which", "asks"] (L2.defScope st__law_refused) := ⟨rfl, rfl, rfl, by decide +kernel, rfl, by decide +kernel, by decide +kernel⟩
def sb0 (q : Nat) : Bool := decide (q = 0)
section
variable (Φ : Tab)
def X3 (Φ : Tab) : Prop := ∀ as : List Ask, Φ 3 [asksT as, .int 9] = .ex ⟨0, [("limit", .int 8)]⟩ []
def X5 (Φ : Tab) : Prop := ∀ (as : List Ask) (t : Int), Φ 5 [asksT as, .int 9, .int t] = .ex ⟨0, [("limit", .int 8)]⟩ []
theorem ref_ok (x3 : X3 Φ) (x5 : X5 Φ) (as : List Ask) (w : Int) : evRf sg Φ mk FU sb0 0 (sg 14) 3 rf_ref [.int w, asksT as] = .ok (.fz (.bl true)) [] := by
  unfold evRf
  rw [show sg 14 = ⟨2, false, [false, false]⟩ from rfl]
  have s3 : sg 3 = ⟨2, false, [false, false]⟩ := rfl
  have s5 : sg 5 = ⟨3, false, [false, false, false]⟩ := rfl
  have eb : evS sg Φ mk FU ib_ref [.fz (.int w), .fz (asksT as), .no] = .ex ⟨0, [("limit", .int 8)]⟩ [.fz (.int w), .fz (asksT as), .no] := by
    unfold ib_ref
    by_cases h : w = 0
    · simp only [List.getElem?_cons_zero, List.getElem?_cons_succ, List.set_cons_zero, List.set_cons_succ, List.getD_cons_zero, List.getD_cons_succ, ob_some, om_some, b_ok, b_ex, st_ok, st_ex, sq_nx, sq_rt, sq_bk, sq_ct, sq_ex, tu_nx, tu_rt, tu_bk, tu_ct, tu_ex, varR_fz, varR_ol, varR_bl, varR_io, v_var, v_lit, v_tup, v_lst, tupK_0, tupK_1, tupK_2, tupK_3, lstK_0, lstK_1, lstK_2, lstK_3, v_p1, p1K_eq, v_p2, p2K_eq, v_and, v_or, v_not, v_ite, v_call, v_mth, mth0_some, mthK_eq, mthO_some, own_eq, ownO_ol, ownO_io, mkOwn_t, mkOwn_f, v_sl, compK_eq, compT_some, v_comp, compC_none, wipe_nil, wipe_cons, rest_nil, rest_cons, fin_ok, con_fz, con_ol, con_plc, slCon_some, scon_fz, scon_ol, scon_bl, scon_io, set_fz, set_plc, set_ol, lift_some, bool_bl, opt_int, opt_non, toV_fz, toV_ol, toV_plc, toVO_ol, V_nil, V_cons, A_nil, A_cons, I_it1, itK_tup, itK_lst, itK_ol, itK_plc, itS_ol, itS_bl, I_rng1, I_rng2, I_rng3, S_nil, S_cons, S_expr, nxK_eq, S_asg, S_asgT, asgO_some, S_aug, augO_int, augK_add, S_setix, setK_eq, setO_some, setAt_eq, setA_0, S_ite, S_for, forO_some, lock_none, lock_ol, lock_bl, S_ret, S_ret0, S_brk, S_cont, S_pass, S_raise, raiK_some, setS_eq, setSO_no, setSO_fz, setSO_ol, setSO_bl, asgR_fz, asgR_ol, asgR_plc, asgP_ol, asgP_bl, retR_fz, retR_ol, retR_plc, retP_ol, asg_v, asg1_eq, asg1O_no, asg1O_fz, asg1O_ol, asg_tp, ag_nil, ag_cons, arg_nil, arg_fz, arg_plc, argT_ol, argT_bl, argT_olf, calR_ok, calR_ex, calI_t, calI_f, calO_some, io_plc, ioO_ol, ioO_io, forC_some, endF_rt, endF_nx, endF_ex, io_f, io_t, sl_io, sl_f, sl_tl, sl_nil, o_len_t, o_len_l, o_tuple_t, o_tuple_l, o_list_t, o_list_l, o_int, o_neg, o_sum, o_any, o_all, o_max, o_isN, o_notN, o_add, o_sub, o_band, o_bor, o_lt, o_le, o_gt, o_ge, o_eq, o_ne, o_ixT, o_ixL, at_0, at_1, m_pop, m_pop0, h, decide_true, decide_false, Bool.false_eq_true, reduceIte, Bool.not_true, Bool.not_false, call_plain s3, x3 as]
    · simp only [List.getElem?_cons_zero, List.getElem?_cons_succ, List.set_cons_zero, List.set_cons_succ, List.getD_cons_zero, List.getD_cons_succ, ob_some, om_some, b_ok, b_ex, st_ok, st_ex, sq_nx, sq_rt, sq_bk, sq_ct, sq_ex, tu_nx, tu_rt, tu_bk, tu_ct, tu_ex, varR_fz, varR_ol, varR_bl, varR_io, v_var, v_lit, v_tup, v_lst, tupK_0, tupK_1, tupK_2, tupK_3, lstK_0, lstK_1, lstK_2, lstK_3, v_p1, p1K_eq, v_p2, p2K_eq, v_and, v_or, v_not, v_ite, v_call, v_mth, mth0_some, mthK_eq, mthO_some, own_eq, ownO_ol, ownO_io, mkOwn_t, mkOwn_f, v_sl, compK_eq, compT_some, v_comp, compC_none, wipe_nil, wipe_cons, rest_nil, rest_cons, fin_ok, con_fz, con_ol, con_plc, slCon_some, scon_fz, scon_ol, scon_bl, scon_io, set_fz, set_plc, set_ol, lift_some, bool_bl, opt_int, opt_non, toV_fz, toV_ol, toV_plc, toVO_ol, V_nil, V_cons, A_nil, A_cons, I_it1, itK_tup, itK_lst, itK_ol, itK_plc, itS_ol, itS_bl, I_rng1, I_rng2, I_rng3, S_nil, S_cons, S_expr, nxK_eq, S_asg, S_asgT, asgO_some, S_aug, augO_int, augK_add, S_setix, setK_eq, setO_some, setAt_eq, setA_0, S_ite, S_for, forO_some, lock_none, lock_ol, lock_bl, S_ret, S_ret0, S_brk, S_cont, S_pass, S_raise, raiK_some, setS_eq, setSO_no, setSO_fz, setSO_ol, setSO_bl, asgR_fz, asgR_ol, asgR_plc, asgP_ol, asgP_bl, retR_fz, retR_ol, retR_plc, retP_ol, asg_v, asg1_eq, asg1O_no, asg1O_fz, asg1O_ol, asg_tp, ag_nil, ag_cons, arg_nil, arg_fz, arg_plc, argT_ol, argT_bl, argT_olf, calR_ok, calR_ex, calI_t, calI_f, calO_some, io_plc, ioO_ol, ioO_io, forC_some, endF_rt, endF_nx, endF_ex, io_f, io_t, sl_io, sl_f, sl_tl, sl_nil, o_len_t, o_len_l, o_tuple_t, o_tuple_l, o_list_t, o_list_l, o_int, o_neg, o_sum, o_any, o_all, o_max, o_isN, o_notN, o_add, o_sub, o_band, o_bor, o_lt, o_le, o_gt, o_ge, o_eq, o_ne, o_ixT, o_ixL, at_0, at_1, m_pop, m_pop0, h, decide_true, decide_false, Bool.false_eq_true, reduceIte, Bool.not_true, Bool.not_false, call_plain s5, x5 as]
  show (match evS sg Φ mk FU ib_ref [.fz (.int w), .fz (asksT as), .no] with
    | .nx en => _
    | .ex x en => _
    | _ => _) = _
  rw [eb]
  rfl
end
end K73

set_option Elab.async false
set_option linter.all false
set_option autoImplicit false
set_option maxRecDepth 100000
set_option maxHeartbeats 4000000
namespace K73
open PySem Ev
section
variable (Φ : Tab)
theorem wide_loop (h10 : H10 Φ) (x0 x2 x3 x5 x6 x7 x8 x9 x10 x11 x12 x13 x14 : Sl) : ∀ (ks : List Nat) (ns : List Int) (as : List Ask) (z : Sl), ns.length < 1000 → as.length + ks.length < 1000 → z.isIo = false →
    ∃ (ns' : List Int) (as' : List Ask) (z' : Sl), ns'.length < 1000 ∧ compL (compK sg Φ (.tup (.cons (.call 10 (.cons (.var 1) (.cons (.lit (.int 9)) (.cons (.lit (.int 2)) .nil)))) (.cons (.tup (.cons (.var 4) .nil)) .nil))) (.v 4) (.lit (.bl true))) none [4] (nl ks) (as.map askT) [x0, .ol (il ns), x2, x3, z, x5, x6, x7, x8, x9, x10, x11, x12, x13, x14]
      = .ok (as'.map askT) [x0, .ol (il ns'), x2, x3, z', x5, x6, x7, x8, x9, x10, x11, x12, x13, x14]
  | [], ns, as, z, hn, _, hz => ⟨ns, as, z, hn, by rw [show nl [] = [] from rfl, comp_nil]⟩
  | k :: r, ns, as, z, hn, hl, hz => by
    obtain ⟨vs, ns2, p1, p2, p3⟩ := h10 ns 9 2 (by omega) (by omega) (by omega) (by omega)
    have s10 : sg 10 = ⟨3, true, [false, false]⟩ := rfl
    have b1 : (as.map askT).length < sizeLine := by rw [List.length_map, sizeLine_eq]; simp at hl; omega
    obtain ⟨ns', as', z', r1, e⟩ := wide_loop h10 x0 x2 x3 x5 x6 x7 x8 x9 x10 x11 x12 x13 x14 r ns2 (as ++ [(vs, (k : Int))]) (.fz (.int (k : Int))) (by omega) (by simp at hl ⊢; omega) rfl
    refine ⟨ns', as', z', r1, ?_⟩
    have ea : (as ++ [(vs, (k : Int))]).map askT = as.map askT ++ [.tup [.tup (il vs), .tup [.int (k : Int)]]] := by rw [List.map_append]; rfl
    have p1' : Φ 10 [.lst (il ns), .int 9, .int 2] = .ok (.fz (.tup (il vs))) (il ns2) := p1
    rw [ea] at e
    rw [show nl (k :: r) = .int (k : Int) :: nl r from rfl, comp_cons]
    simp only [List.getElem?_cons_zero, List.getElem?_cons_succ, List.set_cons_zero, List.set_cons_succ, List.getD_cons_zero, List.getD_cons_succ, ob_some, om_some, b_ok, b_ex, st_ok, st_ex, sq_nx, sq_rt, sq_bk, sq_ct, sq_ex, tu_nx, tu_rt, tu_bk, tu_ct, tu_ex, varR_fz, varR_ol, varR_bl, varR_io, v_var, v_lit, v_tup, v_lst, tupK_0, tupK_1, tupK_2, tupK_3, lstK_0, lstK_1, lstK_2, lstK_3, v_p1, p1K_eq, v_p2, p2K_eq, v_and, v_or, v_not, v_ite, v_call, v_mth, mth0_some, mthK_eq, mthO_some, own_eq, ownO_ol, ownO_io, mkOwn_t, mkOwn_f, v_sl, compK_eq, compT_some, v_comp, compC_none, wipe_nil, wipe_cons, rest_nil, rest_cons, fin_ok, con_fz, con_ol, con_plc, slCon_some, scon_fz, scon_ol, scon_bl, scon_io, set_fz, set_plc, set_ol, lift_some, bool_bl, opt_int, opt_non, toV_fz, toV_ol, toV_plc, toVO_ol, V_nil, V_cons, A_nil, A_cons, I_it1, itK_tup, itK_lst, itK_ol, itK_plc, itS_ol, itS_bl, I_rng1, I_rng2, I_rng3, S_nil, S_cons, S_expr, nxK_eq, S_asg, S_asgT, asgO_some, S_aug, augO_int, augK_add, S_setix, setK_eq, setO_some, setAt_eq, setA_0, S_ite, S_for, forO_some, lock_none, lock_ol, lock_bl, S_ret, S_ret0, S_brk, S_cont, S_pass, S_raise, raiK_some, setS_eq, setSO_no, setSO_fz, setSO_ol, setSO_bl, asgR_fz, asgR_ol, asgR_plc, asgP_ol, asgP_bl, retR_fz, retR_ol, retR_plc, retP_ol, asg_v, asg1_eq, asg1O_no, asg1O_fz, asg1O_ol, asg_tp, ag_nil, ag_cons, arg_nil, arg_fz, arg_plc, argT_ol, argT_bl, argT_olf, calR_ok, calR_ex, calI_t, calI_f, calO_some, io_plc, ioO_ol, ioO_io, forC_some, endF_rt, endF_nx, endF_ex, io_f, io_t, sl_io, sl_f, sl_tl, sl_nil, o_len_t, o_len_l, o_tuple_t, o_tuple_l, o_list_t, o_list_l, o_int, o_neg, o_sum, o_any, o_all, o_max, o_isN, o_notN, o_add, o_sub, o_band, o_bor, o_lt, o_le, o_gt, o_ge, o_eq, o_ne, o_ixT, o_ixL, at_0, at_1, m_pop, m_pop0, decide_true, decide_false, Bool.false_eq_true, reduceIte, Bool.not_true, Bool.not_false, call_io s10, p1', compC_some b1]
    rw [e]
def H8 (Φ : Tab) : Prop := ∀ sc : List Int, sc.length ≤ 63 → ∃ ns, Φ 8 [.lst (il sc)] = .ok (.ol (il ns)) [] ∧ ns.length ≤ 127
def H3 (Φ : Tab) : Prop := ∀ (as : List Ask) (M : Nat), as.length ≤ 7 → M ≤ 6 → Wf as M → Φ 3 [asksT as, .int (M : Int)] = .ok (.fz (oT (fw (pa as (everyL M)) as.length))) []
def H5 (Φ : Tab) : Prop := ∀ (as : List Ask) (M t : Nat), as.length ≤ 7 → M ≤ 6 → Wf as M → t < M → Φ 5 [asksT as, .int (M : Int), .int (t : Int)] = .ok (.fz (oT (fw (pa as (fromL M t)) as.length))) []
def H6 (Φ : Tab) : Prop := ∀ (as : List Ask) (M : Nat), as.length ≤ 7 → M ≤ 6 → Wf as M → Φ 6 [asksT as, .int (M : Int)] = .ok (.fz (hT (hardL (fun t => fw (pa as (fromL M t)) as.length) (List.range M) none))) []
def H13 (Φ : Tab) : Prop := ∀ (as : List Ask) (M : Nat), as.length ≤ 7 → Wf as M → ∀ ps : List (Nat × Nat), (∀ p ∈ ps, p.1 < M ∧ p.2 < M) → Φ 13 [asksT as, .lst (ps.map pT)] = .ok (.fz (oT (fw (pa as ps) as.length))) []
def H14 (Φ : Tab) : Prop := ∀ (as : List Ask) (w : Int), Φ 14 [.int w, asksT as] = .ok (.fz (.bl true)) []
theorem law_ev (h3 : H3 Φ) (h5 : H5 Φ) (h6 : H6 Φ) (h8 : H8 Φ) (h9 : H9 Φ) (h10 : H10 Φ) (h13 : H13 Φ) (h14 : H14 Φ) (sc : List Int) (hsc : sc.length ≤ 63) :
    evD sg Φ mk FU (sg 15) ⟨15, ir_law⟩ [.lst (il sc)] = .ok (.fz (.bl true)) [] := by
  rw [evD_eq, show sg 15 = ⟨1, false, [true]⟩ from rfl]
  have e0 : ir_law = (.cons (.asg (.v 1) (.call 8 (.cons (.var 0) .nil))) (.cons (.asg (.v 2) (.p2 .add (.lit (.int 1)) (.call 9 (.cons (.var 1) (.cons (.lit (.int 6)) .nil))))) (.cons (.asg (.v 3) (.lst .nil)) (.cons (.for (.v 4) (.rng1 (.call 9 (.cons (.var 1) (.cons (.lit (.int 8)) .nil)))) askB)
    (.cons (.asg (.v 3) (.p1 .tuple (.var 3))) (.cons (.asg (.v 5) (.lst .nil)) (.cons (.for (.v 6) (.rng1 (.var 2)) evyB) (.cons (.ite (.p2 .ne (.call 3 (.cons (.var 3) (.cons (.var 2) .nil))) (.call 13 (.cons (.var 3) (.cons (.var 5) .nil)))) (.cons (.ret (.lit (.bl false))) .nil) .nil) (.cons (.asg (.v 8) (.lst .nil))
    (.cons (.for (.v 9) (.rng1 (.var 2)) lesB) (.cons (.asg (.v 10) (.lit .non)) (.cons dueB (.cons (.ite (.p2 .ne (.call 6 (.cons (.var 3) (.cons (.var 2) .nil))) (.var 10)) (.cons (.ret (.lit (.bl false))) .nil) .nil)
    (.cons (.asg (.v 14) (.p1 .tuple (.comp (.tup (.cons (.call 10 (.cons (.var 1) (.cons (.lit (.int 9)) (.cons (.lit (.int 2)) .nil)))) (.cons (.tup (.cons (.var 4) .nil)) .nil))) (.v 4) (.rng1 (.lit (.int 2))) (.lit (.bl true)) [4]))) (.cons (.ret (.call 14 (.cons (.call 9 (.cons (.var 1) (.cons (.lit (.int 10)) .nil))) (.cons (.var 14) .nil)))) .nil))))))))))))))) := rfl
  rw [e0]
  have s3 : sg 3 = ⟨2, false, [false, false]⟩ := rfl
  have s6 : sg 6 = ⟨2, false, [false, false]⟩ := rfl
  have s8 : sg 8 = ⟨1, false, [true]⟩ := rfl
  have s9 : sg 9 = ⟨2, true, [false]⟩ := rfl
  have s13 : sg 13 = ⟨2, false, [false, true]⟩ := rfl
  have s14 : sg 14 = ⟨2, false, [false, false]⟩ := rfl
  obtain ⟨ns, q8, l8⟩ := h8 sc hsc
  obtain ⟨t1, ns1, q1, a1, b1, l1⟩ := h9 ns 6 (by omega) (by omega) (by omega)
  obtain ⟨M, hMe⟩ : ∃ M : Nat, 1 + t1 = (M : Int) := ⟨(1 + t1).toNat, by omega⟩
  obtain ⟨t2, ns2, q2, a2, b2, l2⟩ := h9 ns1 8 (by omega) (by omega) (by omega)
  obtain ⟨N, hNe⟩ : ∃ N : Nat, t2 = (N : Int) := ⟨t2.toNat, by omega⟩
  subst hNe
  have ib1 : inBig (N : Int) = true := by unfold inBig; exact decide_eq_true (by omega)
  have ib2 : inBig (M : Int) = true := by unfold inBig; exact decide_eq_true (by omega)
  obtain ⟨ns3, as, z4, l3, hlen, w, hz4, e4⟩ := ask_loop Φ h9 h10 (il sc) M (by omega) .no .no .no .no .no .no .no .no .no .no (List.range N) ns2 [] .no (by omega) (by simp; omega) (fun a ha => by cases ha) rfl
  have hA : as.length ≤ 7 := by rw [hlen]; simp; omega
  rw [← rangeI_nl0, show ([] : List Ask).map askT = [] from rfl] at e4
  simp only [sl_io, sl_f, sl_tl, sl_nil, List.length_cons, List.length_nil, List.replicate, List.cons_append, List.nil_append]
  simp only [List.getElem?_cons_zero, List.getElem?_cons_succ, List.set_cons_zero, List.set_cons_succ, List.getD_cons_zero, List.getD_cons_succ, ob_some, om_some, b_ok, b_ex, st_ok, st_ex, sq_nx, sq_rt, sq_bk, sq_ct, sq_ex, tu_nx, tu_rt, tu_bk, tu_ct, tu_ex, varR_fz, varR_ol, varR_bl, varR_io, v_var, v_lit, v_tup, v_lst, tupK_0, tupK_1, tupK_2, tupK_3, lstK_0, lstK_1, lstK_2, lstK_3, v_p1, p1K_eq, v_p2, p2K_eq, v_and, v_or, v_not, v_ite, v_call, v_mth, mth0_some, mthK_eq, mthO_some, own_eq, ownO_ol, ownO_io, mkOwn_t, mkOwn_f, v_sl, compK_eq, compT_some, v_comp, compC_none, wipe_nil, wipe_cons, rest_nil, rest_cons, fin_ok, con_fz, con_ol, con_plc, slCon_some, scon_fz, scon_ol, scon_bl, scon_io, set_fz, set_plc, set_ol, lift_some, bool_bl, opt_int, opt_non, toV_fz, toV_ol, toV_plc, toVO_ol, V_nil, V_cons, A_nil, A_cons, I_it1, itK_tup, itK_lst, itK_ol, itK_plc, itS_ol, itS_bl, I_rng1, I_rng2, I_rng3, S_nil, S_cons, S_expr, nxK_eq, S_asg, S_asgT, asgO_some, S_aug, augO_int, augK_add, S_setix, setK_eq, setO_some, setAt_eq, setA_0, S_ite, S_for, forO_some, lock_none, lock_ol, lock_bl, S_ret, S_ret0, S_brk, S_cont, S_pass, S_raise, raiK_some, setS_eq, setSO_no, setSO_fz, setSO_ol, setSO_bl, asgR_fz, asgR_ol, asgR_plc, asgP_ol, asgP_bl, retR_fz, retR_ol, retR_plc, retP_ol, asg_v, asg1_eq, asg1O_no, asg1O_fz, asg1O_ol, asg_tp, ag_nil, ag_cons, arg_nil, arg_fz, arg_plc, argT_ol, argT_bl, argT_olf, calR_ok, calR_ex, calI_t, calI_f, calO_some, io_plc, ioO_ol, ioO_io, forC_some, endF_rt, endF_nx, endF_ex, io_f, io_t, sl_io, sl_f, sl_tl, sl_nil, o_len_t, o_len_l, o_tuple_t, o_tuple_l, o_list_t, o_list_l, o_int, o_neg, o_sum, o_any, o_all, o_max, o_isN, o_notN, o_add, o_sub, o_band, o_bor, o_lt, o_le, o_gt, o_ge, o_eq, o_ne, o_ixT, o_ixL, at_0, at_1, m_pop, m_pop0, call_plain s8, q8, call_io s9, q1, hMe, q2, rg1_ok ib1, Int.toNat_natCast, e4]
  obtain ⟨z6, hz6, e6⟩ := evy_loop Φ (.bl (il sc)) (.ol (il ns3)) (.fz (.int (M : Int))) (.fz (asksT as)) z4 .no .no .no .no .no .no .no (List.range M) [] .no (fun s hs => by have := List.mem_range.mp hs; omega) (by simp; omega) rfl
  rw [← rangeI_nl0, show ([] : List (Nat × Nat)).map pT = [] from rfl, List.nil_append] at e6
  have ee : ((List.range M).flatMap fun s => (List.range s).map fun f => (f, s)) = everyL M := rfl
  rw [ee] at e6
  have eas : T.tup (as.map askT) = asksT as := rfl
  have en3 : ap2 .ne (oT (fw (pa as (everyL M)) as.length)) (oT (fw (pa as (everyL M)) as.length)) = some (.fz (.bl false)) := by
    rw [o_neT (show eqOk _ _ from ⟨sh_oT _, sh_oT _⟩), eqv_oT]; rfl
  have q3 := h3 as M hA (by omega) w
  have q13 := h13 as M hA w (everyL M) (fun p hp => by have := mem_everyL.mp hp; omega)
  simp only [eas, List.getElem?_cons_zero, List.getElem?_cons_succ, List.set_cons_zero, List.set_cons_succ, List.getD_cons_zero, List.getD_cons_succ, ob_some, om_some, b_ok, b_ex, st_ok, st_ex, sq_nx, sq_rt, sq_bk, sq_ct, sq_ex, tu_nx, tu_rt, tu_bk, tu_ct, tu_ex, varR_fz, varR_ol, varR_bl, varR_io, v_var, v_lit, v_tup, v_lst, tupK_0, tupK_1, tupK_2, tupK_3, lstK_0, lstK_1, lstK_2, lstK_3, v_p1, p1K_eq, v_p2, p2K_eq, v_and, v_or, v_not, v_ite, v_call, v_mth, mth0_some, mthK_eq, mthO_some, own_eq, ownO_ol, ownO_io, mkOwn_t, mkOwn_f, v_sl, compK_eq, compT_some, v_comp, compC_none, wipe_nil, wipe_cons, rest_nil, rest_cons, fin_ok, con_fz, con_ol, con_plc, slCon_some, scon_fz, scon_ol, scon_bl, scon_io, set_fz, set_plc, set_ol, lift_some, bool_bl, opt_int, opt_non, toV_fz, toV_ol, toV_plc, toVO_ol, V_nil, V_cons, A_nil, A_cons, I_it1, itK_tup, itK_lst, itK_ol, itK_plc, itS_ol, itS_bl, I_rng1, I_rng2, I_rng3, S_nil, S_cons, S_expr, nxK_eq, S_asg, S_asgT, asgO_some, S_aug, augO_int, augK_add, S_setix, setK_eq, setO_some, setAt_eq, setA_0, S_ite, S_for, forO_some, lock_none, lock_ol, lock_bl, S_ret, S_ret0, S_brk, S_cont, S_pass, S_raise, raiK_some, setS_eq, setSO_no, setSO_fz, setSO_ol, setSO_bl, asgR_fz, asgR_ol, asgR_plc, asgP_ol, asgP_bl, retR_fz, retR_ol, retR_plc, retP_ol, asg_v, asg1_eq, asg1O_no, asg1O_fz, asg1O_ol, asg_tp, ag_nil, ag_cons, arg_nil, arg_fz, arg_plc, argT_ol, argT_bl, argT_olf, calR_ok, calR_ex, calI_t, calI_f, calO_some, io_plc, ioO_ol, ioO_io, forC_some, endF_rt, endF_nx, endF_ex, io_f, io_t, sl_io, sl_f, sl_tl, sl_nil, o_len_t, o_len_l, o_tuple_t, o_tuple_l, o_list_t, o_list_l, o_int, o_neg, o_sum, o_any, o_all, o_max, o_isN, o_notN, o_add, o_sub, o_band, o_bor, o_lt, o_le, o_gt, o_ge, o_eq, o_ne, o_ixT, o_ixL, at_0, at_1, m_pop, m_pop0, rg1_ok ib2, Int.toNat_natCast, e6, call_plain s3, q3, call_plain s13, q13, en3, decide_true, decide_false, Bool.false_eq_true, reduceIte, Bool.not_true, Bool.not_false]
  obtain ⟨z9, z10, hz10, e9⟩ := les_loop Φ as M (by omega) (fun t => fw (pa as (fromL M t)) as.length) (fun t ht => h5 as M t hA (by omega) w ht) (fun t ht => h13 as M hA w (fromL M t) (fun p hp => by
    unfold fromL at hp
    simp only [List.mem_map, List.mem_filter, List.mem_range] at hp
    obtain ⟨o, ⟨ho, _⟩, rfl⟩ := hp
    exact ⟨ht, ho⟩)) (.bl (il sc)) (.ol (il ns3)) z4 (.ol ((everyL M).map pT)) z6 .no .no .no .no (List.range M) [] .no .no (fun t ht => List.mem_range.mp ht) (by simp; omega) rfl rfl
  rw [← rangeI_nl0, show ([] : List (Option (List Nat))).map oT = [] from rfl, List.nil_append] at e9
  have hset : setS 10 (.fz .non) [.bl (il sc), .ol (il ns3), .fz (.int (M : Int)), .fz (asksT as), z4, .ol ((everyL M).map pT), z6, .no, .ol (((List.range M).map fun t => fw (pa as (fromL M t)) as.length).map oT), z9, z10, .no, .no, .no, .no]
      = .nx [.bl (il sc), .ol (il ns3), .fz (.int (M : Int)), .fz (asksT as), z4, .ol ((everyL M).map pT), z6, .no, .ol (((List.range M).map fun t => fw (pa as (fromL M t)) as.length).map oT), z9, .fz .non, .no, .no, .no, .no] := by
    cases z10 <;> first | rfl | (cases hz10; done)
  obtain ⟨z12, e12⟩ := due_ok Φ M (by omega) (by omega) (fun t => fw (pa as (fromL M t)) as.length) (.bl (il sc)) (.ol (il ns3)) (.fz (.int (M : Int))) (.fz (asksT as)) z4 (.ol ((everyL M).map pT)) z6 .no z9 .no
  have q6 := h6 as M hA (by omega) w
  have en6 : ap2 .ne (hT (hardL (fun t => fw (pa as (fromL M t)) as.length) (List.range M) none)) (hT (hardL (fun t => fw (pa as (fromL M t)) as.length) (List.range M) none)) = some (.fz (.bl false)) := by
    rw [o_neT (show eqOk _ _ from ⟨sh_hT _, sh_hT _⟩), eqv_hT]; rfl
  rw [e9]
  simp only [sq_nx, S_cons, S_asg, v_lit, st_ok, asgR_fz, hset, e12]
  have z4io : z4.isIo = false := by rcases hz4 with rfl | ⟨t, rfl⟩ <;> rfl
  obtain ⟨ns4, wa, z4', l4, ew⟩ := wide_loop Φ h10 (.bl (il sc)) (.fz (.int (M : Int))) (.fz (asksT as)) (.ol ((everyL M).map pT)) z6 .no (.ol (((List.range M).map fun t => fw (pa as (fromL M t)) as.length).map oT)) z9 (.fz (hT (hardL (fun t => fw (pa as (fromL M t)) as.length) (List.range M) none))) .no z12 .no .no (List.range 2) ns3 [] z4 l3 (by simp) z4io
  rw [← rangeI_nl0, show ([] : List Ask).map askT = [] from rfl] at ew
  have hh : [4].all (hidable [.bl (il sc), .ol (il ns3), .fz (.int (M : Int)), .fz (asksT as), z4, .ol ((everyL M).map pT), z6, .no, .ol (((List.range M).map fun t => fw (pa as (fromL M t)) as.length).map oT), z9, .fz (hT (hardL (fun t => fw (pa as (fromL M t)) as.length) (List.range M) none)), .no, z12, .no, .no]) = true := by
    rcases hz4 with rfl | ⟨t, rfl⟩ <;> rfl
  simp only [S_ite, v_p2, v_call, A_cons, v_var, List.getElem?_cons_zero, List.getElem?_cons_succ, varR_fz, b_ok, A_nil, set_fz, call_plain s6, arg_fz, arg_nil, q6, calR_ok, p2K_eq, con_fz, ob_some, en6, lift_some, st_ok, bool_bl, decide_true, decide_false, Bool.false_eq_true, reduceIte, Bool.not_true, Bool.not_false, S_nil, sq_nx, S_cons, S_asg, v_p1, v_comp, I_rng1, v_lit, rg1_ok (show inBig 2 = true by decide), show (2 : Int).toNat = 2 from rfl]
  rw [compE_eq hh]
  obtain ⟨t5, ns5, q5, _, _, _⟩ := h9 ns4 10 (by omega) (by omega) (by omega)
  have ewT : T.tup (wa.map askT) = asksT wa := rfl
  simp only [List.getElem?_cons_zero, List.getElem?_cons_succ, List.set_cons_zero, List.set_cons_succ, List.getD_cons_zero, List.getD_cons_succ, ob_some, om_some, b_ok, b_ex, st_ok, st_ex, sq_nx, sq_rt, sq_bk, sq_ct, sq_ex, tu_nx, tu_rt, tu_bk, tu_ct, tu_ex, varR_fz, varR_ol, varR_bl, varR_io, v_var, v_lit, v_tup, v_lst, tupK_0, tupK_1, tupK_2, tupK_3, lstK_0, lstK_1, lstK_2, lstK_3, v_p1, p1K_eq, v_p2, p2K_eq, v_and, v_or, v_not, v_ite, v_call, v_mth, mth0_some, mthK_eq, mthO_some, own_eq, ownO_ol, ownO_io, mkOwn_t, mkOwn_f, v_sl, compK_eq, compT_some, v_comp, compC_none, wipe_nil, wipe_cons, rest_nil, rest_cons, fin_ok, con_fz, con_ol, con_plc, slCon_some, scon_fz, scon_ol, scon_bl, scon_io, set_fz, set_plc, set_ol, lift_some, bool_bl, opt_int, opt_non, toV_fz, toV_ol, toV_plc, toVO_ol, V_nil, V_cons, A_nil, A_cons, I_it1, itK_tup, itK_lst, itK_ol, itK_plc, itS_ol, itS_bl, I_rng1, I_rng2, I_rng3, S_nil, S_cons, S_expr, nxK_eq, S_asg, S_asgT, asgO_some, S_aug, augO_int, augK_add, S_setix, setK_eq, setO_some, setAt_eq, setA_0, S_ite, S_for, forO_some, lock_none, lock_ol, lock_bl, S_ret, S_ret0, S_brk, S_cont, S_pass, S_raise, raiK_some, setS_eq, setSO_no, setSO_fz, setSO_ol, setSO_bl, asgR_fz, asgR_ol, asgR_plc, asgP_ol, asgP_bl, retR_fz, retR_ol, retR_plc, retP_ol, asg_v, asg1_eq, asg1O_no, asg1O_fz, asg1O_ol, asg_tp, ag_nil, ag_cons, arg_nil, arg_fz, arg_plc, argT_ol, argT_bl, argT_olf, calR_ok, calR_ex, calI_t, calI_f, calO_some, io_plc, ioO_ol, ioO_io, forC_some, endF_rt, endF_nx, endF_ex, io_f, io_t, sl_io, sl_f, sl_tl, sl_nil, o_len_t, o_len_l, o_tuple_t, o_tuple_l, o_list_t, o_list_l, o_int, o_neg, o_sum, o_any, o_all, o_max, o_isN, o_notN, o_add, o_sub, o_band, o_bor, o_lt, o_le, o_gt, o_ge, o_eq, o_ne, o_ixT, o_ixL, at_0, at_1, m_pop, m_pop0, ew, ewT, call_io s9, q5, call_plain s14, h14 wa t5]
end
end K73

set_option Elab.async false
set_option linter.all false
set_option autoImplicit false
set_option maxRecDepth 100000
set_option maxHeartbeats 2000000
namespace K73
open PySem Ev
/-! ### the chain of functions -/
def noT : Tab := fun _ _ => .bad
def P0 : List T → FR := evD sg noT mk FU (sg 0) ⟨5, ir_parted_pairs⟩
def P1 : List T → FR := evD sg noT mk FU (sg 1) ⟨4, ir_undominated⟩
def P2 : List T → FR := evD sg noT mk FU (sg 2) ⟨9, ir_first_cover⟩
def P4 : List T → FR := evD sg noT mk FU (sg 4) ⟨3, ir_parted_from⟩
def P7 : List T → FR := evD sg noT mk FU (sg 7) ⟨5, ir__law_mixed⟩
def P9 : List T → FR := evD sg noT mk FU (sg 9) ⟨3, ir__law_take⟩
def P11 : List T → FR := evD sg noT mk FU (sg 11) ⟨8, ir__law_sets⟩
def P12 : List T → FR := evD sg noT mk FU (sg 12) ⟨6, ir__law_parts_all⟩
def TA : Tab := fun j ts => match j with
  | 0 => P0 ts | 1 => P1 ts | 2 => P2 ts | 4 => P4 ts | 7 => P7 ts | 9 => P9 ts | 11 => P11 ts | 12 => P12 ts | _ => .bad
def P3 : List T → FR := evD sg TA mk FU (sg 3) ⟨11, ir_least_tests⟩
def P5 : List T → FR := evD sg TA mk FU (sg 5) ⟨12, ir_lesson⟩
def P8 : List T → FR := evD sg TA mk FU (sg 8) ⟨5, ir__law_purse⟩
def P10 : List T → FR := evD sg TA mk FU (sg 10) ⟨4, ir__law_row⟩
def P13 : List T → FR := evD sg TA mk FU (sg 13) ⟨4, ir__law_fewest⟩
def TB : Tab := fun j ts => match j with
  | 3 => P3 ts | 5 => P5 ts | 8 => P8 ts | 9 => P9 ts | 10 => P10 ts | 13 => P13 ts | _ => .bad
def P6 : List T → FR := evD sg TB mk FU (sg 6) ⟨5, ir_hardest⟩
def P14 : List T → FR := evRf sg TB mk FU sb0 0 (sg 14) 3 rf_ref
def TC : Tab := fun j ts => match j with
  | 3 => P3 ts | 5 => P5 ts | 6 => P6 ts | 8 => P8 ts | 9 => P9 ts | 10 => P10 ts | 13 => P13 ts | 14 => P14 ts | _ => .bad
def P15 : List T → FR := evD sg TC mk FU (sg 15) ⟨15, ir_law⟩
theorem TA_0 (ts : List T) : TA 0 ts = P0 ts := rfl
theorem TA_1 (ts : List T) : TA 1 ts = P1 ts := rfl
theorem TA_2 (ts : List T) : TA 2 ts = P2 ts := rfl
theorem TA_4 (ts : List T) : TA 4 ts = P4 ts := rfl
theorem TA_7 (ts : List T) : TA 7 ts = P7 ts := rfl
theorem TA_9 (ts : List T) : TA 9 ts = P9 ts := rfl
theorem TA_11 (ts : List T) : TA 11 ts = P11 ts := rfl
theorem TA_12 (ts : List T) : TA 12 ts = P12 ts := rfl
theorem TC_3 (ts : List T) : TC 3 ts = P3 ts := rfl
theorem TC_5 (ts : List T) : TC 5 ts = P5 ts := rfl
theorem TC_6 (ts : List T) : TC 6 ts = P6 ts := rfl
theorem TC_8 (ts : List T) : TC 8 ts = P8 ts := rfl
theorem TC_9 (ts : List T) : TC 9 ts = P9 ts := rfl
theorem TC_10 (ts : List T) : TC 10 ts = P10 ts := rfl
theorem TC_13 (ts : List T) : TC 13 ts = P13 ts := rfl
theorem TC_14 (ts : List T) : TC 14 ts = P14 ts := rfl
theorem TB_3 (ts : List T) : TB 3 ts = P3 ts := rfl
theorem TB_5 (ts : List T) : TB 5 ts = P5 ts := rfl
theorem a0 : H0 TA := by
  intro vs h
  rw [TA_0]; unfold P0
  exact pp_ok noT vs h
theorem a1 : H1 TA := by
  intro lots h
  rw [TA_1]; unfold P1
  exact und_ok noT lots h
theorem a2 : H2 TA := by
  intro lots kept h1 h2 full size h3
  rw [TA_2]; unfold P2
  exact cover_ok noT lots kept h1 h2 full size h3
theorem a4 : H4 TA := by
  intro vs h t ht
  rw [TA_4]; unfold P4
  exact pf_ok noT vs h t ht
theorem a7 (a b : Int) : ∃ v, TA 7 [.int a, .int b] = .ok (.fz (.int v)) [] := by
  rw [TA_7]; unfold P7
  exact mix_ok noT a b
theorem a9 : H9 TA := by
  intro ns m h1 h2 h3
  rw [TA_9]; unfold P9
  exact take_ok noT ns m h1 h2 h3
theorem a11 (A s : Nat) (h1 : A ≤ 7) (h2 : s ≤ 7) : ∃ r, TA 11 [.int (A : Int), .int (s : Int)] = .ok r [] ∧ (r = .ol ((rowsL A s).map tT) ∨ r = .fz (.lst ((rowsL A s).map tT))) := by
  rw [TA_11]; unfold P11
  exact sets_ok noT A s h1 h2
theorem a12 (as : List Ask) (M : Nat) (w : Wf as M) (ks : List Nat) (ps : List (Nat × Nat)) (h1 : ∀ k ∈ ks, k < as.length) (h2 : ks.length < 1000) (h3 : ∀ p ∈ ps, p.1 < M ∧ p.2 < M) : TA 12 [asksT as, tT ks, .lst (ps.map pT)] = .ok (.fz (.bl (pa as ps ks))) [] := by
  rw [TA_12]; unfold P12
  exact parts_ok noT as M w ks ps h1 h2 h3
theorem b3 : H3 TC := by
  intro as M hA hM w
  rw [TC_3]; unfold P3
  rw [ok_least TA a0 a1 a2 as hA M (by omega) (fun a ha => by rw [w a ha]; omega), least_law' w (by omega)]
theorem b5 : H5 TC := by
  intro as M t hA hM w ht
  rw [TC_5]; unfold P5
  rw [ok_lesson TA a4 a1 a2 as hA M (by omega) t ht (fun a ha => by rw [w a ha]; omega), lesson_law w (by omega) ht]
theorem b6 : H6 TC := by
  intro as M hA hM w
  rw [TC_6]; unfold P6
  refine hard_ok TB as M (by omega) _ fun t ht => ?_
  have h := b5 as M t hA hM w ht
  rw [TC_5] at h
  rw [TB_5]
  exact h
theorem b8 : H8 TC := by
  intro sc h
  rw [TC_8]; unfold P8
  exact purse_ok TA a7 sc h
theorem b9 : H9 TC := by
  intro ns m h1 h2 h3
  have h := a9 ns m h1 h2 h3
  rw [TA_9] at h
  rw [TC_9]
  exact h
theorem b10 : H10 TC := by
  intro ns L m h1 h2 h3 h4
  rw [TC_10]; unfold P10
  exact row_ok TA a9 ns L m h1 h2 h3 h4
theorem b13 : H13 TC := by
  intro as M hA w ps hp
  rw [TC_13]; unfold P13
  exact fewest_ok TA a12 a11 as hA M w ps hp
theorem x3 : X3 TB := by
  intro as
  rw [TB_3]; unfold P3
  exact ex_least TA as
theorem x5 : X5 TB := by
  intro as t
  rw [TB_5]; unfold P5
  exact ex_lesson TA as t
theorem b14 : H14 TC := by
  intro as w
  rw [TC_14]; unfold P14
  exact ref_ok TB x3 x5 as w
theorem b15 (sc : List Int) (h : sc.length ≤ 63) : P15 [.lst (il sc)] = .ok (.fz (.bl true)) [] := by
  unfold P15
  exact law_ev TC b3 b5 b6 b8 b9 b10 b13 b14 sc h
end K73

set_option Elab.async false
set_option linter.all false
set_option autoImplicit false
set_option maxRecDepth 100000
set_option maxHeartbeats 2000000
namespace K73
open PySem PySem.Spec PyProof.Rows Ev
section
variable {P : Program} {w : World} {K : PySem.W.Frag} {mg : Str → Option Value} {base h : Heap}
def CTo (K : PySem.W.Frag) : Nat → Addr := fun _ => He.ga K "TooMany"
theorem bn_ok (X : K.In h) (G : h.Ns mainGlobals mg) (c : SaysZ fa fn [x_TooMany] file K) : ∀ x ∈ BN, mg x = none := by
  intro x hx
  refine He.free_ok X G (SaysD.mem c.d ?_)
  unfold fa
  exact List.mem_append_left _ (List.mem_append_right _ (List.mem_map_of_mem hx))
theorem cn_ok (X : K.In h) (G : h.Ns mainGlobals mg) (c : SaysZ fa fn [x_TooMany] file K) : ∀ x t, CN.lookup x = some t → ∃ v u, mg x = some u ∧ L2.RelV v u ∧ ∀ G, VR K G v t := by
  intro x t e
  unfold CN at e
  by_cases hx : x = "MOST_THINGS"
  · subst hx
    have et : t = .int 8 := by simpa [List.lookup] using e.symm
    subst et
    obtain ⟨tk, hm⟩ := He.int_ok X G (c.d.fact 28 (f := .int "MOST_THINGS" 8) rfl)
    exact ⟨.int 8, _, hm, ⟨tk, rfl⟩, fun _ => .int 8⟩
  · have : (x == ("MOST_THINGS" : Str)) = false := by simpa using hx
    simp [List.lookup, this] at e
theorem mod0 (X : K.In h) (G : h.Ns mainGlobals mg) (c : SaysZ fa fn [x_TooMany] file K) (N : List Str) : ModM P w K mg base ⟨N, FT, [], CN, []⟩ (CTo K) sg noT mk 2 :=
  ⟨bn_ok X G c, cn_ok X G c, fun i x hi _ => absurd hi (by simp), fun i x hx => by simp at hx⟩
theorem f0 (X : K.In h) (G : h.Ns mainGlobals mg) (c : SaysZ fa fn [x_TooMany] file K) : FnM P w K mg base (CTo K) 3 (sg 0) P0 "parted_pairs" := by
  obtain ⟨fd, F⟩ := c.d.def_ 0 (d := d_parted_pairs) rfl
  exact FnM.of_def (c := c_parted_pairs) (Φ := noT) (mk := mk) (ps := ["values"]) F (He.glo_ok X G (c.d.fact 0 (f := .glo "parted_pairs") rfl)) sc_parted_pairs (mod0 X G c N_parted_pairs) rfl irOk_parted_pairs (fun ts _ => ⟨FU, by unfold P0; rfl⟩) (fun _ _ _ _ _ _ us hl => match us, hl with | [_], _ => rfl)
theorem f1 (X : K.In h) (G : h.Ns mainGlobals mg) (c : SaysZ fa fn [x_TooMany] file K) : FnM P w K mg base (CTo K) 3 (sg 1) P1 "undominated" := by
  obtain ⟨fd, F⟩ := c.d.def_ 1 (d := d_undominated) rfl
  exact FnM.of_def (c := c_undominated) (Φ := noT) (mk := mk) (ps := ["lots"]) F (He.glo_ok X G (c.d.fact 1 (f := .glo "undominated") rfl)) sc_undominated (mod0 X G c N_undominated) rfl irOk_undominated (fun ts _ => ⟨FU, by unfold P1; rfl⟩) (fun _ _ _ _ _ _ us hl => match us, hl with | [_], _ => rfl)
theorem f2 (X : K.In h) (G : h.Ns mainGlobals mg) (c : SaysZ fa fn [x_TooMany] file K) : FnM P w K mg base (CTo K) 3 (sg 2) P2 "first_cover" := by
  obtain ⟨fd, F⟩ := c.d.def_ 2 (d := d_first_cover) rfl
  exact FnM.of_def (c := c_first_cover) (Φ := noT) (mk := mk) (ps := ["lots", "kept", "full", "size"]) F (He.glo_ok X G (c.d.fact 2 (f := .glo "first_cover") rfl)) sc_first_cover (mod0 X G c N_first_cover) rfl irOk_first_cover (fun ts _ => ⟨FU, by unfold P2; rfl⟩) (fun _ _ _ _ _ _ us hl => match us, hl with | [_, _, _, _], _ => rfl)
theorem f4 (X : K.In h) (G : h.Ns mainGlobals mg) (c : SaysZ fa fn [x_TooMany] file K) : FnM P w K mg base (CTo K) 3 (sg 4) P4 "parted_from" := by
  obtain ⟨fd, F⟩ := c.d.def_ 4 (d := d_parted_from) rfl
  exact FnM.of_def (c := c_parted_from) (Φ := noT) (mk := mk) (ps := ["values", "thing"]) F (He.glo_ok X G (c.d.fact 4 (f := .glo "parted_from") rfl)) sc_parted_from (mod0 X G c N_parted_from) rfl irOk_parted_from (fun ts _ => ⟨FU, by unfold P4; rfl⟩) (fun _ _ _ _ _ _ us hl => match us, hl with | [_, _], _ => rfl)
theorem f7 (X : K.In h) (G : h.Ns mainGlobals mg) (c : SaysZ fa fn [x_TooMany] file K) : FnM P w K mg base (CTo K) 3 (sg 7) P7 "_law_mixed" := by
  obtain ⟨fd, F⟩ := c.d.def_ 7 (d := d__law_mixed) rfl
  exact FnM.of_def (c := c__law_mixed) (Φ := noT) (mk := mk) (ps := ["number", "place"]) F (He.glo_ok X G (c.d.fact 7 (f := .glo "_law_mixed") rfl)) sc__law_mixed (mod0 X G c N__law_mixed) rfl irOk__law_mixed (fun ts _ => ⟨FU, by unfold P7; rfl⟩) (fun _ _ _ _ _ _ us hl => match us, hl with | [_, _], _ => rfl)
theorem f9 (X : K.In h) (G : h.Ns mainGlobals mg) (c : SaysZ fa fn [x_TooMany] file K) : FnM P w K mg base (CTo K) 3 (sg 9) P9 "_law_take" := by
  obtain ⟨fd, F⟩ := c.d.def_ 9 (d := d__law_take) rfl
  exact FnM.of_def (c := c__law_take) (Φ := noT) (mk := mk) (ps := ["purse", "many"]) F (He.glo_ok X G (c.d.fact 9 (f := .glo "_law_take") rfl)) sc__law_take (mod0 X G c N__law_take) rfl irOk__law_take (fun ts _ => ⟨FU, by unfold P9; rfl⟩) (fun _ _ _ _ _ _ us hl => match us, hl with | [_, _], _ => rfl)
theorem f11 (X : K.In h) (G : h.Ns mainGlobals mg) (c : SaysZ fa fn [x_TooMany] file K) : FnM P w K mg base (CTo K) 3 (sg 11) P11 "_law_sets" := by
  obtain ⟨fd, F⟩ := c.d.def_ 11 (d := d__law_sets) rfl
  exact FnM.of_def (c := c__law_sets) (Φ := noT) (mk := mk) (ps := ["many", "size"]) F (He.glo_ok X G (c.d.fact 11 (f := .glo "_law_sets") rfl)) sc__law_sets (mod0 X G c N__law_sets) rfl irOk__law_sets (fun ts _ => ⟨FU, by unfold P11; rfl⟩) (fun _ _ _ _ _ _ us hl => match us, hl with | [_, _], _ => rfl)
theorem f12 (X : K.In h) (G : h.Ns mainGlobals mg) (c : SaysZ fa fn [x_TooMany] file K) : FnM P w K mg base (CTo K) 3 (sg 12) P12 "_law_parts_all" := by
  obtain ⟨fd, F⟩ := c.d.def_ 12 (d := d__law_parts_all) rfl
  exact FnM.of_def (c := c__law_parts_all) (Φ := noT) (mk := mk) (ps := ["asks", "numbers", "pairs"]) F (He.glo_ok X G (c.d.fact 12 (f := .glo "_law_parts_all") rfl)) sc__law_parts_all (mod0 X G c N__law_parts_all) rfl irOk__law_parts_all (fun ts _ => ⟨FU, by unfold P12; rfl⟩) (fun _ _ _ _ _ _ us hl => match us, hl with | [_, _, _], _ => rfl)
theorem mkT (X : K.In h) (G : h.Ns mainGlobals mg) (c : SaysZ fa fn [x_TooMany] file K) : MkM PySem.Challenge.pw_columnwright_k73_tests_and_lessons w K mg base (CTo K) 2 (mk 0) "TooMany" :=
  XD.mkM (d := x_TooMany) (cls := 0) X G x_TooMany_ok (c.fz _ (List.mem_singleton.mpr rfl)) (c.sup _ (List.mem_singleton.mpr rfl)) rfl (by decide +kernel) (fun _ _ _ _ _ _ _ _ us hl => match us, hl with | [_, _], _ => rfl)
theorem tabA (X : K.In h) (G : h.Ns mainGlobals mg) (c : SaysZ fa fn [x_TooMany] file K) : ∀ i x, i ∈ [0, 1, 2, 4, 7, 9, 11, 12] → FT[i]? = some x → FnM P w K mg base (CTo K) 3 (sg i) (TA i) x := by
  intro i x hi hx
  simp only [List.mem_cons, List.not_mem_nil, or_false] at hi
  rcases hi with rfl | rfl | rfl | rfl | rfl | rfl | rfl | rfl
  · cases hx; rw [show TA 0 = P0 from funext TA_0]; exact f0 X G c
  · cases hx; rw [show TA 1 = P1 from funext TA_1]; exact f1 X G c
  · cases hx; rw [show TA 2 = P2 from funext TA_2]; exact f2 X G c
  · cases hx; rw [show TA 4 = P4 from funext TA_4]; exact f4 X G c
  · cases hx; rw [show TA 7 = P7 from funext TA_7]; exact f7 X G c
  · cases hx; rw [show TA 9 = P9 from funext TA_9]; exact f9 X G c
  · cases hx; rw [show TA 11 = P11 from funext TA_11]; exact f11 X G c
  · cases hx; rw [show TA 12 = P12 from funext TA_12]; exact f12 X G c
theorem modA (X : K.In h) (G : h.Ns mainGlobals mg) (c : SaysZ fa fn [x_TooMany] file K) (N : List Str) (ok : List Nat) (hok : ∀ i ∈ ok, i ∈ [0, 1, 2, 4, 7, 9, 11, 12]) (kt : List Str) (hkt : kt = [] ∨ kt = KT) : ModM PySem.Challenge.pw_columnwright_k73_tests_and_lessons w K mg base ⟨N, FT, ok, CN, kt⟩ (CTo K) sg TA mk 3 :=
  ⟨bn_ok X G c, cn_ok X G c, fun i x hi hx => tabA X G c i x (hok i hi) hx, fun i x hx => by
    rcases hkt with rfl | rfl
    · simp at hx
    · cases i with
      | zero => cases hx; exact (mkT X G c).mono (by omega)
      | succ i => simp [KT] at hx⟩
theorem f3 (X : K.In h) (G : h.Ns mainGlobals mg) (c : SaysZ fa fn [x_TooMany] file K) : FnM PySem.Challenge.pw_columnwright_k73_tests_and_lessons w K mg base (CTo K) 4 (sg 3) P3 "least_tests" := by
  obtain ⟨fd, F⟩ := c.d.def_ 3 (d := d_least_tests) rfl
  exact FnM.of_def (c := c_least_tests) (Φ := TA) (mk := mk) (ps := ["asks", "many"]) F (He.glo_ok X G (c.d.fact 3 (f := .glo "least_tests") rfl)) sc_least_tests (modA X G c N_least_tests [0, 1, 2] (by decide) _ (.inr rfl)) rfl irOk_least_tests (fun ts _ => ⟨FU, by unfold P3; rfl⟩) (fun _ _ _ _ _ _ us hl => match us, hl with | [_, _], _ => rfl)
theorem f5 (X : K.In h) (G : h.Ns mainGlobals mg) (c : SaysZ fa fn [x_TooMany] file K) : FnM PySem.Challenge.pw_columnwright_k73_tests_and_lessons w K mg base (CTo K) 4 (sg 5) P5 "lesson" := by
  obtain ⟨fd, F⟩ := c.d.def_ 5 (d := d_lesson) rfl
  exact FnM.of_def (c := c_lesson) (Φ := TA) (mk := mk) (ps := ["asks", "many", "thing"]) F (He.glo_ok X G (c.d.fact 5 (f := .glo "lesson") rfl)) sc_lesson (modA X G c N_lesson [1, 2, 4] (by decide) _ (.inr rfl)) rfl irOk_lesson (fun ts _ => ⟨FU, by unfold P5; rfl⟩) (fun _ _ _ _ _ _ us hl => match us, hl with | [_, _, _], _ => rfl)
theorem f8 (X : K.In h) (G : h.Ns mainGlobals mg) (c : SaysZ fa fn [x_TooMany] file K) : FnM PySem.Challenge.pw_columnwright_k73_tests_and_lessons w K mg base (CTo K) 4 (sg 8) P8 "_law_purse" := by
  obtain ⟨fd, F⟩ := c.d.def_ 8 (d := d__law_purse) rfl
  exact FnM.of_def (c := c__law_purse) (Φ := TA) (mk := mk) (ps := ["script"]) F (He.glo_ok X G (c.d.fact 8 (f := .glo "_law_purse") rfl)) sc__law_purse (modA X G c N__law_purse [7] (by decide) _ (.inl rfl)) rfl irOk__law_purse (fun ts _ => ⟨FU, by unfold P8; rfl⟩) (fun _ _ _ _ _ _ us hl => match us, hl with | [_], _ => rfl)
theorem f10 (X : K.In h) (G : h.Ns mainGlobals mg) (c : SaysZ fa fn [x_TooMany] file K) : FnM PySem.Challenge.pw_columnwright_k73_tests_and_lessons w K mg base (CTo K) 4 (sg 10) P10 "_law_row" := by
  obtain ⟨fd, F⟩ := c.d.def_ 10 (d := d__law_row) rfl
  exact FnM.of_def (c := c__law_row) (Φ := TA) (mk := mk) (ps := ["purse", "long", "many"]) F (He.glo_ok X G (c.d.fact 10 (f := .glo "_law_row") rfl)) sc__law_row (modA X G c N__law_row [9] (by decide) _ (.inl rfl)) rfl irOk__law_row (fun ts _ => ⟨FU, by unfold P10; rfl⟩) (fun _ _ _ _ _ _ us hl => match us, hl with | [_, _, _], _ => rfl)
theorem f13 (X : K.In h) (G : h.Ns mainGlobals mg) (c : SaysZ fa fn [x_TooMany] file K) : FnM PySem.Challenge.pw_columnwright_k73_tests_and_lessons w K mg base (CTo K) 4 (sg 13) P13 "_law_fewest" := by
  obtain ⟨fd, F⟩ := c.d.def_ 13 (d := d__law_fewest) rfl
  exact FnM.of_def (c := c__law_fewest) (Φ := TA) (mk := mk) (ps := ["asks", "pairs"]) F (He.glo_ok X G (c.d.fact 13 (f := .glo "_law_fewest") rfl)) sc__law_fewest (modA X G c N__law_fewest [11, 12] (by decide) _ (.inl rfl)) rfl irOk__law_fewest (fun ts _ => ⟨FU, by unfold P13; rfl⟩) (fun _ _ _ _ _ _ us hl => match us, hl with | [_, _], _ => rfl)
theorem modB (X : K.In h) (G : h.Ns mainGlobals mg) (c : SaysZ fa fn [x_TooMany] file K) (N : List Str) (ok : List Nat) (hok : ∀ i ∈ ok, i ∈ [3, 5]) : ModM PySem.Challenge.pw_columnwright_k73_tests_and_lessons w K mg base ⟨N, FT, ok, CN, []⟩ (CTo K) sg TB mk 4 :=
  ⟨bn_ok X G c, cn_ok X G c, fun i x hi hx => by
    have := hok i hi
    simp only [List.mem_cons, List.not_mem_nil, or_false] at this
    rcases this with rfl | rfl
    · cases hx; rw [show TB 3 = P3 from funext TB_3]; exact f3 X G c
    · cases hx; rw [show TB 5 = P5 from funext TB_5]; exact f5 X G c, fun i x hx => by simp at hx⟩
theorem f6 (X : K.In h) (G : h.Ns mainGlobals mg) (c : SaysZ fa fn [x_TooMany] file K) : FnM PySem.Challenge.pw_columnwright_k73_tests_and_lessons w K mg base (CTo K) 5 (sg 6) P6 "hardest" := by
  obtain ⟨fd, F⟩ := c.d.def_ 6 (d := d_hardest) rfl
  exact FnM.of_def (c := c_hardest) (Φ := TB) (mk := mk) (ps := ["asks", "many"]) F (He.glo_ok X G (c.d.fact 6 (f := .glo "hardest") rfl)) sc_hardest (modB X G c N_hardest [5] (by decide)) rfl irOk_hardest (fun ts _ => ⟨FU, by unfold P6; rfl⟩) (fun _ _ _ _ _ _ us hl => match us, hl with | [_, _], _ => rfl)
theorem f14 (X : K.In h) (G : h.Ns mainGlobals mg) (c : SaysZ fa fn [x_TooMany] file K) : FnM PySem.Challenge.pw_columnwright_k73_tests_and_lessons w K mg base (CTo K) 5 (sg 14) P14 "_law_refused" := by
  obtain ⟨fd, F⟩ := c.d.def_ 14 (d := d__law_refused) rfl
  have hT : mg "TooMany" = some (.ref (He.ga K "TooMany")) := by
    have := c.sup x_TooMany (List.mem_singleton.mpr rfl)
    unfold supB at this
    simp only [Bool.and_eq_true] at this
    exact PySem.W.mg_of X G (He.eqO_ok this.2.2.1)
  have hno : PySem.W.findIn K (.ref (He.ga K "TooMany")) "limit" = some none := by
    have := c.sup x_TooMany (List.mem_singleton.mpr rfl)
    unfold supB at this
    simp only [Bool.and_eq_true, List.all_eq_true] at this
    exact He.eqO_ok (this.2.2.2.2.2.2.2.2.2.2 ("limit", 1) (List.mem_singleton.mpr rfl))
  refine ⟨_, fd, ["which", "asks"], He.glo_ok X G (c.d.fact 14 (f := .glo "_law_refused") rfl), F.kp, F.bindsN (fun _ _ _ _ _ _ us hl => match us, hl with | [_, _], _ => rfl), ?_⟩
  exact rf_ok (c := c_ref) (CT := CTo K) (sg := sg) (Φ := TB) (mk := mk) (k := 4) (sb := sb0) (D := 0) F sc_ref (modB X G c N_ref [3, 5] (by decide)) rfl rfOk_ref (He.glo_ok X G (c.d.fact 29 (f := .glo "ColumnError") rfl))
    (fun q _ => He.exm_ok (c.d.fact 30 (f := .exm "TooMany" "ColumnError" true) rfl)) hT (He.free_ok X G (c.d.fact 27 (f := .free "isinstance") rfl)) (c.xf x_TooMany (List.mem_singleton.mpr rfl)) hno (fun ts _ => ⟨FU, by unfold P14; rfl⟩)
end
end K73

set_option Elab.async false
set_option linter.all false
set_option autoImplicit false
set_option maxRecDepth 100000
set_option maxHeartbeats 2000000
namespace K73
open PySem PySem.Spec PyProof.Rows Ev
section
variable {w : World} {K : PySem.W.Frag} {mg : Str → Option Value} {base h : Heap}
theorem modC (X : K.In h) (G : h.Ns mainGlobals mg) (c : SaysZ fa fn [x_TooMany] file K) : ModM PySem.Challenge.pw_columnwright_k73_tests_and_lessons w K mg base c_law (CTo K) sg TC mk 5 :=
  ⟨bn_ok X G c, cn_ok X G c, fun i x hi hx => by
    have hi : i ∈ [3, 5, 6, 8, 9, 10, 13, 14] := hi
    simp only [List.mem_cons, List.not_mem_nil, or_false] at hi
    rcases hi with rfl | rfl | rfl | rfl | rfl | rfl | rfl | rfl
    · cases hx; rw [show TC 3 = P3 from funext TC_3]; exact (f3 X G c).mono (by omega)
    · cases hx; rw [show TC 5 = P5 from funext TC_5]; exact (f5 X G c).mono (by omega)
    · cases hx; rw [show TC 6 = P6 from funext TC_6]; exact f6 X G c
    · cases hx; rw [show TC 8 = P8 from funext TC_8]; exact (f8 X G c).mono (by omega)
    · cases hx; rw [show TC 9 = P9 from funext TC_9]; exact (f9 X G c).mono (by omega)
    · cases hx; rw [show TC 10 = P10 from funext TC_10]; exact (f10 X G c).mono (by omega)
    · cases hx; rw [show TC 13 = P13 from funext TC_13]; exact (f13 X G c).mono (by omega)
    · cases hx; rw [show TC 14 = P14 from funext TC_14]; exact f14 X G c, fun i x hx => by
    have hx : ([] : List Str)[i]? = some x := hx
    simp at hx⟩
theorem facts {f : Addr} (X : K.In h) (G : h.Ns mainGlobals mg) (hfa : mg ("law" : Str) = some (.ref f)) (c : SaysZ fa fn [x_TooMany] file K) :
    ∃ fd : FuncData, (∀ (s : Shared) (v : Value), BindsTo s fd ⟨[v], []⟩ [("script", v)]) ∧ ∀ base : Heap, K.In base → base.Ns mainGlobals mg → L2.FnOk PySem.Challenge.pw_columnwright_k73_tests_and_lessons w K mg base (L2.CX PySem.Challenge.pw_columnwright_k73_tests_and_lessons w) 6 f fd ["script"] (spF K (CTo K) (sg 15) P15) := by
  obtain ⟨fd, F⟩ := c.d.def_ 15 (d := d_law) rfl
  have e := hfa.symm.trans (He.glo_ok X G (c.d.fact 15 (f := .glo "law") rfl))
  cases e
  have b := L2.FunD.bindsA (ps := ["script"]) F fun _ _ _ _ _ _ us hl => match us, hl with | [_], _ => rfl
  refine ⟨fd, fun s v => b s [v] rfl, fun base _ _ => ?_⟩
  exact def_ok (c := c_law) (CT := CTo K) (sg := sg) (Φ := TC) (mk := mk) (k := 5) F sc_law (modC X G c) rfl irOk_law (fun ts _ => ⟨FU, by unfold P15; rfl⟩)
theorem law_sp (hK : ∀ a o, K.lookup a = some o → isLst o = false) (H : L2.Hp) (a : Addr) (ns : List Int) (hl : ns.length ≤ 63) (hS : L2.SqL K H a (ns.map L2.V.int)) : spF K (CTo K) (sg 15) P15 [.ref a] H (fun v _ => v = .bl true) fun _ _ _ => False := by
  have hr : L2.Rd H a (.lst (ns.map L2.V.int)) := by
    rcases hS with h | ⟨o, its, n, e, hc, _⟩
    · exact h
    · have := hK a o e
      unfold isLst at this
      rw [hc] at this
      simp at this
  refine ⟨H, none, [.lst (il ns)], L2.Same.refl _, ?_, ?_⟩
  · unfold ArgsR
    rw [if_neg (by decide)]
    exact ⟨rfl, .lent hr (fun c e => nomatch e) (VRs.ofInts ns) .nil⟩
  · rw [b15 ns hl]
    intro G' H' v _ o
    cases (show VR K G' v (.bl true) from o)
    rfl
end
end K73
open PySem PySem.W PySem.Calls PyProof.Rows
theorem PySem.Challenge.cw_columnwright_k73_tests_and_lessons_holds : PySem.Challenge.rw_columnwright_k73_tests_and_lessons.Holds := by
  w_on; o_law
  refine HandSHeadRun.head_any (r := OpenLaw.row PySem.Challenge.rw_columnwright_k73_tests_and_lessons) (q := view (OpenLaw.row PySem.Challenge.rw_columnwright_k73_tests_and_lessons).prog [22]) (H := K73.hk) (ob := K73.ob) (M := 3000) (loose := K73.loose) (d := HandSHeadRun.topDef (OpenLaw.row PySem.Challenge.rw_columnwright_k73_tests_and_lessons).prog 22) (kwd := []) K73.ob_eq
    (by kernel_rfl) (fun s => by kernel_rfl) K73.run (by kernel_rfl) (by kernel_rfl) (by kernel_rfl) (by rfl) (by first | assumption | decide +kernel) (by decide +kernel) ⟨rfl, rfl, rfl, rfl, rfl, by decide +kernel⟩ ?hw ?hc
  case hw => w_witness2
  case hc =>
    refine Ev.walk_end (l := PySem.Challenge.rw_columnwright_k73_tests_and_lessons) (n := 63) (k := 6) (x := "script") rfl (by decide) (by kernel_rfl) ⟨rfl, by decide, by decide⟩ ?F
    intro w mg fa h Y G hmg0
    obtain ⟨K, KX, c, hK⟩ := Y
    have hmg : mg ("law" : PySem.Str) = some (.ref fa) := by
      have e : (HandSHeadRun.topDef (OpenLaw.row PySem.Challenge.rw_columnwright_k73_tests_and_lessons).prog 22).name = ("law" : PySem.Str) := by kernel_rfl
      rw [← e]
      exact hmg0
    obtain ⟨fd, hb, hF⟩ := K73.facts (w := w) KX G hmg c
    exact ⟨K, fd, _, KX, hb, fun H a ns hl hS => K73.law_sp hK H a ns hl hS, hF⟩
